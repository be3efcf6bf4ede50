import PyProof.Rows.All
import HandS.Conv
import HandS.Deep
import HandS.ExcBuiltin
import HandS.ExcInit
import HandS.ExcIs
import HandS.ExcOwn
import HandS.ForMost
import HandS.IsInst
import HandS.More
import HandS.Replace
import HandS.SetFor
import HandS.Strs
import HandS.Style
import HandS.Text
import HandS.TupAny
import HandS.Walk
import HandS.Wide
import HandS.WordsExc
import HandS.Zip
import KE.DataFind
import KE.DataMinMax
import KE.DatumIndex
import KE.DatumOrd
import KE.GoesEnum
import KE.GoesMore
import KE.GoesZip
import KE.KDictDisplayH
import KE.KDictKeyed
import KE.KExcIs
import KE.KTurns
import KE.KeyNested
import KE.KxIndex
import KE.SortData
import OpenK.AllK
import PyProof.ListStr
import PyProof.Rows.SetFrom
import Wide.All
import Wide.FinOn
import HandS.NoneIn
import HandS.Dict
import HandS.ExcValue
import PySem.Challenge.RW_dialdoubt_k01_refusals_stand_alone
set_option Elab.async false
set_option linter.all false
set_option maxRecDepth 100000
set_option maxHeartbeats 4000000
namespace Lw
open PySem PySem.W PyProof.Rows
set_option maxHeartbeats 0 in
open_top wrap for PySem.Challenge.rw_dialdoubt_k01_refusals_stand_alone
end Lw
namespace M
open PySem PySem.Spec PyProof.Rows L2

abbrev D := PyData
abbrev Frg := PySem.W.Frag
/-- a slot: nothing; a value that never changes; a list that this def may change (l: made here; else handed in); a list that is read only; a dict made here (w: by whose hashes) -/
inductive Sl where
  | no | val (d : D) | own (l : Bool) (ds : List D) | ro (ds : List D) | dct (w : World) (kvs : List (D × D))
abbrev En := List Sl

/-! ### values in a frozen heap -/
/-- a caught exception at a: of the class at C, its own dict at d -/
def ExV (C : Addr) (d : Option Addr) (a : Addr) : HO := .ext fun h => ∃ (oe : Obj) (vs : Array Value), h.get? a = some oe ∧ Zc (.ref C) d oe ∧ oe.data = .fields vs
/-! dicts: by their entries (hash, key, value) -/
def EntR (e : Int × V × V) (x : DictEntry) : Prop := x.hash = e.1 ∧ RelV e.2.1 x.key ∧ RelV e.2.2 x.val
abbrev DicO (a : Addr) (es : List (Int × V × V)) : HO := .ext fun h => ∃ (o : Obj) (xs : Array DictEntry) (ep : Nat), h.get? a = some o ∧ o.ExactDict ∧ o.data = .dict xs ep ∧ (a == sysModules) = false ∧ Paired EntR es xs.toList
mutual
inductive Dt (F : Hp) : V → D → Prop
  | non : Dt F .non .none
  | bl (b : Bool) : Dt F (.bl b) (.bool b)
  | int (i : Int) : Dt F (.int i) (.int i)
  | str (x : Str) : Dt F (.str x) (.str x)
  | lst {a : Addr} {xs : List V} {ds : List D} : F a = some (.lst xs) → Da F xs ds → Dt F (.ref a) (.list ds)
  | tup {a : Addr} {xs : List V} {ds : List D} : F a = some (.tup xs) → Da F xs ds → Dt F (.ref a) (.tuple ds)
  | xc {a C : Addr} : F a = some (ExV C none a) → Dt F (.ref a) (.dict [(.int (C : Int), .none)])
  | xf {a C dd : Addr} {f : Str} {z : Int} : F a = some (ExV C (some dd) a) → F dd = some (.xd [(f, .int z)]) → Dt F (.ref a) (.dict [(.int (C : Int), .tuple [.str f, .int z])])
  | dic {a : Addr} {od : Obj} {es : List (Int × V × V)} {ks vs : List D} : F a = some (.frz od (DicO a es)) → Da F (es.map (·.2.1)) ks → Da F (es.map (·.2.2)) vs → Dt F (.ref a) (.dict [(.none, .list ks), (.list vs, .list (es.map fun e => .int e.1))])
inductive Da (F : Hp) : List V → List D → Prop
  | nil : Da F [] []
  | cons {v : V} {vs : List V} {d : D} {ds : List D} : Dt F v d → Da F vs ds → Da F (v :: vs) (d :: ds)
end
theorem Dt.mono {F F' : Hp} (e : Same F F') (d : D) (v : V) (h : Dt F v d) : Dt F' v d :=
  Dt.rec (motive_1 := fun v d _ => Dt F' v d) (motive_2 := fun vs ds _ => Da F' vs ds) .non .bl .int .str (fun s _ a => .lst (e _ _ s) a) (fun s _ a => .tup (e _ _ s) a) (fun s => .xc (e _ _ s)) (fun s1 s2 => .xf (e _ _ s1) (e _ _ s2)) (fun s _ _ a b => .dic (e _ _ s) a b) .nil (fun _ _ a b => .cons a b) h
theorem Da.mono {F F' : Hp} (e : Same F F') (ds : List D) (vs : List V) (h : Da F vs ds) : Da F' vs ds :=
  Da.rec (motive_1 := fun v d _ => Dt F' v d) (motive_2 := fun vs ds _ => Da F' vs ds) .non .bl .int .str (fun s _ a => .lst (e _ _ s) a) (fun s _ a => .tup (e _ _ s) a) (fun s => .xc (e _ _ s)) (fun s1 s2 => .xf (e _ _ s1) (e _ _ s2)) (fun s _ _ a b => .dic (e _ _ s) a b) .nil (fun _ _ a b => .cons a b) h
mutual
def nd : D → Bool
  | .none => true
  | .bool _ => true
  | .int _ => true
  | .str _ => true
  | .list ds => ndA ds
  | .tuple ds => ndA ds
  | .dict _ => false
def ndA : List D → Bool
  | [] => true
  | d :: ds => nd d && ndA ds
end
theorem ndA_cons {d : D} {ds : List D} (h : ndA (d :: ds) = true) : nd d = true ∧ ndA ds = true := by
  unfold ndA at h
  exact Bool.and_eq_true_iff.mp h
mutual
theorem nd_can : ∀ d : D, d.canLay0 = true → nd d = true
  | .none, _ => by unfold nd; rfl
  | .bool _, _ => by unfold nd; rfl
  | .int _, _ => by unfold nd; rfl
  | .str _, _ => by unfold nd; rfl
  | .list ds, h => by unfold nd; exact ndA_can ds (by unfold PyData.canLay0 at h; exact h)
  | .tuple ds, h => by unfold nd; exact ndA_can ds (by unfold PyData.canLay0 at h; exact h)
  | .dict _, h => by unfold PyData.canLay0 at h; cases h
theorem ndA_can : ∀ ds : List D, PyData.canLayAll0 ds = true → ndA ds = true
  | [], _ => by unfold ndA; rfl
  | d :: ds, h => by
    unfold PyData.canLayAll0 at h
    obtain ⟨h1, h2⟩ := Bool.and_eq_true_iff.mp h
    unfold ndA
    rw [nd_can d h1, ndA_can ds h2]; rfl
end
theorem nd_sh {d : D} (h : SeqAt.shaped d = true) : nd d = true := nd_can d (Bool.and_eq_true_iff.mp h).1
mutual
theorem Dt.dp {K : Frg} {F : Hp} : ∀ (d : D) (v : V), nd d = true → Dt F v d → Dp K F v d
  | .none, _, _, h => by cases h; exact .non
  | .bool _, _, _, h => by cases h; exact .bl _
  | .int _, _, _, h => by cases h; exact .int _
  | .str _, _, _, h => by cases h; exact .str _
  | .list ds, _, n, h => by
    cases h with
    | lst s a => exact .lst (SqL.of s) (Da.dp ds _ (by unfold nd at n; exact n) a)
  | .tuple ds, _, n, h => by
    cases h with
    | tup s a => exact .tup (SqT.of s) (Da.dp ds _ (by unfold nd at n; exact n) a)
  | .dict _, _, n, h => by unfold nd at n; cases n
theorem Da.dp {K : Frg} {F : Hp} : ∀ (ds : List D) (vs : List V), ndA ds = true → Da F vs ds → DpAll K F vs ds
  | [], _, _, h => by cases h; exact .nil
  | d :: ds, _, n, h => by
    cases h with
    | cons h1 h2 => exact .cons (Dt.dp d _ (ndA_cons n).1 h1) (Da.dp ds _ (ndA_cons n).2 h2)
end
theorem Da.length {F : Hp} : ∀ {ds : List D} {vs : List V}, Da F vs ds → vs.length = ds.length
  | [], _, h => by cases h; rfl
  | d :: ds, _, h => by
    cases h with
    | cons h1 h2 => simp [Da.length h2]
theorem Da.append {F : Hp} : ∀ {ds es : List D} {vs us : List V}, Da F vs ds → Da F us es → Da F (vs ++ us) (ds ++ es)
  | [], _, _, _, h, h' => by cases h; exact h'
  | d :: ds, _, _, _, h, h' => by
    cases h with
    | cons h1 h2 => exact .cons h1 (Da.append h2 h')
theorem Da.get {F : Hp} : ∀ {ds : List D} {vs : List V} {i : Nat} {d : D}, Da F vs ds → ds[i]? = some d → ∃ v, vs[i]? = some v ∧ Dt F v d
  | [], _, _, _, _, e => by simp at e
  | d :: ds, _, 0, _, h, e => by
    cases h with
    | cons h1 h2 => simp at e; subst e; exact ⟨_, rfl, h1⟩
  | d :: ds, _, i + 1, _, h, e => by
    cases h with
    | cons h1 h2 =>
      obtain ⟨v, h3, h4⟩ := Da.get (i := i) h2 (by simpa using e)
      exact ⟨v, by simpa using h3, h4⟩
theorem Da.get' {F : Hp} {ds : List D} {vs : List V} {i : Nat} {v : V} (h : Da F vs ds) (e : vs[i]? = some v) : ∃ d, ds[i]? = some d ∧ Dt F v d := by
  have hi : i < vs.length := (List.getElem?_eq_some_iff.mp e).1
  have hj : i < ds.length := by rw [← h.length]; exact hi
  obtain ⟨u, h1, h2⟩ := h.get (List.getElem?_eq_getElem hj)
  rw [e] at h1; cases h1
  exact ⟨_, List.getElem?_eq_getElem hj, h2⟩
theorem Da.of {F : Hp} : ∀ {ds : List D} {vs : List V}, vs.length = ds.length → (∀ (i : Nat) v d, vs[i]? = some v → ds[i]? = some d → Dt F v d) → Da F vs ds
  | [], [], _, _ => .nil
  | [], _ :: _, h, _ => by simp at h
  | _ :: _, [], h, _ => by simp at h
  | d :: ds, v :: vs, h, g => .cons (g 0 v d rfl rfl) (Da.of (by simpa using h) fun i u e h1 h2 => g (i + 1) u e (by simpa using h1) (by simpa using h2))
theorem Da.pick {F : Hp} {ds es : List D} {vs us : List V} (h : Da F vs ds) (hl : us.length = es.length) (g : ∀ (i : Nat) v d, us[i]? = some v → es[i]? = some d → ∃ j : Nat, vs[j]? = some v ∧ ds[j]? = some d) : Da F us es :=
  Da.of hl fun i v d h1 h2 => by
    obtain ⟨j, e1, e2⟩ := g i v d h1 h2
    obtain ⟨d', e, q⟩ := h.get' e1
    rw [e2] at e; cases e; exact q
theorem Da.take {F : Hp} {ds : List D} {vs : List V} (h : Da F vs ds) (n : Nat) : Da F (vs.take n) (ds.take n) :=
  h.pick (by simp [h.length]) fun i v d h1 h2 => by
    rw [List.getElem?_take] at h1 h2
    split at h1
    · rename_i hn
      rw [if_pos hn] at h2
      exact ⟨i, h1, h2⟩
    · cases h1
theorem Da.drop {F : Hp} {ds : List D} {vs : List V} (h : Da F vs ds) (n : Nat) : Da F (vs.drop n) (ds.drop n) :=
  h.pick (by simp [h.length]) fun i v d h1 h2 => by
    rw [List.getElem?_drop] at h1 h2
    exact ⟨n + i, h1, h2⟩
theorem Da.set {F : Hp} {ds : List D} {vs : List V} {d : D} {v : V} (h : Da F vs ds) (q : Dt F v d) (n : Nat) : Da F (vs.set n v) (ds.set n d) := by
  refine Da.of (by simp [h.length]) fun i v' d' h1 h2 => ?_
  by_cases hi : n = i
  · subst hi
    have l1 : n < vs.length := by have := (List.getElem?_eq_some_iff.mp h1).1; simpa using this
    have l2 : n < ds.length := by rw [← h.length]; exact l1
    rw [List.getElem?_set_self l1] at h1
    rw [List.getElem?_set_self l2] at h2
    cases h1; cases h2; exact q
  · rw [List.getElem?_set_ne hi] at h1 h2
    obtain ⟨d2, e, q'⟩ := h.get' h1
    rw [h2] at e; cases e; exact q'
/-- a def's frame: what is frozen and what stands at its entry; the pinned objects; the slots at entry -/
structure Gm where
  F0 : Hp
  H0 : Hp
  P : Hp
  R : Hp
  s0 : L2.St

mutual
def nkOf : D → Option NestedKey
  | .none => some .none
  | .bool b => some (.num (if b then 1 else 0))
  | .int i => some (.num i)
  | .str x => some (.text x)
  | .tuple ds => (nkAll ds).map .tup
  | .list _ => none
  | .dict _ => none
def nkAll : List D → Option (List NestedKey)
  | [] => some []
  | d :: ds => (nkOf d).bind fun k => (nkAll ds).map fun ks => k :: ks
end
def EntOk (F : Hp) (w : World) (e : Int × V × V) (p : D × D) : Prop := (∃ nk, nkOf p.1 = some nk ∧ e.1 = nk.hash w) ∧ Dt F e.2.1 p.1 ∧ Dt F e.2.2 p.2
structure EntsOk (F : Hp) (w : World) (es : List (Int × V × V)) (kvs : List (D × D)) : Prop where
  all : Paired (EntOk F w) es kvs
  nd : (kvs.map fun p => nkOf p.1).Nodup
  le : kvs.length ≤ sizeLine
theorem EntsOk.mono {F F' : Hp} (e : Same F F') {w : World} {es : List (Int × V × V)} {kvs : List (D × D)} (h : EntsOk F w es kvs) : EntsOk F' w es kvs where
  all := by
    have : ∀ {es : List (Int × V × V)} {kvs : List (D × D)}, Paired (EntOk F w) es kvs → Paired (EntOk F' w) es kvs := fun {es kvs} h => by
      induction h with
      | nil => exact .nil
      | cons r _ ih => exact .cons ⟨r.1, Dt.mono e _ _ r.2.1, Dt.mono e _ _ r.2.2⟩ ih
    exact this h.all
  nd := h.nd
  le := h.le
structure DcOk (G : Gm) (F : Hp) (env : En) (s : L2.St) (H : Hp) : Prop where
  at' : ∀ (i : Nat) w kvs, env[i]? = some (.dct w kvs) → ∃ a es, s[i]? = some (some (.ref a)) ∧ H a = some (DicO a es) ∧ F a = none ∧ G.P a = none ∧ G.H0 a = none ∧ EntsOk F w es kvs
  sep : ∀ (i j : Nat) w kvs w' kvs', env[i]? = some (.dct w kvs) → env[j]? = some (.dct w' kvs') → s[i]? = s[j]? → i = j
theorem DcOk.move {G G' : Gm} {F F' : Hp} {env env' : En} {s s' : L2.St} {H H' : Hp} (k : DcOk G F env s H) (hF : Same F F') (he : ∀ (i : Nat) w kvs, env'[i]? = some (.dct w kvs) → env[i]? = some (.dct w kvs) ∧ s'[i]? = s[i]?)
    (hH : ∀ a es, H a = some (DicO a es) → F a = none → G.P a = none → G.H0 a = none → (∃ (i : Nat) (w : World) (kvs : List (D × D)), env[i]? = some (.dct w kvs) ∧ s[i]? = some (some (.ref a))) → H' a = some (DicO a es) ∧ F' a = none ∧ G'.P a = none ∧ G'.H0 a = none) : DcOk G' F' env' s' H' where
  at' := fun i w kvs e => by
    obtain ⟨e1, e2⟩ := he i w kvs e
    obtain ⟨a, es, h1, h2, h3, h4, h5, h6⟩ := k.at' i w kvs e1
    obtain ⟨g2, g3, g4, g5⟩ := hH a es h2 h3 h4 h5 ⟨i, w, kvs, e1, h1⟩
    exact ⟨a, es, e2.trans h1, g2, g3, g4, g5, h6.mono hF⟩
  sep := fun i j w kvs w' kvs' e1 e2 e3 => by
    obtain ⟨f1, f2⟩ := he i w kvs e1
    obtain ⟨f3, f4⟩ := he j w' kvs' e2
    exact k.sep i j _ _ _ _ f1 f3 (f2.symm.trans (e3.trans f4))
/-- nothing but the slots changes -/
theorem DcOk.slots {G : Gm} {F : Hp} {env env' : En} {s s' : L2.St} {H : Hp} (k : DcOk G F env s H) (he : ∀ (i : Nat) w kvs, env'[i]? = some (.dct w kvs) → env[i]? = some (.dct w kvs) ∧ s'[i]? = s[i]?) : DcOk G F env' s' H :=
  k.move (fun _ _ e => e) he fun a es h1 h2 h3 h4 _ => ⟨h1, h2, h3, h4⟩
structure Ok (K : Frg) (G : Gm) (F : Hp) (env : En) (s : L2.St) (H : Hp) : Prop where
  len : s.length = env.length
  fr : Same F H
  val : ∀ (i : Nat) d, env[i]? = some (.val d) → ∃ v, s[i]? = some (some v) ∧ Dt F v d
  own : ∀ (i : Nat) l ds, env[i]? = some (.own l ds) → ∃ a vs, s[i]? = some (some (.ref a)) ∧ H a = some (.lst vs) ∧ F a = none ∧ G.P a = none ∧ Da F vs ds ∧ (l = true → G.H0 a = none) ∧ (l = false → G.s0[i]? = some (some (.ref a)))
  ro : ∀ (i : Nat) ds, env[i]? = some (.ro ds) → ∃ a vs, s[i]? = some (some (.ref a)) ∧ SqL K G.R a vs ∧ Da F vs ds
  sep : ∀ (i j : Nat) l ds m es, env[i]? = some (.own l ds) → env[j]? = some (.own m es) → s[i]? = s[j]? → i = j
  pin : Same G.P H
  dom : ∀ a, H a = none → G.H0 a = none
  grow : Same G.F0 F
  new : ∀ a o, F a = some o → G.F0 a = some o ∨ G.H0 a = none
  rin : Same G.R G.P
  dct : DcOk G F env s H

theorem same_upd {F : Hp} {p : Addr} {o : HO} (h : F p = none) : Same F (upd F p o) := fun b x e => by
  rw [upd_ne (ne_of_none e h)]
  exact e
theorem same_laid {F H : Hp} {p : Addr} {o : HO} (e : Same F H) (hp : H p = none) : Same F (upd H p o) := fun a u q => by
  have := e a u q
  rw [upd_ne (ne_of_none this hp)]; exact this

section
variable {K : Frg} {G : Gm} {F : Hp} {env : En} {s : L2.St} {H : Hp} {p : Addr} {o : HO}
/-- a new object, not frozen -/
theorem Ok.laid (k : Ok K G F env s H) (hp : H p = none) : Ok K G F env s (upd H p o) where
  len := k.len
  fr := same_laid k.fr hp
  val := k.val
  own := fun i l ds e => by
    obtain ⟨a, vs, h1, h2, h3⟩ := k.own i l ds e
    exact ⟨a, vs, h1, by rw [upd_ne (ne_of_none h2 hp)]; exact h2, h3⟩
  ro := k.ro
  sep := k.sep
  pin := same_laid k.pin hp
  dom := fun a e => by
    by_cases h : a = p
    · subst h; rw [upd_same] at e; cases e
    · rw [upd_ne h] at e; exact k.dom a e
  grow := k.grow
  new := k.new
  rin := k.rin
  dct := k.dct.move (fun _ _ e => e) (fun _ _ _ e => ⟨e, rfl⟩) fun a es h1 h2 h3 h4 _ => ⟨by rw [upd_ne (ne_of_none h1 hp)]; exact h1, h2, h3, h4⟩
theorem Ok.notdct (k : Ok K G F env s H) {q : HO} (hp : H p = some q) (hq : ∀ es, q ≠ DicO p es) : ∀ (j : Nat) w kvs, env[j]? = some (.dct w kvs) → s[j]? ≠ some (some (.ref p)) := fun j w kvs e z => by
  obtain ⟨a, es, h1, h2, _⟩ := k.dct.at' j w kvs e
  rw [z] at h1
  cases h1
  rw [hp] at h2
  exact hq es (Option.some.inj h2)
theorem Ok.notdctL (k : Ok K G F env s H) {vs : List V} (hp : H p = some (.lst vs)) : ∀ (j : Nat) w kvs, env[j]? = some (.dct w kvs) → s[j]? ≠ some (some (.ref p)) := k.notdct hp fun _ h => nomatch h
theorem Ok.notdctT (k : Ok K G F env s H) {vs : List V} (hp : H p = some (.tup vs)) : ∀ (j : Nat) w kvs, env[j]? = some (.dct w kvs) → s[j]? ≠ some (some (.ref p)) := k.notdct hp fun _ h => nomatch h
theorem Ok.notdctN (k : Ok K G F env s H) (hp : H p = none) : ∀ (j : Nat) w kvs, env[j]? = some (.dct w kvs) → s[j]? ≠ some (some (.ref p)) := fun j w kvs e z => by
  obtain ⟨a, es, h1, h2, _⟩ := k.dct.at' j w kvs e
  rw [z] at h1
  cases h1
  rw [hp] at h2; cases h2
/-- freezing -/
theorem Ok.freeze (k : Ok K G F env s H) (h1 : H p = some o) (h2 : F p = none) (h3 : G.H0 p = none) (h4 : ∀ (j : Nat) l es, env[j]? = some (.own l es) → s[j]? ≠ some (some (.ref p))) (h5 : ∀ (j : Nat) w kvs, env[j]? = some (.dct w kvs) → s[j]? ≠ some (some (.ref p))) : Ok K G (upd F p o) env s H where
  len := k.len
  fr := fun a u e => by
    by_cases h : a = p
    · subst h; rw [upd_same] at e; rw [h1]; exact e
    · rw [upd_ne h] at e; exact k.fr a u e
  val := fun i d e => by
    obtain ⟨v, q1, q2⟩ := k.val i d e
    exact ⟨v, q1, Dt.mono (same_upd h2) d v q2⟩
  own := fun i l ds e => by
    obtain ⟨a, us, q1, q2, q3, q4, q5, q6⟩ := k.own i l ds e
    have ne : a ≠ p := fun z => by subst z; exact h4 i l ds e q1
    exact ⟨a, us, q1, q2, by rw [upd_ne ne]; exact q3, q4, Da.mono (same_upd h2) ds us q5, q6⟩
  ro := fun i ds e => by
    obtain ⟨a, us, q1, q2, q3⟩ := k.ro i ds e
    exact ⟨a, us, q1, q2, Da.mono (same_upd h2) ds us q3⟩
  sep := k.sep
  pin := k.pin
  dom := k.dom
  grow := k.grow.trans (same_upd h2)
  new := fun a u e => by
    by_cases h : a = p
    · subst h; exact .inr h3
    · rw [upd_ne h] at e; exact k.new a u e
  rin := k.rin
  dct := k.dct.move (same_upd h2) (fun _ _ _ e => ⟨e, rfl⟩) fun a es g1 g2 g3 g4 ⟨i, w, kvs, g5, g6⟩ => ⟨g1, by
    have ne : a ≠ p := fun z => by subst z; exact h5 i w kvs g5 g6
    rw [upd_ne ne]; exact g2, g3, g4⟩
theorem Ok.notown (k : Ok K G F env s H) (hp : H p = none) : ∀ (j : Nat) l es, env[j]? = some (.own l es) → s[j]? ≠ some (some (.ref p)) := fun j l es e z => by
  obtain ⟨a, vs, h1, h2, _⟩ := k.own j l es e
  rw [z] at h1
  cases h1
  rw [hp] at h2; cases h2
/-- a new object, frozen at once -/
theorem Ok.alloc (k : Ok K G F env s H) (hp : H p = none) : Ok K G (upd F p o) env s (upd H p o) :=
  (k.laid hp).freeze upd_same (k.fr.free hp) (k.dom p hp) (k.notown hp) (k.notdctN hp)
end

/-- a value frozen, or a list that the def owns or may read -/
def Dq (K : Frg) (F H : Hp) (v : V) (d : D) : Prop := Dt F v d ∨ ∃ a vs ds, v = .ref a ∧ d = .list ds ∧ SqL K H a vs ∧ Da F vs ds
theorem Dq.dp {K : Frg} {F H : Hp} {v : V} {d : D} (e : Same F H) (n : nd d = true) (h : Dq K F H v d) : Dp K H v d := by
  rcases h with h | ⟨a, vs, ds, rfl, rfl, h1, h2⟩
  · exact Dt.dp d v n (Dt.mono e d v h)
  · exact .lst h1 (Da.dp ds vs (by unfold nd at n; exact n) (Da.mono e ds vs h2))
theorem Dq.list {K : Frg} {F H : Hp} {v : V} {ds : List D} (e : Same F H) (h : Dq K F H v (.list ds)) : ∃ a vs, v = .ref a ∧ SqL K H a vs ∧ Da F vs ds := by
  rcases h with h | ⟨a, vs, es, rfl, e2, h1, h2⟩
  · cases h with
    | lst s a => exact ⟨_, _, rfl, SqL.of (e _ _ s), a⟩
  · cases e2
    exact ⟨a, vs, rfl, h1, h2⟩
theorem Dq.tup {K : Frg} {F H : Hp} {v : V} {ds : List D} (e : Same F H) (h : Dq K F H v (.tuple ds)) : ∃ a vs, v = .ref a ∧ H a = some (.tup vs) ∧ F a = some (.tup vs) ∧ Da F vs ds := by
  rcases h with h | ⟨a, vs, es, rfl, e2, h1, h2⟩
  · cases h with
    | tup s a => exact ⟨_, _, rfl, e _ _ s, s, a⟩
  · cases e2
theorem Dq.int {K : Frg} {F H : Hp} {v : V} {i : Int} (h : Dq K F H v (.int i)) : v = .int i := by
  rcases h with h | ⟨a, vs, ds, rfl, e, h1, h2⟩
  · cases h; rfl
  · cases e
theorem Dq.bl {K : Frg} {F H : Hp} {v : V} {i : Bool} (h : Dq K F H v (.bool i)) : v = .bl i := by
  rcases h with h | ⟨a, vs, ds, rfl, e, h1, h2⟩
  · cases h; rfl
  · cases e
theorem Dq.str {K : Frg} {F H : Hp} {v : V} {i : Str} (h : Dq K F H v (.str i)) : v = .str i := by
  rcases h with h | ⟨a, vs, ds, rfl, e, h1, h2⟩
  · cases h; rfl
  · cases e
theorem Dq.non {K : Frg} {F H : Hp} {v : V} (h : Dq K F H v .none) : v = .non := by
  rcases h with h | ⟨a, vs, ds, rfl, e, h1, h2⟩
  · cases h; rfl
  · cases e
/-! ### judgements -/
abbrev Ef := En → Option (D × En)
abbrev Bf := En → Option (Bool × En)
abbrev Lf := En → Option (List D × En)
def RE (K : Frg) (t : TE) (f : Ef) : Prop := ∀ G F env s H d env', Ok K G F env s H → f env = some (d, env') → ∀ Q : VK, (∀ F' H' v, Ok K G F' env' s H' → Same F F' → Dt F' v d → Q v H') → t s H Q
/-- the value may be one of the def's own lists -/
def RO (K : Frg) (t : TE) (f : Ef) : Prop := ∀ G F env s H d env', Ok K G F env s H → f env = some (d, env') → ∀ Q : VK, (∀ F' H' v, Ok K G F' env' s H' → Same F F' → Dq K F' H' v d → Q v H') → t s H Q
/-- a new list, nobody's yet -/
def RN (K : Frg) (t : TE) (f : Lf) : Prop := ∀ G F env s H ds env', Ok K G F env s H → f env = some (ds, env') → ∀ Q : VK,
  (∀ F' H' p vs, Ok K G F' env' s H' → Same F F' → H' p = some (.lst vs) → F' p = none → G.H0 p = none → G.P p = none → (∀ (j : Nat) l es, env'[j]? = some (.own l es) → s[j]? ≠ some (some (.ref p))) → Da F' vs ds → Q (.ref p) H') → t s H Q
def RB (K : Frg) (t : TT) (f : Bf) : Prop := ∀ G F env s H b env', Ok K G F env s H → f env = some (b, env') → ∀ Q : Bool → Hp → Prop, (∀ F' H', Ok K G F' env' s H' → Same F F' → Q b H') → t s H Q
def RL (K : Frg) (t : TA) (f : Lf) : Prop := ∀ G F env s H ds env', Ok K G F env s H → f env = some (ds, env') → ∀ Q : List V → Hp → Prop, (∀ F' H' vs, Ok K G F' env' s H' → Same F F' → Da F' vs ds → Q vs H') → t s H Q

structure XE (X : Cx) (e : Expr) (f : Ef) : Prop where
  ex : ∃ t, PE X e t ∧ RE X.K t f
structure XO (X : Cx) (e : Expr) (f : Ef) : Prop where
  ex : ∃ t, PE X e t ∧ RO X.K t f
structure XN (X : Cx) (e : Expr) (f : Lf) : Prop where
  ex : ∃ t, PE X e t ∧ RN X.K t f
structure XB (X : Cx) (e : Expr) (f : Bf) : Prop where
  ex : ∃ t, PT X e t ∧ RB X.K t f
structure XW (X : Cx) (e : Expr) (f : Bf) : Prop where
  ex : ∃ t, PW X e t ∧ RB X.K t f
structure XL (X : Cx) (es : List Expr) (f : Lf) : Prop where
  ex : ∃ t, PA X es t ∧ RL X.K t f
theorem RE.ro {K : Frg} {t : TE} {f : Ef} (h : RE K t f) : RO K t f := fun G F env s H d env' k e Q q => h G F env s H d env' k e Q fun F' H' v k' s' p => q F' H' v k' s' (.inl p)
theorem XE.xo {X : Cx} {e : Expr} {f : Ef} (h : XE X e f) : XO X e f := let ⟨t, h1, h2⟩ := h.ex; ⟨t, h1, h2.ro⟩
def eFz (f : Lf) : Ef := fun env => (f env).map fun r => (.list r.1, r.2)
theorem RN.re {K : Frg} {t : TE} {f : Lf} (h : RN K t f) : RE K t (eFz f) := fun G F env s H d env' k e Q q => by
  unfold eFz at e
  obtain ⟨⟨ds, e1⟩, e2, e3⟩ := Option.map_eq_some_iff.mp e
  cases e3
  refine h G F env s H ds _ k e2 Q fun F' H' p vs k' s' h1 h2 h3 _ h4 h5 => ?_
  exact q (upd F' p (.lst vs)) H' (.ref p) (k'.freeze h1 h2 h3 h4 (k'.notdctL h1)) (s'.trans (same_upd h2)) (.lst upd_same (Da.mono (same_upd h2) ds vs h5))
theorem XN.xe {X : Cx} {e : Expr} {f : Lf} (h : XN X e f) : XE X e (eFz f) := let ⟨t, h1, h2⟩ := h.ex; ⟨t, h1, h2.re⟩
end M

namespace M
open PySem PySem.Spec PyProof.Rows L2

/-! ### names, constants -/
def eV (i : Nat) : Ef := fun env => match env[i]? with
  | some (.val d) => some (d, env)
  | _ => none
def eO (i : Nat) : Ef := fun env => match env[i]? with
  | some (.val d) => some (d, env)
  | some (.own _ ds) => some (.list ds, env)
  | some (.ro ds) => some (.list ds, env)
  | _ => none
def eC (d : D) : Ef := fun env => some (d, env)
section
variable {X : Cx} {a b c e : Expr} {es : List Expr} {f fa fb fc : Ef} {pos : Pos}
theorem re_var {K : Frg} (i : Nat) : RE K (tVar i) (eV i) := fun G F env s H d env' k e Q q => by
  unfold eV at e
  split at e
  · rename_i d' h
    cases e
    obtain ⟨v, h1, h2⟩ := k.val i _ h
    exact ⟨v, h1, q F H v k (Same.refl F) h2⟩
  · cases e
theorem ro_var {K : Frg} (i : Nat) : RO K (tVar i) (eO i) := fun G F env s H d env' k e Q q => by
  unfold eO at e
  split at e
  · rename_i d' h
    cases e
    obtain ⟨v, h1, h2⟩ := k.val i _ h
    exact ⟨v, h1, q F H v k (Same.refl F) (.inl h2)⟩
  · rename_i l ds h
    cases e
    obtain ⟨p, vs, h1, h2, h3, h4, h5, _⟩ := k.own i l ds h
    exact ⟨_, h1, q F H _ k (Same.refl F) (.inr ⟨p, vs, ds, rfl, rfl, SqL.of h2, h5⟩)⟩
  · rename_i ds h
    cases e
    obtain ⟨p, vs, h1, h2, h3⟩ := k.ro i ds h
    exact ⟨_, h1, q F H _ k (Same.refl F) (.inr ⟨p, vs, ds, rfl, rfl, (k.rin.trans k.pin).seq h2, h3⟩)⟩
  · cases e
theorem xv (i : Nat) {x : Str} {pos : Pos} (hN : X.N[i]? = some x := by rfl) (hv : Vis X.env.scope x := by first | exact Or.inl rfl | exact Or.inr (Or.inl rfl) | exact Or.inr (Or.inr rfl)) (hd : (x == ("__debug__" : Str)) = false := by decide)
    (hcd : (x == ("__classdict__" : Str)) = false := by decide) : XE X (.Name x pos) (eV i) := ⟨_, pe_var hN hv hd hcd, re_var i⟩
theorem xvo (i : Nat) {x : Str} {pos : Pos} (hN : X.N[i]? = some x := by rfl) (hv : Vis X.env.scope x := by first | exact Or.inl rfl | exact Or.inr (Or.inl rfl) | exact Or.inr (Or.inr rfl)) (hd : (x == ("__debug__" : Str)) = false := by decide)
    (hcd : (x == ("__classdict__" : Str)) = false := by decide) : XO X (.Name x pos) (eO i) := ⟨_, pe_var hN hv hd hcd, ro_var i⟩
theorem re_c {K : Frg} {v : V} {d : D} (h : ∀ F, Dt F v d) : RE K (tC v) (eC d) := fun G F env s H d' env' k e Q q => by
  cases e
  exact q F H v k (Same.refl F) (h F)
theorem xe_int {i j pos} : XE X (.Constant (.int i) j pos) (eC (.int i)) := ⟨_, pe_int, re_c fun _ => .int i⟩
theorem xe_bl {b j pos} : XE X (.Constant (.bool b) j pos) (eC (.bool b)) := ⟨_, pe_bl, re_c fun _ => .bl b⟩
theorem xe_str {x j pos} : XE X (.Constant (.str x) j pos) (eC (.str x)) := ⟨_, pe_str, re_c fun _ => .str x⟩
/-! ### two places -/
def GO (K : Frg) (r : R2) (g : D → D → Option D) : Prop := ∀ G F env s H x y d e z, Ok K G F env s H → Dt F x d → Dt F y e → g d e = some z → ∀ Q : VK, (∀ F' H' v, Ok K G F' env s H' → Same F F' → Dt F' v z → Q v H') → r x y H Q
def GQ (K : Frg) (r : R2) (g : D → D → Option D) : Prop := ∀ G F env s H x y d e z, Ok K G F env s H → Dq K F H x d → Dq K F H y e → g d e = some z → ∀ Q : VK, (∀ F' H' v, Ok K G F' env s H' → Same F F' → Dt F' v z → Q v H') → r x y H Q
theorem GQ.go {K : Frg} {r : R2} {g : D → D → Option D} (h : GQ K r g) : GO K r g := fun G F env s H x y d e z k h1 h2 h3 Q q => h G F env s H x y d e z k (.inl h1) (.inl h2) h3 Q q
def eBin (g : D → D → Option D) (fa fb : Ef) : Ef := fun env => (fa env).bind fun r => (fb r.2).bind fun q => (g r.1 q.1).map fun d => (d, q.2)
theorem bin_some {g : D → D → Option D} {fa fb : Ef} {env env' : En} {d : D} (e : eBin g fa fb env = some (d, env')) : ∃ d1 e1 d2, fa env = some (d1, e1) ∧ fb e1 = some (d2, env') ∧ g d1 d2 = some d := by
  unfold eBin at e
  obtain ⟨⟨d1, e1⟩, h1, e⟩ := Option.bind_eq_some_iff.mp e
  obtain ⟨⟨d2, e2⟩, h2, e⟩ := Option.bind_eq_some_iff.mp e
  obtain ⟨z, h3, e⟩ := Option.map_eq_some_iff.mp e
  cases e
  exact ⟨d1, e1, d2, h1, h2, h3⟩
theorem re_bin {K : Frg} {r : R2} {g : D → D → Option D} {ta tb : TE} (ho : GO K r g) (ha : RE K ta fa) (hb : RE K tb fb) : RE K (tOp r ta tb) (eBin g fa fb) := fun G F env s H d env' k e Q q => by
  obtain ⟨d1, e1, d2, h1, h2, h3⟩ := bin_some e
  refine ha G F env s H d1 e1 k h1 _ fun F1 H1 v1 k1 s1 p1 => ?_
  refine hb G F1 e1 s H1 d2 env' k1 h2 _ fun F2 H2 v2 k2 s2 p2 => ?_
  exact ho G F2 env' s H2 v1 v2 d1 d2 d k2 (Dt.mono s2 d1 v1 p1) p2 h3 Q fun F3 H3 v3 k3 s3 p3 => q F3 H3 v3 k3 ((s1.trans s2).trans s3) p3
theorem Dq.up {K : Frg} {F F' H : Hp} {v : V} {d : D} (e : Same F F') (h : Dq K F H v d) : Dq K F' H v d := by
  rcases h with h | ⟨a, vs, ds, h1, h2, h3, h4⟩
  · exact .inl (Dt.mono e d v h)
  · exact .inr ⟨a, vs, ds, h1, h2, h3, Da.mono e ds vs h4⟩
/-- the first one a name -/
def eBinV (g : D → D → Option D) (i : Nat) (fb : Ef) : Ef := fun env => (eO i env).bind fun _ => (fb env).bind fun q => (eO i q.2).bind fun r => (g r.1 q.1).map fun d => (d, q.2)
theorem dq_slot {K : Frg} {G : Gm} {F : Hp} {env env' : En} {s : L2.St} {H : Hp} {i : Nat} {d : D} (k : Ok K G F env s H) (e : eO i env = some (d, env')) : ∃ v, s[i]? = some (some v) ∧ Dq K F H v d := by
  unfold eO at e
  split at e
  · rename_i d' h
    cases e
    obtain ⟨v, h1, h2⟩ := k.val i _ h
    exact ⟨v, h1, .inl h2⟩
  · rename_i l ds h
    cases e
    obtain ⟨p, vs, h1, h2, h3, h4, h5, _⟩ := k.own i l ds h
    exact ⟨_, h1, .inr ⟨p, vs, ds, rfl, rfl, SqL.of h2, h5⟩⟩
  · rename_i ds h
    cases e
    obtain ⟨p, vs, h1, h2, h3⟩ := k.ro i ds h
    exact ⟨_, h1, .inr ⟨p, vs, ds, rfl, rfl, (k.rin.trans k.pin).seq h2, h3⟩⟩
  · cases e
/-- the first operand a name whose list may be the def's own -/
theorem re_binV {K : Frg} {r : R2} {g : D → D → Option D} {tb : TE} {i : Nat} (ho : GQ K r g) (hb : RE K tb fb) : RE K (tOp r (tVar i) tb) (eBinV g i fb) := fun G F env s H d env' k e Q q => by
  unfold eBinV at e
  obtain ⟨⟨d0, e0⟩, h0, e⟩ := Option.bind_eq_some_iff.mp e
  obtain ⟨⟨d2, e2⟩, h2, e⟩ := Option.bind_eq_some_iff.mp e
  obtain ⟨⟨d1, e1⟩, h1, e⟩ := Option.bind_eq_some_iff.mp e
  obtain ⟨z, h3, e⟩ := Option.map_eq_some_iff.mp e
  cases e
  obtain ⟨v, hv, _⟩ := dq_slot k h0
  refine ⟨v, hv, ?_⟩
  refine hb G F env s H d2 e2 k h2 _ fun F2 H2 v2 k2 s2 p2 => ?_
  obtain ⟨v', hv', hd⟩ := dq_slot k2 h1
  rw [hv] at hv'
  cases hv'
  exact ho G F2 e2 s H2 v v2 d1 d2 d k2 hd (.inl p2) h3 Q fun F3 H3 v3 k3 s3 p3 => q F3 H3 v3 k3 (s2.trans s3) p3
end
end M

namespace M
open PySem PySem.Spec PyProof.Rows L2

/-! ### operators -/
def fits (n : Nat) : Bool := decide (n ≤ 16777216)
theorem fits_line {n : Nat} (h : fits n = true) : n ≤ sizeLine := by rw [sizeLine_eq]; exact of_decide_eq_true h
def gAdd : D → D → Option D
  | .int i, .int j => some (.int (i + j))
  | .str x, .str y => if fits (x.length + y.length) then some (.str (x ++ y)) else none
  | .list xs, .list ys => if fits (xs.length + ys.length) then some (.list (xs ++ ys)) else none
  | .tuple xs, .tuple ys => if fits (xs.length + ys.length) then some (.tuple (xs ++ ys)) else none
  | _, _ => none
def gSub : D → D → Option D
  | .int i, .int j => some (.int (i - j))
  | _, _ => none
/-- a product that the model surely makes -/
def mulOk (i j : Int) : Bool := decide (i.natAbs < 2 ^ 64) || decide (j.natAbs < 2 ^ 64) || (decide (i.natAbs < 10 ^ 250 * 10 ^ 250) && decide (j.natAbs < 10 ^ 250 * 10 ^ 250))
theorem mulOk.ok {i j : Int} (h : mulOk i j = true) : IntMulOk i j := by
  unfold mulOk at h
  simp only [Bool.or_eq_true, Bool.and_eq_true, decide_eq_true_eq] at h
  rcases h with (h | h) | ⟨h1, h2⟩
  · exact CMul.ok (.inl (by omega))
  · exact CMul.ok (.inr (by omega))
  · have h8 : (10 ^ 250 * 10 ^ 250 : Nat) ≤ 2 ^ 1700 := by decide +kernel
    exact CMulW.ok (wide_mul (a := 1700) (b := 1700) (Nat.lt_of_lt_of_le h1 h8) (Nat.lt_of_lt_of_le h2 h8) (by decide) (by decide) (by decide))
def gMul : D → D → Option D
  | .int i, .int j => if mulOk i j then some (.int (i * j)) else none
  | .list xs, .int k => if decide (0 ≤ k) && decide (k < 1000000) && fits (xs.length * k.toNat) then some (.list (List.replicate k.toNat xs).flatten) else none
  | _, _ => none
def divOk (j : Int) : Bool := decide (0 < j) && decide (j < 10 ^ 250 * 10 ^ 250)
def gDiv : D → D → Option D
  | .int i, .int j => if divOk j then some (.int (i / j)) else none
  | _, _ => none
def gMod : D → D → Option D
  | .int i, .int j => if decide (0 < j) then some (.int (i % j)) else none
  | _, _ => none
def gPow : D → D → Option D
  | .int i, .int j => if decide (0 ≤ j) && decide (j ≤ 1000000) && decide (i.natAbs < 2 ^ 64) then some (.int (i ^ j.toNat)) else none
  | _, _ => none
theorem GO.intro {K : Frg} {r : R2} {g : D → D → Option D} (h : ∀ G F env s H x y d e z, Ok K G F env s H → Dt F x d → Dt F y e → g d e = some z → ∀ Q : VK, (∀ F' H' v, Ok K G F' env s H' → Same F F' → Dt F' v z → Q v H') → r x y H Q) : GO K r g := h

section
variable {X : Cx}
def rAddA (K : Frg) : R2 := fun x y H Q => (rI0 fun i j => .int (i + j)) x y H Q ∨ (∃ i j, x = .str i ∧ y = .str j ∧ i.length + j.length ≤ sizeLine ∧ Q (.str (i ++ j)) H) ∨ rCat x y H Q ∨ rCatA K x y H Q
theorem op_addA : OpR X (binaryOp .Add) (rAddA X.K) := op_add.or (op_add_str.or (op_cat.or op_catA))
theorem go_add {K : Frg} : GO K (rAddA K) gAdd := by
  intro G F env s H x y d e z k h1 h2 h3 Q q
  unfold gAdd at h3
  split at h3
  · cases h1; cases h2; cases h3
    exact .inl ⟨_, _, rfl, rfl, q F H _ k (Same.refl F) (.int _)⟩
  · split at h3
    · rename_i hf
      cases h1; cases h2; cases h3
      exact .inr (.inl ⟨_, _, rfl, rfl, fits_line hf, q F H _ k (Same.refl F) (.str _)⟩)
    · cases h3
  · split at h3
    · rename_i hf
      cases h3
      cases h1 with
      | lst a1 b1 =>
        cases h2 with
        | lst a2 b2 =>
          refine .inr (.inr (.inl ⟨_, _, _, _, rfl, rfl, k.fr _ _ a1, k.fr _ _ a2, by rw [b1.length, b2.length]; exact fits_line hf, fun p hp => ?_⟩))
          exact q _ _ _ (k.alloc hp) (same_upd (k.fr.free hp)) (.lst upd_same (Da.mono (same_upd (k.fr.free hp)) _ _ (b1.append b2)))
    · cases h3
  · split at h3
    · rename_i hf
      cases h3
      cases h1 with
      | tup a1 b1 =>
        cases h2 with
        | tup a2 b2 =>
          refine .inr (.inr (.inr ⟨_, _, _, _, rfl, rfl, SqT.of (k.fr _ _ a1), SqT.of (k.fr _ _ a2), by rw [b1.length, b2.length]; exact fits_line hf, fun e0 => ?_, fun _ e0 => ?_, fun _ _ p hp => ?_⟩))
          · subst e0; cases b1
            exact q F H _ k (Same.refl F) (.tup a2 b2)
          · subst e0; cases b2
            rw [List.append_nil] at *
            exact q F H _ k (Same.refl F) (.tup a1 b1)
          · exact q _ _ _ (k.alloc hp) (same_upd (k.fr.free hp)) (.tup upd_same (Da.mono (same_upd (k.fr.free hp)) _ _ (b1.append b2)))
    · cases h3
  · cases h3
theorem go_mod {K : Frg} : GO K (rI (fun _ j => 0 < j) fun i j => .int (i % j)) gMod := by
  intro G F env s H x y d e z k h1 h2 h3 Q q
  unfold gMod at h3
  split at h3
  · split at h3
    · rename_i hf
      cases h1; cases h2; cases h3
      exact ⟨_, _, rfl, rfl, of_decide_eq_true hf, q F H _ k (Same.refl F) (.int _)⟩
    · cases h3
  · cases h3
theorem go_pow {K : Frg} : GO K (rI CPow fun i j => .int (i ^ j.toNat)) gPow := by
  intro G F env s H x y d e z k h1 h2 h3 Q q
  unfold gPow at h3
  split at h3
  · split at h3
    · rename_i hf
      cases h1; cases h2; cases h3
      simp only [Bool.and_eq_true, decide_eq_true_eq] at hf
      exact ⟨_, _, rfl, rfl, ⟨hf.1.1, hf.1.2, hf.2⟩, q F H _ k (Same.refl F) (.int _)⟩
    · cases h3
  · cases h3
variable {a b c e : Expr} {f fa fb fc : Ef} {pos : Pos}
theorem xe_op {op : Operator} {r : R2} {g : D → D → Option D} (ho : OpR X (binaryOp op) r) (hg : GO X.K r g) (ha : XE X a fa) (hb : XE X b fb) : XE X (.BinOp a op b pos) (eBin g fa fb) :=
  let ⟨_, h1, h2⟩ := ha.ex; let ⟨_, h3, h4⟩ := hb.ex; ⟨_, pe_op ho h1 h3, re_bin hg h2 h4⟩
theorem xe_add (ha : XE X a fa) (hb : XE X b fb) : XE X (.BinOp a .Add b pos) (eBin gAdd fa fb) := xe_op op_addA go_add ha hb
theorem xe_mod (ha : XE X a fa) (hb : XE X b fb) : XE X (.BinOp a .Mod b pos) (eBin gMod fa fb) := xe_op op_mod go_mod ha hb
theorem xe_pow (ha : XE X a fa) (hb : XE X b fb) : XE X (.BinOp a .Pow b pos) (eBin gPow fa fb) := xe_op op_pow go_pow ha hb
/-! ### one place -/
def eUn (g : D → Option D) (fa : Ef) : Ef := fun env => (fa env).bind fun r => (g r.1).map fun d => (d, r.2)
theorem un_some {g : D → Option D} {fa : Ef} {env env' : En} {d : D} (e : eUn g fa env = some (d, env')) : ∃ d1, fa env = some (d1, env') ∧ g d1 = some d := by
  unfold eUn at e
  obtain ⟨⟨d1, e1⟩, h1, e⟩ := Option.bind_eq_some_iff.mp e
  obtain ⟨z, h3, e⟩ := Option.map_eq_some_iff.mp e
  cases e
  exact ⟨d1, h1, h3⟩
def gNeg : D → Option D
  | .int i => some (.int (-i))
  | _ => none
/-! ### comparisons -/
def gLt : D → D → Option D
  | .int i, .int j => some (.bool (decide (i < j)))
  | _, _ => none
def gLe : D → D → Option D
  | .int i, .int j => some (.bool (decide (i ≤ j)))
  | _, _ => none
def gGt : D → D → Option D
  | .int i, .int j => some (.bool (decide (j < i)))
  | _, _ => none
def gGe : D → D → Option D
  | .int i, .int j => some (.bool (decide (j ≤ i)))
  | _, _ => none
theorem gq_lt {K : Frg} : GQ K (rI0 fun i j => .bl (decide (i < j))) gLt := by
  intro G F env s H x y d e z k h1 h2 h3 Q q
  unfold gLt at h3
  split at h3
  · cases h3; exact ⟨_, _, h1.int, h2.int, q F H _ k (Same.refl F) (.bl _)⟩
  · cases h3
def shp (d : D) : Bool := SeqAt.shaped d
def gEq (d e : D) : Option D := if shp d && shp e then some (.bool (PyData.eqv d e)) else none
def gNe (d e : D) : Option D := if shp d && shp e then some (.bool (!PyData.eqv d e)) else none
theorem gq_eq {K : Frg} : GQ K (rEqD K) gEq := by
  intro G F env s H x y d e z k h1 h2 h3 Q q
  unfold gEq at h3
  split at h3
  · rename_i hf
    cases h3
    rw [Bool.and_eq_true] at hf
    exact ⟨d, e, h1.dp k.fr (nd_sh hf.1), h2.dp k.fr (nd_sh hf.2), hf.1, hf.2, q F H _ k (Same.refl F) (.bl _)⟩
  · cases h3
theorem gq_ne {K : Frg} : GQ K (rNeD K) gNe := by
  intro G F env s H x y d e z k h1 h2 h3 Q q
  unfold gNe at h3
  split at h3
  · rename_i hf
    cases h3
    rw [Bool.and_eq_true] at hf
    exact ⟨d, e, h1.dp k.fr (nd_sh hf.1), h2.dp k.fr (nd_sh hf.2), hf.1, hf.2, q F H _ k (Same.refl F) (.bl _)⟩
  · cases h3
def bV (f : Ef) : Bf := fun env => (f env).bind fun r => match r.1 with
  | .bool b => some (b, r.2)
  | _ => none
theorem bV_some {f : Ef} {env env' : En} {b : Bool} (e : bV f env = some (b, env')) : f env = some (.bool b, env') := by
  unfold bV at e
  obtain ⟨⟨d1, e1⟩, h1, e⟩ := Option.bind_eq_some_iff.mp e
  cases d1 <;> first | (cases e; exact h1) | cases e
theorem rb_test {K : Frg} {t : TE} {f : Ef} (h : RE K t f) : RB K (tTest t) (bV f) := fun G F env s H b env' k e Q q =>
  h G F env s H _ env' k (bV_some e) _ fun F' H' v k' s' p => by cases p; exact ⟨b, rfl, q F' H' k' s'⟩
theorem rb_tB {K : Frg} {t : TE} {f : Ef} (h : RE K t f) : RB K (tB t) (bV f) := fun G F env s H b env' k e Q q =>
  h G F env s H _ env' k (bV_some e) _ fun F' H' v k' s' p => by cases p; exact ⟨b, rfl, q F' H' k' s'⟩
/-- an expression that is True or False, as a test -/
theorem xb_val (h : XE X a fa) (he : ∀ whole, isTrue a X.env whole = (do let v ← whole; standAt a.pos; holding [v] (truthy v)) := by intro _; rfl) : XB X a (bV fa) :=
  let ⟨_, h1, h2⟩ := h.ex; ⟨_, pt_val h1 he, rb_tB h2⟩
section
variable {op : CmpOp} {r : R2} {g : D → D → Option D}
theorem xe_cmp (ho : OpR X (compareOp op) r) (hg : GQ X.K r g) (ha : XE X a fa) (hb : XE X b fb) (hm : behindInMarks op b = false) : XE X (.Compare a [op] [b] pos) (eBin g fa fb) :=
  let ⟨_, h1, h2⟩ := ha.ex; let ⟨_, h3, h4⟩ := hb.ex; ⟨_, pe_cmpR ho h1 h3 hm, re_bin hg.go h2 h4⟩
theorem xb_cmp (ho : OpR X (compareOp op) r) (hg : GQ X.K r g) (ha : XE X a fa) (hb : XE X b fb) (hm : behindInMarks op b = false) : XB X (.Compare a [op] [b] pos) (bV (eBin g fa fb)) :=
  let ⟨_, h1, h2⟩ := ha.ex; let ⟨_, h3, h4⟩ := hb.ex; ⟨_, pt_cmpR ho h1 h3 hm, rb_test (re_bin hg.go h2 h4)⟩
/-- a op b op' c -/
def eChain (g g' : D → D → Option D) (fa fb fc : Ef) : Ef := fun env => (fa env).bind fun r => (fb r.2).bind fun q => (g r.1 q.1).bind fun z => match z with
  | .bool true => (fc q.2).bind fun w => (g' q.1 w.1).map fun d => (d, w.2)
  | .bool false => some (.bool false, q.2)
  | _ => none
end
/-! in, not in -/
end
end M

namespace M
open PySem PySem.Spec PyProof.Rows L2
section
variable {X : Cx} {a b c e : Expr} {es : List Expr} {f fa fb fc : Ef} {ga gb gc : Bf} {pos : Pos} {K : Frg}

/-! ### and, or, not, if-expressions -/
def bAnd (p q : Bf) : Bf := fun env => (p env).bind fun r => if r.1 then q r.2 else some (false, r.2)
def bOr (p q : Bf) : Bf := fun env => (p env).bind fun r => if r.1 then some (true, r.2) else q r.2
def bNot (p : Bf) : Bf := fun env => (p env).map fun r => (!r.1, r.2)
theorem rb_or {t u : TT} (h1 : RB K t ga) (h2 : RB K u gb) : RB K (tOr t u) (bOr ga gb) := fun G F env s H b env' k e Q q => by
  unfold bOr at e
  obtain ⟨⟨c, e1⟩, h3, e⟩ := Option.bind_eq_some_iff.mp e
  refine h1 G F env s H c e1 k h3 _ fun F1 H1 k1 s1 => ?_
  cases c with
  | false =>
    rw [if_neg Bool.false_ne_true] at e ⊢
    exact h2 G F1 e1 s H1 b env' k1 e Q fun F2 H2 k2 s2 => q F2 H2 k2 (s1.trans s2)
  | true =>
    rw [if_pos rfl] at e ⊢
    cases e
    exact q F1 H1 k1 s1
theorem rb_not {t : TT} (h1 : RB K t ga) : RB K (tNot t) (bNot ga) := fun G F env s H b env' k e Q q => by
  unfold bNot at e
  obtain ⟨⟨c, e1⟩, h3, e⟩ := Option.map_eq_some_iff.mp e
  cases e
  exact h1 G F env s H c e1 k h3 _ fun F1 H1 k1 s1 => q F1 H1 k1 s1
theorem xw_or1 (ha : XB X a ga) : XW X (.BoolOp .Or [a] pos) ga := let ⟨_, h1, h2⟩ := ha.ex; ⟨_, pw_or1 h1, h2⟩
theorem xw_or {rest : List Expr} (ha : XB X a ga) (hb : XW X (.BoolOp .Or (b :: rest) pos) gb) : XW X (.BoolOp .Or (a :: b :: rest) pos) (bOr ga gb) :=
  let ⟨_, h1, h2⟩ := ha.ex; let ⟨_, h3, h4⟩ := hb.ex; ⟨_, pw_or h1 h3, rb_or h2 h4⟩
theorem xb_w (h : XW X a ga) : XB X a ga := let ⟨_, h1, h2⟩ := h.ex; ⟨_, h1.pt, h2⟩
theorem xb_not (ha : XB X a ga) : XB X (.UnaryOp .Not a pos) (bNot ga) := let ⟨_, h1, h2⟩ := ha.ex; ⟨_, pt_not h1, rb_not h2⟩
def eAnd (fa fb : Ef) : Ef := fun env => (fa env).bind fun r => match r.1 with
  | .bool true => fb r.2
  | .bool false => some (.bool false, r.2)
  | _ => none
def eOr (fa fb : Ef) : Ef := fun env => (fa env).bind fun r => match r.1 with
  | .bool false => fb r.2
  | .bool true => some (.bool true, r.2)
  | _ => none
def eNot (fa : Ef) : Ef := fun env => (fa env).bind fun r => match r.1 with
  | .bool b => some (.bool !b, r.2)
  | _ => none
theorem re_and {ta tb : TE} (h1 : RE K ta fa) (h2 : RE K tb fb) : RE K (tAndV ta tb) (eAnd fa fb) := fun G F env s H d env' k e Q q => by
  unfold eAnd at e
  obtain ⟨⟨c, e1⟩, h3, e⟩ := Option.bind_eq_some_iff.mp e
  refine h1 G F env s H c e1 k h3 _ fun F1 H1 v k1 s1 p1 => ?_
  cases p1 with
  | bl b =>
    refine ⟨b, rfl, ?_⟩
    cases b with
    | true =>
      rw [if_pos rfl]
      exact h2 G F1 e1 s H1 d env' k1 e Q fun F2 H2 v2 k2 s2 p2 => q F2 H2 v2 k2 (s1.trans s2) p2
    | false =>
      rw [if_neg Bool.false_ne_true]
      cases e
      exact q F1 H1 _ k1 s1 (.bl _)
  | _ => cases e
theorem xe_one {op} (h : XE X a fa) : XE X (.BoolOp op [a] pos) fa := let ⟨_, h1, h2⟩ := h.ex; ⟨_, pe_one h1, h2⟩
theorem xe_and {rest : List Expr} (ha : XE X a fa) (hb : XE X (.BoolOp .And (b :: rest) pos) fb) : XE X (.BoolOp .And (a :: b :: rest) pos) (eAnd fa fb) :=
  let ⟨_, h1, h2⟩ := ha.ex; let ⟨_, h3, h4⟩ := hb.ex; ⟨_, pe_and h1 h3, re_and h2 h4⟩
def eIf (p : Bf) (fa fb : Ef) : Ef := fun env => (p env).bind fun r => if r.1 then fa r.2 else fb r.2
/-! ### argument lists, displays -/
def lNil : Lf := fun env => some ([], env)
def lCons (f : Ef) (g : Lf) : Lf := fun env => (f env).bind fun r => (g r.2).map fun q => (r.1 :: q.1, q.2)
theorem lCons_some {f : Ef} {g : Lf} {env env' : En} {ds : List D} (e : lCons f g env = some (ds, env')) : ∃ d e1 r, f env = some (d, e1) ∧ g e1 = some (r, env') ∧ ds = d :: r := by
  unfold lCons at e
  obtain ⟨⟨d, e1⟩, h1, e⟩ := Option.bind_eq_some_iff.mp e
  obtain ⟨⟨r, e2⟩, h2, e⟩ := Option.map_eq_some_iff.mp e
  cases e
  exact ⟨d, e1, r, h1, h2, rfl⟩
theorem xl_nil : XL X [] lNil := ⟨_, pa_nil, fun G F env s H d env' k e Q q => by cases e; exact q F H [] k (Same.refl F) .nil⟩
theorem xl_cons {g : Lf} (ha : XE X e f) (hr : XL X es g) (hs : starEach (e :: es) X.env = (false, eval e X.env) :: starEach es X.env := by rfl) : XL X (e :: es) (lCons f g) := by
  obtain ⟨ta, h1, h2⟩ := ha.ex
  obtain ⟨tr, h3, h4⟩ := hr.ex
  refine ⟨_, pa_cons h1 h3 hs, fun G F env s H d env' k e Q q => ?_⟩
  obtain ⟨d1, e1, r, h5, h6, rfl⟩ := lCons_some e
  refine h2 G F env s H d1 e1 k h5 _ fun F1 H1 v k1 s1 p1 => ?_
  refine h4 G F1 e1 s H1 r env' k1 h6 _ fun F2 H2 vs k2 s2 p2 => ?_
  exact q F2 H2 _ k2 (s1.trans s2) (.cons (Dt.mono s2 d1 v p1) p2)
def eTup (g : Lf) : Ef := fun env => (g env).bind fun r => if fits r.1.length then some (.tuple r.1, r.2) else none
def lLst (g : Lf) : Lf := fun env => (g env).bind fun r => if fits r.1.length then some (r.1, r.2) else none
theorem xn_lst {g : Lf} (h : XL X es g) : XN X (.List es pos) (lLst g) := by
  obtain ⟨t, h1, h2⟩ := h.ex
  refine ⟨_, pe_lst h1, fun G F env s H d env' k e Q q => ?_⟩
  unfold lLst at e
  obtain ⟨⟨ds, e1⟩, h3, e⟩ := Option.bind_eq_some_iff.mp e
  split at e
  · rename_i hf
    cases e
    refine h2 G F env s H ds _ k h3 _ fun F1 H1 vs k1 s1 p1 => ⟨by rw [p1.length]; exact fits_line hf, fun p hp => ?_⟩
    exact q F1 _ p vs (k1.laid hp) s1 upd_same (k1.fr.free hp) (k1.dom p hp) (k1.pin.free hp) (k1.notown hp) p1
  · cases e
/-! ### subscripts -/
def gIdx : D → D → Option D
  | .list ds, .int i => atI ds i
  | .tuple ds, .int i => atI ds i
  | .str x, .int i => if fits x.length then (atI x.cps.toList i).map fun c => .str ⟨#[c]⟩ else none
  | _, _ => none
theorem Da.at_ {F : Hp} {ds : List D} {vs : List V} {i : Int} {d : D} (h : Da F vs ds) (e : atI ds i = some d) : ∃ v, atI vs i = some v ∧ Dt F v d := by
  unfold atI at e ⊢
  rw [h.length]
  cases hx : ixN ds.length i with
  | none => rw [hx] at e; cases e
  | some j =>
    rw [hx] at e
    obtain ⟨v, h1, h2⟩ := h.get (show ds[j]? = some d from e)
    exact ⟨v, h1, h2⟩
theorem gq_idx : GQ K (rIx K) gIdx := by
  intro G F env s H x y d e z k h1 h2 h3 Q q
  unfold gIdx at h3
  split at h3
  · obtain ⟨p, vs, rfl, h4, h5⟩ := h1.list k.fr
    obtain ⟨v, h6, h7⟩ := h5.at_ h3
    exact .inl ⟨p, vs, _, v, rfl, h2.int, h4, h6, q F H v k (Same.refl F) h7⟩
  · obtain ⟨p, vs, rfl, h4, _, h5⟩ := h1.tup k.fr
    obtain ⟨v, h6, h7⟩ := h5.at_ h3
    exact .inr (.inl ⟨p, vs, _, v, rfl, h2.int, SqT.of h4, h6, q F H v k (Same.refl F) h7⟩)
  · split at h3
    · rename_i hf
      obtain ⟨c, h4, h5⟩ := Option.map_eq_some_iff.mp h3
      cases h5
      exact .inr (.inr ⟨_, _, c, h1.str, h2.int, fits_line hf, h4, q F H _ k (Same.refl F) (.str _)⟩)
    · cases h3
  · cases h3
theorem xe_idx (ha : XE X a fa) (hb : XE X b fb) (hs : PlainIx b := by intro _ _; rfl) : XE X (.Subscript a b pos) (eBin gIdx fa fb) :=
  let ⟨_, h1, h2⟩ := ha.ex; let ⟨_, h3, h4⟩ := hb.ex; ⟨_, pe_ix ix_seq h1 h3 hs, re_bin gq_idx.go h2 h4⟩
theorem xe_idxV {x : Str} {p2 : Pos} (i : Nat) (hb : XE X b fb) (hN : X.N[i]? = some x := by rfl) (hv : Vis X.env.scope x := by first | exact Or.inl rfl | exact Or.inr (Or.inl rfl) | exact Or.inr (Or.inr rfl)) (hd : (x == ("__debug__" : Str)) = false := by decide)
    (hcd : (x == ("__classdict__" : Str)) = false := by decide) (hs : PlainIx b := by intro _ _; rfl) : XE X (.Subscript (.Name x p2) b pos) (eBinV gIdx i fb) :=
  let ⟨_, h3, h4⟩ := hb.ex; ⟨_, pe_ix ix_seq (pe_var hN hv hd hcd) h3 hs, re_binV gq_idx h4⟩

/-! ### slices -/
abbrev Pf := En → Option (Option Int × En)
def pNo : Pf := fun env => some (none, env)
def pE (f : Ef) : Pf := fun env => (f env).bind fun r => match r.1 with
  | .int i => some (some i, r.2)
  | _ => none
def cutD (xs : List D) (lo hi : Option Int) : List D := (xs.drop (HT.sIx xs.length 0 lo)).take (HT.sIx xs.length xs.length hi - HT.sIx xs.length 0 lo)
def eSl (fa : Ef) (l h : Pf) : Ef := fun env => (fa env).bind fun r => (l r.2).bind fun q => (h q.2).bind fun w => match r.1 with
  | .list ds => some (.list (cutD ds q.1 w.1), w.2)
  | .tuple ds => some (.tuple (cutD ds q.1 w.1), w.2)
  | .str x => if fits x.length then some (.str (cutS x q.1 w.1), w.2) else none
  | _ => none
/-- a slice of a list that is read only, or the def's own, by its name -/
def lSlV (i : Nat) (l h : Pf) : Lf := fun env => (eO i env).bind fun _ => (l env).bind fun q => (h q.2).bind fun w => (eO i w.2).bind fun r => match r.1 with
  | .list ds => some (cutD ds q.1 w.1, w.2)
  | _ => none
end
end M

namespace M
open PySem PySem.Spec PyProof.Rows L2

/-! ### arguments of a def: values, or the caller's own lists by their slots (i: to be changed, or read only) -/
inductive Ar where
  | v (d : D) | r (i : Nat) | o (i : Nat)
abbrev Af := En → Option (List Ar × En)
inductive ArOk (F : Hp) (s : L2.St) : Ar → V → Prop
  | v {d : D} {v : V} (h : Dt F v d) : ArOk F s (.v d) v
  | r {i : Nat} {v : V} (h : s[i]? = some (some v)) : ArOk F s (.r i) v
  | o {i : Nat} {v : V} (h : s[i]? = some (some v)) : ArOk F s (.o i) v
inductive ArsOk (F : Hp) (s : L2.St) : List Ar → List V → Prop
  | nil : ArsOk F s [] []
  | cons {a : Ar} {as : List Ar} {v : V} {vs : List V} (h : ArOk F s a v) (t : ArsOk F s as vs) : ArsOk F s (a :: as) (v :: vs)
theorem ArOk.mono {F F' : Hp} {s : L2.St} {a : Ar} {v : V} (e : Same F F') (h : ArOk F s a v) : ArOk F' s a v := by
  cases h with
  | v h => exact .v (Dt.mono e _ _ h)
  | r h => exact .r h
  | o h => exact .o h
theorem ArsOk.length {F : Hp} {s : L2.St} : ∀ {as : List Ar} {vs : List V}, ArsOk F s as vs → vs.length = as.length
  | [], _, h => by cases h; rfl
  | a :: as, _, h => by cases h with | cons h t => simp [ArsOk.length t]
theorem ArsOk.get {F : Hp} {s : L2.St} : ∀ {as : List Ar} {vs : List V} {j : Nat} {a : Ar}, ArsOk F s as vs → as[j]? = some a → ∃ v, vs[j]? = some v ∧ ArOk F s a v
  | [], _, _, _, _, e => by simp at e
  | a :: as, _, 0, _, h, e => by cases h with | cons h t => simp at e; subst e; exact ⟨_, rfl, h⟩
  | a :: as, _, j + 1, _, h, e => by
    cases h with
    | cons h t =>
      obtain ⟨v, h1, h2⟩ := ArsOk.get (j := j) t (by simpa using e)
      exact ⟨v, by simpa using h1, h2⟩
def RA (K : Frg) (t : TA) (f : Af) : Prop := ∀ G F env s H as env', Ok K G F env s H → f env = some (as, env') → ∀ Q : List V → Hp → Prop, (∀ F' H' vs, Ok K G F' env' s H' → Same F F' → ArsOk F' s as vs → Q vs H') → t s H Q
structure XA (X : Cx) (es : List Expr) (f : Af) : Prop where
  ex : ∃ t, PA X es t ∧ RA X.K t f
def aNil : Af := fun env => some ([], env)
def aV (f : Ef) (g : Af) : Af := fun env => (f env).bind fun r => (g r.2).map fun q => (.v r.1 :: q.1, q.2)
def aR (i : Nat) (g : Af) : Af := fun env => (eO i env).bind fun _ => (g env).map fun q => (.r i :: q.1, q.2)
def aO (i : Nat) (g : Af) : Af := fun env => (eO i env).bind fun _ => (g env).map fun q => (.o i :: q.1, q.2)
section
variable {X : Cx} {e : Expr} {es : List Expr} {f : Ef} {g : Af} {pos : Pos}
theorem xa_nil : XA X [] aNil := ⟨_, pa_nil, fun G F env s H d env' k e Q q => by cases e; exact q F H [] k (Same.refl F) .nil⟩
theorem xa_v (ha : XE X e f) (hr : XA X es g) (hs : starEach (e :: es) X.env = (false, eval e X.env) :: starEach es X.env := by rfl) : XA X (e :: es) (aV f g) := by
  obtain ⟨ta, h1, h2⟩ := ha.ex
  obtain ⟨tr, h3, h4⟩ := hr.ex
  refine ⟨_, pa_cons h1 h3 hs, fun G F env s H as env' k e Q q => ?_⟩
  unfold aV at e
  obtain ⟨⟨d1, e1⟩, h5, e⟩ := Option.bind_eq_some_iff.mp e
  obtain ⟨⟨r, e2⟩, h6, e⟩ := Option.map_eq_some_iff.mp e
  cases e
  refine h2 G F env s H d1 e1 k h5 _ fun F1 H1 v k1 s1 p1 => ?_
  refine h4 G F1 e1 s H1 r _ k1 h6 _ fun F2 H2 vs k2 s2 p2 => ?_
  exact q F2 H2 _ k2 (s1.trans s2) (.cons (.v (Dt.mono s2 d1 v p1)) p2)
theorem xa_o (i : Nat) {x : Str} (hr : XA X es g) (hN : X.N[i]? = some x := by rfl) (hv : Vis X.env.scope x := by first | exact Or.inl rfl | exact Or.inr (Or.inl rfl) | exact Or.inr (Or.inr rfl)) (hd : (x == ("__debug__" : Str)) = false := by decide)
    (hcd : (x == ("__classdict__" : Str)) = false := by decide) (hs : starEach (.Name x pos :: es) X.env = (false, eval (.Name x pos) X.env) :: starEach es X.env := by rfl) : XA X (.Name x pos :: es) (aO i g) := by
  obtain ⟨tr, h3, h4⟩ := hr.ex
  refine ⟨_, pa_cons (pe_var hN hv hd hcd) h3 hs, fun G F env s H as env' k e Q q => ?_⟩
  unfold aO at e
  obtain ⟨⟨d1, e1⟩, h5, e⟩ := Option.bind_eq_some_iff.mp e
  obtain ⟨⟨r, e2⟩, h6, e⟩ := Option.map_eq_some_iff.mp e
  cases e
  obtain ⟨v, h7, _⟩ := dq_slot k h5
  refine ⟨v, h7, ?_⟩
  exact h4 G F env s H r _ k h6 _ fun F2 H2 vs k2 s2 p2 => q F2 H2 _ k2 s2 (.cons (.o h7) p2)
end

/-! ### what a def does: arguments in, a value and the lists handed in to be changed out -/
abbrev Gf := List Sl → Option (D × List Sl)
open Classical in
/-- the heap without the lists handed in to be changed -/
noncomputable def minus (H : Hp) (args : List Sl) (vs : List V) : Hp := fun a => if (∃ (j : Nat) (l : Bool) (es : List D), args[j]? = some (.own l es) ∧ vs[j]? = some (.ref a)) then none else H a
theorem minus_some {H : Hp} {args : List Sl} {vs : List V} {a : Addr} {o : HO} (h : H a = some o) (n : ∀ (j : Nat) l es, args[j]? = some (.own l es) → vs[j]? ≠ some (.ref a)) : minus H args vs a = some o := by
  unfold minus
  rw [if_neg fun ⟨j, l, es, h1, h2⟩ => n j l es h1 h2]
  exact h
theorem minus_of {H : Hp} {args : List Sl} {vs : List V} {a : Addr} {o : HO} (h : minus H args vs a = some o) : H a = some o ∧ ∀ (j : Nat) l es, args[j]? = some (.own l es) → vs[j]? ≠ some (.ref a) := by
  unfold minus at h
  split at h
  · cases h
  · rename_i n
    exact ⟨h, fun j l es h1 h2 => n ⟨j, l, es, h1, h2⟩⟩
structure ArgsOk (K : Frg) (F H : Hp) (args : List Sl) (vs : List V) : Prop where
  len : vs.length = args.length
  val : ∀ (i : Nat) d, args[i]? = some (.val d) → ∃ v, vs[i]? = some v ∧ Dt F v d
  own : ∀ (i : Nat) l ds, args[i]? = some (.own l ds) → l = false ∧ ∃ a us, vs[i]? = some (.ref a) ∧ H a = some (.lst us) ∧ F a = none ∧ Da F us ds
  ro : ∀ (i : Nat) ds, args[i]? = some (.ro ds) → ∃ a us, vs[i]? = some (.ref a) ∧ SqL K (minus H args vs) a us ∧ Da F us ds
  sep : ∀ (i j : Nat) l ds m es, args[i]? = some (.own l ds) → args[j]? = some (.own m es) → vs[i]? = vs[j]? → i = j
  dct : ∀ (i : Nat) w kvs, args[i]? ≠ some (.dct w kvs)
structure Post (F H F' H' : Hp) (args args' : List Sl) (vs : List V) (v : V) (d : D) : Prop where
  keep : Same (minus H args vs) H'
  dom : ∀ a, H' a = none → H a = none
  grow : Same F F'
  fr : Same F' H'
  new : ∀ a o, F' a = some o → F a = some o ∨ H a = none
  res : Dt F' v d
  own : ∀ (i : Nat) l ds, args[i]? = some (.own l ds) → ∀ ds', args'[i]? = some (.own false ds') → ∀ a, vs[i]? = some (.ref a) → ∃ us, H' a = some (.lst us) ∧ F' a = none ∧ Da F' us ds'
def spF (K : Frg) (g : Gf) : Sp := fun vs H Q _ => ∃ F args d args', g args = some (d, args') ∧ Same F H ∧ ArgsOk K F H args vs ∧ ∀ F' H' v, Post F H F' H' args args' vs v d → Q v H'

def resAr (env : En) : Ar → Option Sl
  | .v d => some (.val d)
  | .r i => match env[i]? with
    | some (.own _ ds) => some (.own false ds)
    | _ => none
  | .o i => match env[i]? with
    | some (.own _ ds) => some (.ro ds)
    | some (.ro ds) => some (.ro ds)
    | some (.val (.list ds)) => some (.ro ds)
    | _ => none
def resArs (env : En) : List Ar → Option (List Sl)
  | [] => some []
  | a :: as => (resAr env a).bind fun x => (resArs env as).map fun r => x :: r
/-- at most one slot is handed in to be changed, and it isn't handed in to be read besides -/
def rSlots : List Ar → List Nat
  | [] => []
  | .r i :: as => i :: rSlots as
  | .v _ :: as => rSlots as
  | .o _ :: as => rSlots as
def oSlots : List Ar → List Nat
  | [] => []
  | .o i :: as => i :: oSlots as
  | .v _ :: as => oSlots as
  | .r _ :: as => oSlots as
def backAr (env : En) : List Ar → List Sl → Option En
  | [], _ => some env
  | .r i :: as, x :: xs => match x, env[i]? with
    | .own false ds, some (.own l _) => backAr (env.set i (.own l ds)) as xs
    | _, _ => none
  | _ :: as, _ :: xs => backAr env as xs
  | _ :: _, [] => none
def eCall (g : Gf) (fa : Af) : Ef := fun env => (fa env).bind fun r =>
  match rSlots r.1 with
  | [] => (resArs r.2 r.1).bind fun args => (g args).map fun q => (q.1, r.2)
  | [i] => if (oSlots r.1).contains i then none else (resArs r.2 r.1).bind fun args => (g args).bind fun q => (backAr r.2 r.1 q.2).map fun env' => (q.1, env')
  | _ => none
theorem resArs_get {env : En} : ∀ {as : List Ar} {xs : List Sl} {j : Nat} {x : Sl}, resArs env as = some xs → xs[j]? = some x → ∃ a, as[j]? = some a ∧ resAr env a = some x
  | [], xs, j, x, h, e => by cases h; simp at e
  | a :: as, xs, j, x, h, e => by
    unfold resArs at h
    obtain ⟨y, h1, h⟩ := Option.bind_eq_some_iff.mp h
    obtain ⟨r, h2, h⟩ := Option.map_eq_some_iff.mp h
    subst h
    cases j with
    | zero => simp at e; subst e; exact ⟨a, rfl, h1⟩
    | succ j =>
      obtain ⟨b, h3, h4⟩ := resArs_get (j := j) h2 (by simpa using e)
      exact ⟨b, by simpa using h3, h4⟩
theorem resArs_length {env : En} : ∀ {as : List Ar} {xs : List Sl}, resArs env as = some xs → xs.length = as.length
  | [], xs, h => by cases h; rfl
  | a :: as, xs, h => by
    unfold resArs at h
    obtain ⟨y, h1, h⟩ := Option.bind_eq_some_iff.mp h
    obtain ⟨r, h2, h⟩ := Option.map_eq_some_iff.mp h
    subst h
    simp [resArs_length h2]
theorem resArs_get2 {env : En} : ∀ {as : List Ar} {xs : List Sl} {j : Nat} {a : Ar}, resArs env as = some xs → as[j]? = some a → ∃ x, xs[j]? = some x ∧ resAr env a = some x
  | [], xs, j, x, h, e => by simp at e
  | a :: as, xs, j, b, h, e => by
    unfold resArs at h
    obtain ⟨y, h1, h⟩ := Option.bind_eq_some_iff.mp h
    obtain ⟨r, h2, h⟩ := Option.map_eq_some_iff.mp h
    subst h
    cases j with
    | zero => simp at e; subst e; exact ⟨y, rfl, h1⟩
    | succ j =>
      obtain ⟨b, h3, h4⟩ := resArs_get2 (j := j) h2 (by simpa using e)
      exact ⟨b, by simpa using h3, h4⟩
theorem rSlots_mem : ∀ {as : List Ar} {j i : Nat}, as[j]? = some (.r i) → i ∈ rSlots as
  | [], j, i, e => by simp at e
  | a :: as, 0, i, e => by simp at e; subst e; simp [rSlots]
  | a :: as, j + 1, i, e => by
    have h := rSlots_mem (as := as) (j := j) (i := i) (by simpa using e)
    cases a <;> simp [rSlots, h]
theorem oSlots_mem : ∀ {as : List Ar} {j i : Nat}, as[j]? = some (.o i) → i ∈ oSlots as
  | [], j, i, e => by simp at e
  | a :: as, 0, i, e => by simp at e; subst e; simp [oSlots]
  | a :: as, j + 1, i, e => by
    have h := oSlots_mem (as := as) (j := j) (i := i) (by simpa using e)
    cases a <;> simp [oSlots, h]
theorem rSlots_one : ∀ {as : List Ar} {i : Nat}, rSlots as = [i] → ∀ (j j' : Nat), as[j]? = some (.r i) → as[j']? = some (.r i) → j = j'
  | [], i, h, _, _, _, _ => by cases h
  | .v d :: as, i, h, 0, _, e, _ => by simp at e
  | .o d :: as, i, h, 0, _, e, _ => by simp at e
  | .v d :: as, i, h, _ + 1, 0, _, e => by simp at e
  | .o d :: as, i, h, _ + 1, 0, _, e => by simp at e
  | .v d :: as, i, h, j + 1, j' + 1, e, e' => by rw [rSlots_one (as := as) h j j' (by simpa using e) (by simpa using e')]
  | .o d :: as, i, h, j + 1, j' + 1, e, e' => by rw [rSlots_one (as := as) h j j' (by simpa using e) (by simpa using e')]
  | .r k :: as, i, h, j, j', e, e' => by
    have h0 : rSlots as = [] := by simp [rSlots] at h; exact h.2
    cases j with
    | zero =>
      cases j' with
      | zero => rfl
      | succ j' =>
        have := rSlots_mem (as := as) (j := j') (i := i) (by simpa using e')
        rw [h0] at this; cases this
    | succ j =>
      have := rSlots_mem (as := as) (j := j) (i := i) (by simpa using e)
      rw [h0] at this; cases this
/-- writing back: only the slot handed in -/
theorem backAr_one : ∀ {as : List Ar} {xs : List Sl} {env env' : En} {i : Nat}, rSlots as = [i] → backAr env as xs = some env' → ∃ (j : Nat) (l : Bool) (ds es : List D), as[j]? = some (.r i) ∧ xs[j]? = some (.own false ds) ∧ env[i]? = some (.own l es) ∧ env' = env.set i (.own l ds)
  | [], _, _, _, _, h, _ => by cases h
  | .v d :: as, [], _, _, _, h, e => by simp [backAr] at e
  | .o d :: as, [], _, _, _, h, e => by simp [backAr] at e
  | .r d :: as, [], _, _, _, h, e => by simp [backAr] at e
  | .v d :: as, x :: xs, env, env', i, h, e => by
    obtain ⟨j, l, ds, es, h1, h2, h3, h4⟩ := backAr_one (as := as) (xs := xs) (env := env) h (by simpa [backAr] using e)
    exact ⟨j + 1, l, ds, es, by simpa using h1, by simpa using h2, h3, h4⟩
  | .o d :: as, x :: xs, env, env', i, h, e => by
    obtain ⟨j, l, ds, es, h1, h2, h3, h4⟩ := backAr_one (as := as) (xs := xs) (env := env) h (by simpa [backAr] using e)
    exact ⟨j + 1, l, ds, es, by simpa using h1, by simpa using h2, h3, h4⟩
  | .r k :: as, x :: xs, env, env', i, h, e => by
    have h0 : rSlots as = [] ∧ k = i := by simp [rSlots] at h; exact ⟨h.2, h.1⟩
    obtain ⟨h0, rfl⟩ := h0
    have key : ∀ (as : List Ar) (xs : List Sl) (env env' : En), rSlots as = [] → backAr env as xs = some env' → env' = env := by
      intro as
      induction as with
      | nil => intro xs env env' _ e; simp [backAr] at e; exact e.symm
      | cons a as ih =>
        intro xs env env' h e
        cases a with
        | v d => cases xs with
          | nil => simp [backAr] at e
          | cons x xs => exact ih xs env env' h (by simpa [backAr] using e)
        | o d => cases xs with
          | nil => simp [backAr] at e
          | cons x xs => exact ih xs env env' h (by simpa [backAr] using e)
        | r i => simp [rSlots] at h
    unfold backAr at e
    split at e
    · rename_i ds l es h1
      have e2 := key _ _ _ _ h0 e
      exact ⟨0, l, ds, es, rfl, rfl, h1, e2⟩
    · cases e

theorem resAr_val {env : En} {a : Ar} {d : D} (h : resAr env a = some (.val d)) : a = .v d := by
  cases a with
  | v d' => simp [resAr] at h; rw [h]
  | r i => simp only [resAr] at h; split at h <;> cases h
  | o i => simp only [resAr] at h; split at h <;> cases h
theorem resAr_own {env : En} {a : Ar} {l : Bool} {ds : List D} (h : resAr env a = some (.own l ds)) : l = false ∧ ∃ i m, a = .r i ∧ env[i]? = some (.own m ds) := by
  cases a with
  | v d' => simp [resAr] at h
  | r i =>
    simp only [resAr] at h
    split at h
    · rename_i m es e
      cases h
      exact ⟨rfl, i, m, rfl, e⟩
    · cases h
  | o i => simp only [resAr] at h; split at h <;> cases h
theorem resAr_ro {env : En} {a : Ar} {ds : List D} (h : resAr env a = some (.ro ds)) : ∃ i, a = .o i ∧ ((∃ m, env[i]? = some (.own m ds)) ∨ env[i]? = some (.ro ds) ∨ env[i]? = some (.val (.list ds))) := by
  cases a with
  | v d' => simp [resAr] at h
  | r i => simp only [resAr] at h; split at h <;> cases h
  | o i =>
    simp only [resAr] at h
    split at h
    · rename_i m es e
      cases h
      exact ⟨i, rfl, .inl ⟨_, e⟩⟩
    · rename_i es e
      cases h
      exact ⟨i, rfl, .inr (.inl e)⟩
    · rename_i es e
      cases h
      exact ⟨i, rfl, .inr (.inr e)⟩
    · cases h
theorem resAr_dct {env : En} {a : Ar} {w : World} {kvs : List (D × D)} : resAr env a ≠ some (.dct w kvs) := fun h => by
  cases a with
  | v d' => simp [resAr] at h
  | r i => simp only [resAr] at h; split at h <;> cases h
  | o i => simp only [resAr] at h; split at h <;> cases h
section
variable {K : Frg} {G : Gm} {F F' : Hp} {env : En} {s : L2.St} {H H' : Hp} {as : List Ar} {vs : List V} {args args' : List Sl} {v : V} {d : D}
theorem own_arg (k : Ok K G F env s H) (p : ArsOk F s as vs) (hr : resArs env as = some args) {j : Nat} {l : Bool} {ds : List D} (h : args[j]? = some (.own l ds)) :
    l = false ∧ ∃ i m, i ∈ rSlots as ∧ as[j]? = some (.r i) ∧ env[i]? = some (.own m ds) ∧ ∃ x, vs[j]? = some x ∧ s[i]? = some (some x) := by
  obtain ⟨a, h1, h2⟩ := resArs_get hr h
  obtain ⟨e, i, m, rfl, h3⟩ := resAr_own h2
  obtain ⟨x, h4, h5⟩ := p.get h1
  cases h5 with
  | r h5 => exact ⟨e, i, m, rSlots_mem h1, h1, h3, x, h4, h5⟩
/-- an object that is none of the slots handed in -/
theorem minus_slot (k : Ok K G F env s H) (p : ArsOk F s as vs) (hr : resArs env as = some args) {a : Addr} {o : HO} (h : H a = some o) (n : ∀ i ∈ rSlots as, ∀ m ds, env[i]? = some (.own m ds) → s[i]? ≠ some (some (.ref a))) : minus H args vs a = some o :=
  minus_some h fun j l es h1 h2 => by
    obtain ⟨_, i, m, hi, _, h3, x, h4, h5⟩ := own_arg k p hr h1
    rw [h2] at h4
    cases h4
    exact n i hi m es h3 h5
theorem minus_pin (k : Ok K G F env s H) (p : ArsOk F s as vs) (hr : resArs env as = some args) : Same G.P (minus H args vs) := fun a o e =>
  minus_slot k p hr (k.pin a o e) fun i _ m ds h1 h2 => by
    obtain ⟨b, us, h3, _, _, h4, _⟩ := k.own i m ds h1
    rw [h2] at h3
    cases h3
    rw [h4] at e; cases e
theorem minus_fr (k : Ok K G F env s H) (p : ArsOk F s as vs) (hr : resArs env as = some args) : Same F (minus H args vs) := fun a o e =>
  minus_slot k p hr (k.fr a o e) fun i _ m ds h1 h2 => by
    obtain ⟨b, us, h3, _, h4, _⟩ := k.own i m ds h1
    rw [h2] at h3
    cases h3
    rw [h4] at e; cases e
theorem args_ok (k : Ok K G F env s H) (p : ArsOk F s as vs) (hr : resArs env as = some args) (h1 : ∀ i ∈ rSlots as, i ∉ oSlots as) (h2 : ∀ i ∈ rSlots as, ∀ (j j' : Nat), as[j]? = some (.r i) → as[j']? = some (.r i) → j = j') : ArgsOk K F H args vs where
  len := by rw [p.length, resArs_length hr]
  val := fun i d e => by
    obtain ⟨a, h3, h4⟩ := resArs_get hr e
    have h5 := resAr_val h4
    subst h5
    obtain ⟨x, h6, h7⟩ := p.get h3
    cases h7 with
    | v h7 => exact ⟨x, h6, h7⟩
  own := fun j l ds e => by
    obtain ⟨e1, i, m, hi, h3, h4, x, h5, h6⟩ := own_arg k p hr e
    obtain ⟨a, us, h7, h8, h9, _, h10, _⟩ := k.own i m ds h4
    rw [h6] at h7
    cases h7
    exact ⟨e1, a, us, h5, h8, h9, h10⟩
  ro := fun j ds e => by
    obtain ⟨a, h3, h4⟩ := resArs_get hr e
    obtain ⟨i, rfl, h5⟩ := resAr_ro h4
    obtain ⟨x, h6, h7⟩ := p.get h3
    cases h7 with
    | o h7 =>
      rcases h5 with ⟨m, h5⟩ | h5 | h5
      · obtain ⟨a, us, h8, h9, h10, _, h11, _⟩ := k.own i m ds h5
        rw [h7] at h8
        cases h8
        refine ⟨a, us, h6, SqL.of (minus_slot k p hr h9 fun i' hi' m' ds' g1 g2 => ?_), h11⟩
        have e2 := k.sep i' i m' ds' m ds g1 h5 (g2.trans h7.symm)
        subst e2
        exact h1 i' hi' (oSlots_mem h3)
      · obtain ⟨a, us, h8, h9, h10⟩ := k.ro i ds h5
        rw [h7] at h8
        cases h8
        exact ⟨a, us, h6, (k.rin.trans (minus_pin k p hr)).seq h9, h10⟩
      · obtain ⟨y, h8, h9⟩ := k.val i _ h5
        rw [h7] at h8
        cases h8
        cases h9 with
        | lst a1 b1 => exact ⟨_, _, h6, SqL.of (minus_fr k p hr _ _ a1), b1⟩
  sep := fun i j l ds m es h3 h4 h5 => by
    obtain ⟨_, i1, m1, hi1, g1, g2, x1, g3, g4⟩ := own_arg k p hr h3
    obtain ⟨_, i2, m2, hi2, q1, q2, x2, q3, q4⟩ := own_arg k p hr h4
    rw [g3, q3] at h5
    cases h5
    have e2 := k.sep i1 i2 _ _ _ _ g2 q2 (g4.trans q4.symm)
    subst e2
    exact h2 i1 hi1 i j g1 q1
  dct := fun i w kvs e => by
    obtain ⟨a, h3, h4⟩ := resArs_get hr e
    exact resAr_dct h4
/-- behind the call -/
theorem ok_after (k : Ok K G F env s H) (p : ArsOk F s as vs) (hr : resArs env as = some args) (q : Post F H F' H' args args' vs v d) {env' : En} (hl : env'.length = env.length)
    (he : ∀ (j : Nat), env'[j]? = env[j]? ∨ (∃ (m : Nat) (l : Bool) (ds es : List D), as[m]? = some (.r j) ∧ args'[m]? = some (.own false ds) ∧ env[j]? = some (.own l es) ∧ env'[j]? = some (.own l ds))) (hn : ∀ i ∈ rSlots as, ∀ (j : Nat), env'[j]? = env[j]? → (∃ (m : Nat) (l : Bool) (ds : List D), args'[m]? = some (.own false ds) ∧ as[m]? = some (.r i) ∧ env'[i]? = some (.own l ds))) :
    Ok K G F' env' s H' := by
  have back : ∀ (j : Nat) l ds, env'[j]? = some (.own l ds) → ∃ es, env[j]? = some (.own l es) := fun j l ds e => by
    rcases he j with h | ⟨m, l', ds', es, _, _, h3, h4⟩
    · rw [h] at e; exact ⟨ds, e⟩
    · rw [h4] at e; cases e; exact ⟨es, h3⟩
  refine ⟨by rw [k.len, hl], q.fr, fun i d' e => ?_, fun i l ds e => ?_, fun i ds e => ?_, fun i j l ds m es e1 e2 e3 => ?_, fun a o e => q.keep a o (minus_pin k p hr a o e), fun a e => k.dom a (q.dom a e), k.grow.trans q.grow, fun a o e => ?_, k.rin, k.dct.move q.grow (fun i w kvs e => ⟨?_, rfl⟩) fun a es g1 g2 g3 g4 hx => ⟨?_, ?_, g3, g4⟩⟩
  · rcases he i with h | ⟨m, l', ds', es, _, _, h3, h4⟩
    · rw [h] at e
      obtain ⟨x, h1, h2⟩ := k.val i d' e
      exact ⟨x, h1, Dt.mono q.grow _ _ h2⟩
    · rw [h4] at e; cases e
  · by_cases hi : i ∈ rSlots as
    · have : ∃ (m : Nat) (ds' : List D), args'[m]? = some (.own false ds') ∧ as[m]? = some (.r i) ∧ env'[i]? = some (.own l ds') := by
        rcases he i with h | ⟨m, l', ds', es, g1, g2, g3, g4⟩
        · obtain ⟨m, l', ds', g1, g2, g3⟩ := hn i hi i h
          have : l' = l := by rw [e] at g3; cases g3; rfl
          subst this
          exact ⟨m, ds', g1, g2, g3⟩
        · have : l' = l := by rw [e] at g4; cases g4; rfl
          subst this
          exact ⟨m, ds', g2, g1, g4⟩
      obtain ⟨m, ds', g1, g2, g3⟩ := this
      rw [e] at g3
      cases g3
      obtain ⟨es, g4⟩ := back i l ds e
      obtain ⟨a, us, h1, h2, h3, h4, h5, h6⟩ := k.own i l es g4
      obtain ⟨x, g5, g6⟩ := resArs_get2 hr g2
      simp only [resAr, g4] at g6
      cases g6
      obtain ⟨y, g7, g8⟩ := p.get g2
      cases g8 with
      | r g8 =>
        rw [h1] at g8
        cases g8
        obtain ⟨us', h7, h8, h9⟩ := q.own m false es g5 ds g1 a g7
        exact ⟨a, us', h1, h7, h8, h4, h9, h6⟩
    · have e' : env[i]? = some (.own l ds) := by
        rcases he i with h | ⟨m, l', ds', es, g1, g2, g3, g4⟩
        · rw [← h]; exact e
        · exact absurd (rSlots_mem g1) hi
      obtain ⟨a, us, h1, h2, h3, h4, h5, h6⟩ := k.own i l ds e'
      refine ⟨a, us, h1, q.keep a _ (minus_slot k p hr h2 fun i' hi' m' ds' g1 g2 => ?_), ?_, h4, Da.mono q.grow _ _ h5, h6⟩
      · have e2 := k.sep i' i m' ds' l ds g1 e' (g2.trans h1.symm)
        subst e2
        exact hi hi'
      · cases hx : F' a with
        | none => rfl
        | some o =>
          rcases q.new a o hx with z | z
          · rw [h3] at z; cases z
          · rw [h2] at z; cases z
  · rcases he i with h | ⟨m, l', ds', es, _, _, h3, h4⟩
    · rw [h] at e
      obtain ⟨a, us, h1, h2, h3⟩ := k.ro i ds e
      exact ⟨a, us, h1, h2, Da.mono q.grow _ _ h3⟩
    · rw [h4] at e; cases e
  · obtain ⟨ds1, g1⟩ := back i l ds e1
    obtain ⟨ds2, g2⟩ := back j m es e2
    exact k.sep i j _ _ _ _ g1 g2 e3
  · rcases q.new a o e with z | z
    · exact k.new a o z
    · exact .inr (k.dom a z)
  · rcases he i with h | ⟨m, l', ds', es, _, _, h3, h4⟩
    · rw [← h]; exact e
    · rw [h4] at e; cases e
  · refine q.keep a _ (minus_slot k p hr g1 fun i' hi' m' ds' g5 g6 => ?_)
    obtain ⟨b, us, g7, g8, _⟩ := k.own i' m' ds' g5
    rw [g6] at g7
    cases g7
    rw [g1] at g8; cases g8
  · cases hx' : F' a with
    | none => rfl
    | some o =>
      rcases q.new a o hx' with z | z
      · rw [g2] at z; cases z
      · rw [g1] at z; cases z
theorem re_call {g : Gf} {fa : Af} {t : TA} {E : XK} (ha : RA K t fa) : RE K (tCall (spF K g) [] E t) (eCall g fa) := fun G F env s H d env' k e Q q => by
  unfold eCall at e
  obtain ⟨⟨as, e1⟩, h1, e⟩ := Option.bind_eq_some_iff.mp e
  refine ha G F env s H as e1 k h1 _ fun F1 H1 vs k1 s1 p1 => ?_
  rw [List.append_nil]
  dsimp only at e
  split at e
  · rename_i hrs
    obtain ⟨args, h2, e⟩ := Option.bind_eq_some_iff.mp e
    obtain ⟨⟨d', args'⟩, h3, e⟩ := Option.map_eq_some_iff.mp e
    cases e
    refine ⟨F1, args, d', args', h3, k1.fr, args_ok k1 p1 h2 (by rw [hrs]; intro i hi; cases hi) (by rw [hrs]; intro i hi; cases hi), fun F' H' v po => ?_⟩
    exact q F' H' v (ok_after k1 p1 h2 po rfl (fun j => .inl rfl) (by rw [hrs]; intro i hi; cases hi)) (s1.trans po.grow) po.res
  · rename_i i hrs
    split at e
    · cases e
    · rename_i hc
      obtain ⟨args, h2, e⟩ := Option.bind_eq_some_iff.mp e
      obtain ⟨⟨d', args'⟩, h3, e⟩ := Option.bind_eq_some_iff.mp e
      obtain ⟨env2, h4, e⟩ := Option.map_eq_some_iff.mp e
      cases e
      obtain ⟨j, l, ds, es, g1, g2, g3, g4⟩ := backAr_one hrs h4
      subst g4
      have hil : i < e1.length := (List.getElem?_eq_some_iff.mp g3).1
      refine ⟨F1, args, d', args', h3, k1.fr, args_ok k1 p1 h2 (by rw [hrs]; intro i' hi'; simp at hi'; subst hi'; intro hm; apply hc; simp [hm]) (by rw [hrs]; intro i' hi' j1 j2 q1 q2; simp at hi'; subst hi'; exact rSlots_one hrs j1 j2 q1 q2), fun F' H' v po => ?_⟩
      refine q F' H' v (ok_after k1 p1 h2 po (by simp) (fun j' => ?_) ?_) (s1.trans po.grow) po.res
      · by_cases hj : i = j'
        · subst hj
          exact .inr ⟨j, l, ds, es, g1, g2, g3, by rw [List.getElem?_set_self hil]⟩
        · exact .inl (List.getElem?_set_ne hj)
      · rw [hrs]
        intro i' hi' j' _
        simp at hi'
        subst hi'
        exact ⟨j, l, ds, g2, g1, by rw [List.getElem?_set_self hil]⟩
  · cases e
end
section
variable {X : Cx} {k : Nat} {fx : Addr} {fd : FuncData} {ps : List Str} {x : Str} {p pos : Pos} {e : Expr} {es : List Expr} {fa : Af} {g : Gf}
theorem xe_call (FF : FnOk X.prog X.w X.K X.mg X.base CX0 k fx fd ps (spF X.K g)) (hr : Room k X.A) (hm : X.mg x = some (.ref fx)) (hk : PySem.W.keepIn X.K (.ref fx) = true) (hb : Binds X.K fd ps []) (ha : XA X (e :: es) fa) (hg : Gl X x := by rfl)
    (hdb : (x == ("__debug__" : Str)) = false := by decide) (he : starEach (e :: es) X.env = (false, eval e X.env) :: starEach es X.env := by rfl) (hpl : (backTo pos (starEach es X.env)).any (·.1) = false := by rfl) :
    XE X (.Call (.Name x p) (e :: es) [] pos) (eCall g fa) :=
  let ⟨_, h1, h2⟩ := ha.ex; ⟨_, pe_call FF hr hg hm hk hb .nil pass0 h1 hdb he hpl, re_call h2⟩
/-! ### a built-in of one argument -/
def GC (K : Frg) (r : List V → Hp → VK → Prop) (g : D → Option D) : Prop := ∀ G F env s H x d z, Ok K G F env s H → Dq K F H x d → g d = some z → ∀ Q : VK, (∀ F' H' v, Ok K G F' env s H' → Same F F' → Dt F' v z → Q v H') → r [x] H Q
def lUn (g : D → Option (List D)) (fa : Ef) : Lf := fun env => (fa env).bind fun r => (g r.1).map fun d => (d, r.2)
variable {f fb : Ef} {K : Frg}
theorem re_cb {r : List V → Hp → VK → Prop} {g : D → Option D} {ta : TE} (ho : GC K r g) (ha : RO K ta f) : RE K (tCB r (tCons ta tNil)) (eUn g f) := fun G F env s H d env' k e Q q => by
  obtain ⟨d1, h1, h3⟩ := un_some e
  refine ha G F env s H d1 env' k h1 _ fun F1 H1 v1 k1 s1 p1 => ?_
  exact ho G F1 env' s H1 v1 d1 d k1 p1 h3 Q fun F3 H3 v3 k3 s3 p3 => q F3 H3 v3 k3 (s1.trans s3) p3
section
variable {id T : String} {r : List V → Hp → VK → Prop}
theorem xe_cbB {g : D → Option D} (hc : CallR X (.builtin id) r) (hv : bootBuiltins x = some (.builtin id)) (ho : GC X.K r g) (hm : X.mg x = none) (ha : XO X e f) (hg : Gl X x := by rfl) (hn : x ≠ "__name__" := by decide) (hdb : (x == ("__debug__" : Str)) = false := by decide)
    (he : starEach [e] X.env = (false, eval e X.env) :: starEach [] X.env := by rfl) (hpl : (backTo pos (starEach [] X.env)).any (·.1) = false := by rfl) : XE X (.Call (.Name x p) [e] [] pos) (eUn g f) :=
  let ⟨_, h1, h2⟩ := ha.ex; ⟨_, pe_callB hc hg hm hv (pa_cons h1 pa_nil he) hn hdb he hpl, re_cb ho h2⟩
theorem xe_cbT {g : D → Option D} (hc : CallR X (.type T) r) (hv : bootBuiltins x = some (.type T)) (ho : GC X.K r g) (hm : X.mg x = none) (ha : XO X e f) (hg : Gl X x := by rfl) (hn : x ≠ "__name__" := by decide) (hdb : (x == ("__debug__" : Str)) = false := by decide)
    (he : starEach [e] X.env = (false, eval e X.env) :: starEach [] X.env := by rfl) (hpl : (backTo pos (starEach [] X.env)).any (·.1) = false := by rfl) : XE X (.Call (.Name x p) [e] [] pos) (eUn g f) :=
  let ⟨_, h1, h2⟩ := ha.ex; ⟨_, pe_callTy hc hg hm hv (pa_cons h1 pa_nil he) hn hdb he hpl, re_cb ho h2⟩
end
end
end M

namespace M
open PySem PySem.Spec PyProof.Rows L2

inductive Out where
  | nx (env : En) | rt (d : D) (env : En) | rn (ds : List D) (env : En) | rp (as ds : List D) (env : En)
/-- a new tuple that ends in a new list, both nobody's yet -/
structure NewT (G : Gm) (F H : Hp) (env : En) (s : L2.St) (t p : Addr) (vs us : List V) (as ds : List D) : Prop where
  ht : H t = some (.tup (vs ++ [.ref p]))
  ft : F t = none
  t0 : G.H0 t = none
  tP : G.P t = none
  hp : H p = some (.lst us)
  fp : F p = none
  p0 : G.H0 p = none
  pP : G.P p = none
  pn : ∀ (j : Nat) l es, env[j]? = some (.own l es) → s[j]? ≠ some (some (.ref p))
  da : Da F vs as
  du : Da F us ds
/-- both frozen -/
theorem NewT.frz {K : Frg} {G : Gm} {F H : Hp} {env : En} {s : L2.St} {t p : Addr} {vs us : List V} {as ds : List D} (n : NewT G F H env s t p vs us as ds) (k : Ok K G F env s H) : ∃ F', Ok K G F' env s H ∧ Same F F' ∧ Dt F' (.ref t) (.tuple (as ++ [.list ds])) ∧ F' t = some (.tup (vs ++ [.ref p])) ∧ F' p = some (.lst us) := by
  have k1 := k.freeze n.hp n.fp n.p0 n.pn (k.notdctL n.hp)
  have ne : t ≠ p := fun e => by have := n.ht; rw [e, n.hp] at this; cases this
  have f1 : upd F p (.lst us) t = none := by rw [upd_ne ne]; exact n.ft
  have k2 := k1.freeze n.ht f1 n.t0 (fun j l es e z => by
    obtain ⟨a, ws, h1, h2, _⟩ := k.own j l es e
    rw [z] at h1; cases h1
    rw [n.ht] at h2; cases h2) (k1.notdctT n.ht)
  have s1 : Same F (upd F p (.lst us)) := same_upd n.fp
  have s2 : Same (upd F p (.lst us)) (upd (upd F p (.lst us)) t (.tup (vs ++ [.ref p]))) := same_upd f1
  exact ⟨_, k2, s1.trans s2, .tup upd_same ((Da.mono (s1.trans s2) _ _ n.da).append (.cons (.lst (s2 _ _ upd_same) (Da.mono (s1.trans s2) _ _ n.du)) .nil)), upd_same, s2 _ _ upd_same⟩
abbrev Sf := En → Option Out
def RSx (K : Frg) (G : Gm) (F : Hp) (E : Ends) : Out → Prop
  | .nx env => ∀ F' s' H', Ok K G F' env s' H' → Same F F' → E.nx s' H'
  | .rt d env => ∀ F' s' H' v, Ok K G F' env s' H' → Same F F' → Dt F' v d → E.rt v H'
  | .rn ds env => ∀ F' s' H' p vs, Ok K G F' env s' H' → Same F F' → H' p = some (.lst vs) → F' p = none → G.H0 p = none → G.P p = none → (∀ (j : Nat) l es, env[j]? = some (.own l es) → s'[j]? ≠ some (some (.ref p))) → Da F' vs ds → E.rt (.ref p) H'
  | .rp as ds env => ∀ F' s' H' t p vs us, Ok K G F' env s' H' → Same F F' → NewT G F' H' env s' t p vs us as ds → E.rt (.ref t) H'
def RS (K : Frg) (t : TS) (f : Sf) : Prop := ∀ G F env s H o, Ok K G F env s H → f env = some o → ∀ E : Ends, RSx K G F E o → t E s H
structure XS (X : Cx) (st : Stmt) (f : Sf) : Prop where
  ex : ∃ t, PS X st t ∧ RS X.K t f
structure XSs (X : Cx) (sts : List Stmt) (f : Sf) : Prop where
  ex : ∃ t, PSs X sts t ∧ RS X.K t f
theorem RSx.up {K : Frg} {G : Gm} {F F' : Hp} {E : Ends} {o : Out} (s : Same F F') (h : RSx K G F E o) : RSx K G F' E o := by
  cases o with
  | nx env => exact fun F2 s2 H2 k e => h F2 s2 H2 k (s.trans e)
  | rt d env => exact fun F2 s2 H2 v k e p => h F2 s2 H2 v k (s.trans e) p
  | rn ds env => exact fun F2 s2 H2 p vs k e h1 h2 h3 h4 h5 h6 => h F2 s2 H2 p vs k (s.trans e) h1 h2 h3 h4 h5 h6
  | rp as ds env => exact fun F2 s2 H2 t p vs us k e n => h F2 s2 H2 t p vs us k (s.trans e) n
/-- what isn't the next statement hangs on the return alone -/
theorem RSx.same_rt {K : Frg} {G : Gm} {F : Hp} {E E' : Ends} {o : Out} (he : E'.rt = E.rt) (ho : ∀ env, o ≠ .nx env) (h : RSx K G F E o) : RSx K G F E' o := by
  cases o with
  | nx env => exact absurd rfl (ho env)
  | rt d env => exact fun F2 s2 H2 v k e p => by rw [he]; exact h F2 s2 H2 v k e p
  | rn ds env => exact fun F2 s2 H2 p vs k e h1 h2 h3 h4 h5 h6 => by rw [he]; exact h F2 s2 H2 p vs k e h1 h2 h3 h4 h5 h6
  | rp as ds env => exact fun F2 s2 H2 t p vs us k e n => by rw [he]; exact h F2 s2 H2 t p vs us k e n
def sNil : Sf := fun env => some (.nx env)
def sSeq (f g : Sf) : Sf := fun env => (f env).bind fun o => match o with
  | .nx env1 => g env1
  | o => some o
section
variable {X : Cx} {K : Frg} {st : Stmt} {rest : List Stmt} {e a b : Expr} {f g : Sf} {fe fa fb : Ef} {pos : Pos}
theorem rs_seq {t u : TS} (h1 : RS K t f) (h2 : RS K u g) : RS K (tSeq t u) (sSeq f g) := fun G F env s H o k e E q => by
  unfold sSeq at e
  obtain ⟨o1, h3, e⟩ := Option.bind_eq_some_iff.mp e
  cases o1 with
  | nx env1 =>
    refine h1 G F env s H _ k h3 _ ?_
    exact fun F1 s1 H1 k1 e1 => h2 G F1 env1 s1 H1 o k1 e E (q.up e1)
  | rt d env1 =>
    cases e
    exact h1 G F env s H _ k h3 _ q
  | rn ds env1 =>
    cases e
    exact h1 G F env s H _ k h3 _ q
  | rp as ds env1 =>
    cases e
    exact h1 G F env s H _ k h3 _ q
theorem xss_nil : XSs X [] sNil := ⟨_, pss_nil, fun G F env s H o k e E q => by cases e; exact q F s H k (Same.refl F)⟩
theorem xss_cons (h1 : XS X st f) (h2 : XSs X rest g) : XSs X (st :: rest) (sSeq f g) :=
  let ⟨_, p1, q1⟩ := h1.ex; let ⟨_, p2, q2⟩ := h2.ex; ⟨_, pss_cons p1 p2, rs_seq q1 q2⟩
theorem xss_one (h1 : XS X st f) : XSs X [st] f := let ⟨_, p1, q1⟩ := h1.ex; ⟨_, pss_one p1, q1⟩
def sExpr (f : Ef) : Sf := fun env => (f env).map fun r => .nx r.2
def sRet (f : Ef) : Sf := fun env => (f env).map fun r => .rt r.1 r.2
theorem xs_ret (he : XE X e fe) : XS X (.Return (some e) pos) (sRet fe) := by
  obtain ⟨t, h1, h2⟩ := he.ex
  refine ⟨_, ps_ret h1, fun G F env s H o k e E q => ?_⟩
  unfold sRet at e
  obtain ⟨⟨d, e1⟩, h3, e⟩ := Option.map_eq_some_iff.mp e
  cases e
  exact h2 G F env s H d e1 k h3 _ fun F1 H1 v k1 s1 p1 => q F1 s H1 v k1 s1 p1
/-- a new list is handed back -/
def sRetL (f : Lf) : Sf := fun env => (f env).map fun r => .rn r.1 r.2
def sRetN : Sf := fun env => some (.rt .none env)
/-- a list that the def made, frozen -/
def frz (i : Nat) : En → Option En := fun env => match env[i]? with
  | some (.own true ds) => some (env.set i (.val (.list ds)))
  | some (.val d) => some env
  | _ => none
theorem set_get {α : Type} {l : List α} {i j : Nat} {x y : α} (h : (l.set i x)[j]? = some y) : (i = j ∧ i < l.length ∧ x = y) ∨ (i ≠ j ∧ l[j]? = some y) := by
  by_cases hj : i = j
  · subst hj
    have hl : i < l.length := by have := (List.getElem?_eq_some_iff.mp h).1; simpa using this
    rw [List.getElem?_set_self hl] at h
    cases h
    exact .inl ⟨rfl, hl, rfl⟩
  · rw [List.getElem?_set_ne hj] at h
    exact .inr ⟨hj, h⟩
/-- the def's own list is handed back -/
def sRetO (i : Nat) : Sf := fun env => match env[i]? with
  | some (.own true ds) => some (.rn ds (env.set i .no))
  | _ => none
def sFrz (i : Nat) (f : Sf) : Sf := fun env => (frz i env).bind f
def sIf (c : Bf) (f g : Sf) : Sf := fun env => (c env).bind fun r => if r.1 then f r.2 else g r.2
theorem xs_if {c : Expr} {p1 p2 : List Stmt} {gc : Bf} (hc : XB X c gc) (ha : XSs X p1 f) (hb : XSs X p2 g) : XS X (.If c p1 p2 pos) (sIf gc f g) := by
  obtain ⟨t, h1, h2⟩ := hc.ex
  obtain ⟨ta, h3, h4⟩ := ha.ex
  obtain ⟨tb, h5, h6⟩ := hb.ex
  refine ⟨_, ps_if h1 h3 h5, fun G F env s H o k e E q => ?_⟩
  unfold sIf at e
  obtain ⟨⟨c, e1⟩, h7, e⟩ := Option.bind_eq_some_iff.mp e
  refine h2 G F env s H c e1 k h7 _ fun F1 H1 k1 s1 => ?_
  cases c with
  | true =>
    rw [if_pos rfl] at e ⊢
    exact h4 G F1 e1 s H1 o k1 e E (q.up s1)
  | false =>
    rw [if_neg Bool.false_ne_true] at e ⊢
    exact h6 G F1 e1 s H1 o k1 e E (q.up s1)

/-! ### assignment -/
theorem ok_set {G : Gm} {F : Hp} {env : En} {s : L2.St} {H : Hp} {i : Nat} {d : D} {v : V} (k : Ok K G F env s H) (p : Dt F v d) : Ok K G F (env.set i (.val d)) (s.set i (some v)) H := by
  refine ⟨by simp [k.len], k.fr, fun j d' e => ?_, fun j l es e => ?_, fun j es e => ?_, fun j j' l es m fs e1 e2 e3 => ?_, k.pin, k.dom, k.grow, k.new, k.rin, k.dct.slots fun j w kvs e => ?_⟩
  · rcases set_get e with ⟨rfl, hl, z⟩ | ⟨hj, z⟩
    · cases z
      exact ⟨v, by rw [List.getElem?_set_self (by rw [k.len]; exact hl)], p⟩
    · rw [List.getElem?_set_ne hj]
      exact k.val j d' z
  · rcases set_get e with ⟨rfl, hl, z⟩ | ⟨hj, z⟩
    · cases z
    · rw [List.getElem?_set_ne hj]
      exact k.own j l es z
  · rcases set_get e with ⟨rfl, hl, z⟩ | ⟨hj, z⟩
    · cases z
    · rw [List.getElem?_set_ne hj]
      exact k.ro j es z
  · rcases set_get e1 with ⟨rfl, hl, z⟩ | ⟨hj, z⟩
    · cases z
    · rcases set_get e2 with ⟨rfl, hl, z2⟩ | ⟨hj2, z2⟩
      · cases z2
      · rw [List.getElem?_set_ne hj, List.getElem?_set_ne hj2] at e3
        exact k.sep j j' _ _ _ _ z z2 e3
  · rcases set_get e with ⟨_, _, z⟩ | ⟨hj, z⟩
    · cases z
    · exact ⟨z, List.getElem?_set_ne hj⟩
def sSet (i : Nat) (f : Ef) : Sf := fun env => (f env).map fun r => .nx (r.2.set i (.val r.1))
def sSetO (i : Nat) (f : Lf) : Sf := fun env => (f env).map fun r => .nx (r.2.set i (.own true r.1))
theorem rs_set {t : TE} (i : Nat) (h2 : RE K t fe) : RS K (tAsg t (gName i)) (sSet i fe) := fun G F env s H o k e E q => by
  unfold sSet at e
  obtain ⟨⟨d, e1⟩, h3, e⟩ := Option.map_eq_some_iff.mp e
  cases e
  exact h2 G F env s H d e1 k h3 _ fun F1 H1 v k1 s1 p1 => q F1 _ H1 (ok_set k1 p1) s1
theorem xs_set (i : Nat) {x : Str} {pos' : Pos} (he : XE X e fe) (hN : X.N.Nodup) (hi : X.N[i]? = some x := by rfl) (hx : Loc X.env.scope x := by first | exact Or.inl rfl | exact Or.inr rfl) (hs : swapsWith e (some (.Name x pos')) pos.line X.env = pure false := by rfl)
    (hf : X.fn x = true ∨ X.env.scope.names.lookup x = some .local := by first | exact .inl rfl | exact .inr rfl | assumption) : XS X (.Assign [.Name x pos'] e pos) (sSet i fe) :=
  let ⟨_, h1, h2⟩ := he.ex; ⟨_, ps_set hN hi hx h1 hs hf, rs_set i h2⟩
/-! ### targets -/
abbrev Tf := D → En → Option En
def RG (K : Frg) (t : TG) (g : Tf) (sl : List Nat) : Prop := ∀ G F env s H v d env', Ok K G F env s H → Dt F v d → g d env = some env' → ∀ Q : L2.St → Hp → Prop,
  (∀ s', Ok K G F env' s' H → (∀ vs : List Nat, (∀ i ∈ sl, i ∈ vs) → wipe s' vs = wipe s vs) → Q s' H) → t v s H Q
structure XG (X : Cx) (tg : Expr) (g : Tf) (sl : List Nat) : Prop where
  ex : ∃ t, PG X tg t ∧ RG X.K t g sl
theorem wipe_get (s : L2.St) : ∀ (vs : List Nat) (j : Nat), (wipe s vs)[j]? = if j ∈ vs ∧ j < s.length then some none else s[j]?
  | [], j => by simp [wipe]
  | v :: vs, j => by
    unfold wipe
    by_cases hj : v = j
    · subst hj
      by_cases hl : v < s.length
      · rw [List.getElem?_set_self (by rw [wipe_length]; exact hl)]
        simp [hl]
      · rw [List.getElem?_eq_none (by rw [List.length_set, wipe_length]; omega), List.getElem?_eq_none (by omega)]
        simp [hl]
    · rw [List.getElem?_set_ne hj, wipe_get s vs j]
      have : ¬ j = v := fun e => hj e.symm
      simp [this]
theorem wipe_set {s : L2.St} {i : Nat} {x : Option V} {vs : List Nat} (h : i ∈ vs) : wipe (s.set i x) vs = wipe s vs := by
  refine List.ext_getElem? fun j => ?_
  rw [wipe_get, wipe_get, List.length_set]
  by_cases hj : j ∈ vs ∧ j < s.length
  · rw [if_pos hj, if_pos hj]
  · rw [if_neg hj, if_neg hj]
    by_cases hi : i = j
    · subst hi
      have : ¬ i < s.length := fun z => hj ⟨h, z⟩
      rw [List.getElem?_eq_none (by simp; omega), List.getElem?_eq_none (by omega)]
    · rw [List.getElem?_set_ne hi]
def tN (i : Nat) : Tf := fun d env => some (env.set i (.val d))
theorem xg_name (i : Nat) {x : Str} (hN : X.N.Nodup) (hi : X.N[i]? = some x := by rfl) (hx : Loc X.env.scope x := by first | exact Or.inl rfl | exact Or.inr rfl) (hf : X.fn x = true ∨ X.env.scope.names.lookup x = some .local := by first | exact .inl rfl | exact .inr rfl | assumption) : XG X (.Name x pos) (tN i) [i] :=
  ⟨_, pg_name hN hi hx hf, fun G F env s H v d env' k p e Q q => by
    cases e
    exact q _ (ok_set k p) fun vs h => wipe_set (h i (by simp))⟩
def gsN : List D → En → Option En := fun ds env => match ds with
  | [] => some env
  | _ => none
def gsC (g : Tf) (r : List D → En → Option En) : List D → En → Option En := fun ds env => match ds with
  | d :: ds => (g d env).bind (r ds)
  | [] => none
def tT (n : Nat) (r : List D → En → Option En) : Tf := fun d env => match d with
  | .tuple ds => if ds.length = n then r ds env else none
  | _ => none
def sAsg (f : Ef) (g : Tf) : Sf := fun env => (f env).bind fun r => (g r.1 r.2).map .nx
/-- a, b = x, y -/
def sPar (i j : Nat) (g : Lf) : Sf := fun env => (g env).bind fun r => match r.1 with
  | [d, e] => some (.nx ((r.2.set i (.val d)).set j (.val e)))
  | _ => none
/-! ### lists that the def owns: changed in place -/
/-- xs.m(e), xs the def's own list: what it becomes and what is told -/
def isOwn (env : En) (i : Nat) : Bool := match env[i]? with
  | some (.own _ _) => true
  | _ => false
def isDct (env : En) (i : Nat) : Bool := match env[i]? with
  | some (.dct _ _) => true
  | _ => false
def eMut (g : List D → D → Option (List D × D)) (i : Nat) (f : Ef) : Ef := fun env => if isOwn env i then (f env).bind fun r => match r.2[i]? with
  | some (.own l ds) => (g ds r.1).map fun q => (q.2, r.2.set i (.own l q.1))
  | _ => none
  else none
def eMut0 (g : List D → Option (List D × D)) (i : Nat) : Ef := fun env => match env[i]? with
  | some (.own l ds) => (g ds).map fun q => (q.2, env.set i (.own l q.1))
  | _ => none
def mAppend : List D → D → Option (List D × D) := fun ds d => if fits (ds.length + 1) then some (ds ++ [d], .none) else none
def mExtend : List D → D → Option (List D × D) := fun ds d => match d with
  | .list es => if fits (ds.length + es.length) then some (ds ++ es, .none) else none
  | _ => none
section
variable {x : Str} {p2 : Pos} {pos apos : Pos} {name : Str} {id : String}
end
/-- xs[k] = e -/
def sPut (i : Nat) (fk fe : Ef) : Sf := fun env => (fe env).bind fun r => (fk r.2).bind fun q => match q.1, q.2[i]? with
  | .int k, some (.own l ds) => (ixN ds.length k).map fun j => .nx (q.2.set i (.own l (ds.set j r.1)))
  | _, _ => none
def sPutI (i : Nat) (fk fe : Ef) : Sf := fun env => if isOwn env i then sPut i fk fe env else none
end
end M

namespace M
open PySem PySem.Spec PyProof.Rows L2

/-! ### what is walked -/
def Wk (K : Frg) (P : Hp) (J : It) (F0 : Hp) (ds : List D) : Prop := ∃ (Gp : Hp → Prop) (Y : Nat → Hp → V → Hp → Prop), Walk J ds.length Gp Y ∧
  (∀ G F env s H, Same P G.R → Ok K G F env s H → Same F0 F → Gp H) ∧
  (∀ i H x H' G F env s, i < ds.length → Same P G.R → Ok K G F env s H → Same F0 F → Y i H x H' → ∃ F', Ok K G F' env s H' ∧ Same F F' ∧ (∀ a o, H a = some o → H' a = some o) ∧ ∃ d, ds[i]? = some d ∧ Dt F' x d)
def RI (K : Frg) (wi : TI) (f : Lf) : Prop := ∀ G F env s H ds env', Ok K G F env s H → f env = some (ds, env') → ∀ R : It → Hp → Prop, (∀ F' H' J, Ok K G F' env' s H' → Same F F' → Wk K G.R J F' ds → R J H') → wi s H R
structure XI (X : Cx) (tg iter : Expr) (f : Lf) : Prop where
  ex : ∃ wi, PI X tg iter wi ∧ RI X.K wi f
def signs (x : Str) : List D := x.cps.toList.map fun c => .str ⟨#[c]⟩
def irange (lo : Int) (n : Nat) : List D := (List.range n).map fun (i : Nat) => PyData.int (lo + (i : Int))
theorem wk_range {K : Frg} {P F0 : Hp} {lo : Int} {n : Nat} : Wk K P (Itr lo n) F0 (irange lo n) :=
  ⟨_, _, by
    have : (irange lo n).length = n := by simp [irange]
    rw [this]; exact walk_range, fun _ _ _ _ _ _ _ _ => trivial, fun i H y H' G F env s hi hp k e q => by
    obtain ⟨rfl, rfl⟩ := q
    refine ⟨F, k, Same.refl F, fun _ _ h => h, .int (lo + (i : Int)), ?_, .int _⟩
    have hi' : i < n := by simpa [irange] using hi
    unfold irange
    rw [List.getElem?_map, List.getElem?_range hi']
    rfl⟩
/-- pairs, each a new tuple -/
def pairs (xs ys : List D) : List D := (xs.zip ys).map fun p => .tuple [p.1, p.2]
section
variable {X : Cx} {tg e a b : Expr} {fe fa fb : Ef} {f g : Sf} {pos : Pos} {K : Frg}
def lIt (f : Ef) : Lf := fun env => (f env).bind fun r => match r.1 with
  | .list ds => some (ds, r.2)
  | .tuple ds => some (ds, r.2)
  | .str x => some (signs x, r.2)
  | _ => none
def smallI (i : Int) : Bool := decide (-1000000000 ≤ i) && decide (i ≤ 1000000000)
def lRng1 (f : Ef) : Lf := fun env => (f env).bind fun r => match r.1 with
  | .int n => if smallI n then some (irange 0 n.toNat, r.2) else none
  | _ => none
def lRng2 (f g : Ef) : Lf := fun env => (f env).bind fun r => (g r.2).bind fun q => match r.1, q.1 with
  | .int m, .int n => if smallI m && smallI n then some (irange m (n - m).toNat, q.2) else none
  | _, _ => none
theorem xi_rng1 {p : Pos} (ha : XE X a fa) (hm : X.mg "range" = none) (hg : Gl X "range" := by rfl) (hs : starEach [a] X.env = [(false, eval a X.env)] := by rfl) : XI X tg (.Call (.Name "range" p) [a] [] pos) (lRng1 fa) := by
  obtain ⟨t, h1, h2⟩ := ha.ex
  refine ⟨_, pi_range1 hg hm (pa_cons h1 pa_nil (by rw [hs]; rfl)) hs, fun G F env s H ds env' k e R q => ?_⟩
  unfold lRng1 at e
  obtain ⟨⟨d, e1⟩, h3, e⟩ := Option.bind_eq_some_iff.mp e
  refine h2 G F env s H d e1 k h3 _ fun F1 H1 v k1 s1 p1 => ?_
  cases p1 with
  | int n =>
    dsimp only at e
    split at e
    · rename_i hf
      cases e
      unfold smallI at hf
      simp only [Bool.and_eq_true, decide_eq_true_eq] at hf
      exact ⟨n, rfl, by omega, by omega, q F1 H1 _ k1 s1 wk_range⟩
    · cases e
  | _ => cases e
def lEnum (f : Ef) : Lf := fun env => (f env).bind fun r => match r.1 with
  | .list ds => some (pairs (irange 0 ds.length) ds, r.2)
  | _ => none
/-! ### for -/
def forGo (g : Tf) (body : Sf) : List D → En → Option Out
  | [], env => some (.nx env)
  | d :: ds, env => (g d env).bind fun env1 => (body env1).bind fun o => match o with
    | .nx env2 => forGo g body ds env2
    | o => some o
def sFor (src : Lf) (g : Tf) (body : Sf) : Sf := fun env => (src env).bind fun r => forGo g body r.1 r.2
theorem xs_for {iter : Expr} {body : List Stmt} {src : Lf} {gt : Tf} {sl : List Nat} {fb : Sf} (hp : PassesOwn (model X.prog X.w) X.A X.env X.xe) (hi : XI X tg iter src) (hg : XG X tg gt sl) (hb : XSs X body fb) (hc : X.calm = true := by rfl)
    (hs : ∀ x, foldedSetIterable iter X.env x = pure x := by intro _; rfl) : XS X (.For tg iter body [] pos) (sFor src gt fb) := by
  obtain ⟨wi, p1, q1⟩ := hi.ex
  obtain ⟨tg', p2, q2⟩ := hg.ex
  obtain ⟨tb, p3, q3⟩ := hb.ex
  refine ⟨_, ps_for hp hc p1 p2 p3 hs, fun G F env s H o k e E q => ?_⟩
  unfold sFor at e
  obtain ⟨⟨ds, e1⟩, h1, e⟩ := Option.bind_eq_some_iff.mp e
  refine q1 G F env s H ds e1 k h1 _ fun F1 H1 J k1 s1 w => ?_
  obtain ⟨Gp, Y, w1, w2, w3⟩ := w
  refine for_it w1 (fun i s' H' => ∃ F' env', Ok X.K G F' env' s' H' ∧ Same F1 F' ∧ forGo gt fb (ds.drop i) env' = some o) ⟨F1, e1, k1, Same.refl F1, e⟩ (fun i s' H' hi ⟨F', env', k', s'', _⟩ => w2 G F' env' s' H' (Same.refl _) k' s'') (fun i x s' H' H'' hi ⟨F', env', k', s'', e'⟩ y => ?_) fun s' H' ⟨F', env', k', s'', e'⟩ => ?_
  · obtain ⟨F2, k2, s2, _, d, hd, pd⟩ := w3 i H' x H'' G F' env' s' hi (Same.refl _) k' s'' y
    have hdr : ds.drop i = d :: ds.drop (i + 1) := by
      obtain ⟨hl, hx⟩ := List.getElem?_eq_some_iff.mp hd
      rw [List.drop_eq_getElem_cons hl, hx]
    rw [hdr] at e'
    unfold forGo at e'
    obtain ⟨env2, h2, e'⟩ := Option.bind_eq_some_iff.mp e'
    obtain ⟨o2, h3, e'⟩ := Option.bind_eq_some_iff.mp e'
    refine q2 G F2 env' s' H'' x d env2 k2 pd h2 _ fun s3 k3 _ => ?_
    refine q3 G F2 env2 s3 H'' o2 k3 h3 _ ?_
    cases o2 with
    | nx env3 => exact fun F4 s4 H4 k4 s5 => ⟨F4, env3, k4, (s''.trans s2).trans s5, e'⟩
    | rt v ee =>
      cases e'
      exact (q.up (s1.trans (s''.trans s2))).same_rt rfl (by simp)
    | rn v ee =>
      cases e'
      exact (q.up (s1.trans (s''.trans s2))).same_rt rfl (by simp)
    | rp v w ee =>
      cases e'
      exact (q.up (s1.trans (s''.trans s2))).same_rt rfl (by simp)
  · rw [List.drop_length] at e'
    cases e'
    exact q F' s' H' k' (s1.trans s'')

/-! ### while -/
/-! ### list comprehensions -/
def wipeE (env : En) : List Nat → En
  | [] => env
  | v :: vs => (wipeE env vs).set v .no
def backE (old env : En) : List Nat → En
  | [] => env
  | v :: vs => match old[v]? with
    | some x => (backE old env vs).set v x
    | none => backE old env vs
def noOwn (env : En) : List Nat → Bool
  | [] => true
  | v :: vs => (!isOwn env v && !isDct env v) && noOwn env vs
def lcGo (vs : List Nat) (g : Tf) (c : Bf) (f : Ef) : List D → En → Option (List D × En)
  | [], env => some ([], env)
  | d :: ds, env => (g d env).bind fun env1 => (c env1).bind fun r => if r.1 then (f r.2).bind fun q => (lcGo vs g c f ds (wipeE q.2 vs)).map fun w => (q.1 :: w.1, w.2)
    else lcGo vs g c f ds (wipeE r.2 vs)
def lComp (src : Lf) (vs : List Nat) (g : Tf) (c : Bf) (f : Ef) : Lf := fun env => (src env).bind fun r => if noOwn r.2 vs && fits r.1.length then (lcGo vs g c f r.1 (wipeE r.2 vs)).map fun w => (w.1, backE r.2 w.2 vs) else none
theorem wipeE_length (env : En) : ∀ vs : List Nat, (wipeE env vs).length = env.length
  | [] => rfl
  | v :: vs => by unfold wipeE; rw [List.length_set, wipeE_length env vs]
theorem wipeE_get (env : En) : ∀ (vs : List Nat) (j : Nat), (wipeE env vs)[j]? = if j ∈ vs ∧ j < env.length then some .no else env[j]?
  | [], j => by simp [wipeE]
  | v :: vs, j => by
    unfold wipeE
    by_cases hj : v = j
    · subst hj
      by_cases hl : v < env.length
      · rw [List.getElem?_set_self (by rw [wipeE_length]; exact hl)]
        simp [hl]
      · rw [List.getElem?_eq_none (by rw [List.length_set, wipeE_length]; omega), List.getElem?_eq_none (by omega)]
        simp [hl]
    · rw [List.getElem?_set_ne hj, wipeE_get env vs j]
      have : ¬ j = v := fun e => hj e.symm
      simp [this]
theorem backE_length (old env : En) : ∀ vs : List Nat, (backE old env vs).length = env.length
  | [] => rfl
  | v :: vs => by
    unfold backE
    split
    · rw [List.length_set, backE_length old env vs]
    · exact backE_length old env vs
theorem backE_get (old env : En) (hl : old.length = env.length) : ∀ (vs : List Nat) (j : Nat), (backE old env vs)[j]? = if j ∈ vs then old[j]? else env[j]?
  | [], j => by simp [backE]
  | v :: vs, j => by
    unfold backE
    by_cases hj : v = j
    · subst hj
      cases hx : old[v]? with
      | some x =>
        have hv : v < old.length := (List.getElem?_eq_some_iff.mp hx).1
        simp only
        rw [List.getElem?_set_self (by rw [backE_length, ← hl]; exact hv)]
        simp
      | none =>
        simp only
        rw [backE_get old env hl vs v, hx]
        have : env[v]? = none := by rw [List.getElem?_eq_none_iff] at hx ⊢; omega
        simp [this]
    · have hn : ¬ j = v := fun e => hj e.symm
      cases hx : old[v]? with
      | some x => simp only; rw [List.getElem?_set_ne hj, backE_get old env hl vs j]; simp [hn]
      | none => simp only; rw [backE_get old env hl vs j]; simp [hn]
theorem noOwn_get {env : En} : ∀ {vs : List Nat} {j : Nat}, noOwn env vs = true → j ∈ vs → ∀ l ds, env[j]? ≠ some (.own l ds)
  | v :: vs, j, h, hj, l, ds => fun e => by
    unfold noOwn at h
    simp only [Bool.and_eq_true, Bool.not_eq_true'] at h
    rcases List.mem_cons.mp hj with rfl | hj
    · have := h.1.1
      unfold isOwn at this
      rw [e] at this; cases this
    · exact noOwn_get h.2 hj l ds e
theorem noOwn_dct {env : En} : ∀ {vs : List Nat} {j : Nat}, noOwn env vs = true → j ∈ vs → ∀ w kvs, env[j]? ≠ some (.dct w kvs)
  | v :: vs, j, h, hj, w, kvs => fun e => by
    unfold noOwn at h
    simp only [Bool.and_eq_true, Bool.not_eq_true'] at h
    rcases List.mem_cons.mp hj with rfl | hj
    · have := h.1.2
      unfold isDct at this
      rw [e] at this; cases this
    · exact noOwn_dct h.2 hj w kvs e
theorem ok_wipe {G : Gm} {F : Hp} {env : En} {s : L2.St} {H : Hp} (vs : List Nat) (k : Ok K G F env s H) : Ok K G F (wipeE env vs) (wipe s vs) H := by
  have key : ∀ {j : Nat} {x : Sl}, (wipeE env vs)[j]? = some x → x ≠ .no → env[j]? = some x ∧ (wipe s vs)[j]? = s[j]? := fun {j x} e hx => by
    rw [wipeE_get] at e
    rw [wipe_get]
    split at e
    · cases e; exact absurd rfl hx
    · rename_i hn
      exact ⟨e, by rw [k.len]; rw [if_neg hn]⟩
  refine ⟨by rw [wipe_length, wipeE_length, k.len], k.fr, fun j d e => ?_, fun j l ds e => ?_, fun j ds e => ?_, fun i j l ds m es e1 e2 e3 => ?_, k.pin, k.dom, k.grow, k.new, k.rin, k.dct.slots fun j w kvs e => key e (by simp)⟩
  · obtain ⟨h1, h2⟩ := key e (by simp)
    rw [h2]; exact k.val j d h1
  · obtain ⟨h1, h2⟩ := key e (by simp)
    rw [h2]; exact k.own j l ds h1
  · obtain ⟨h1, h2⟩ := key e (by simp)
    rw [h2]; exact k.ro j ds h1
  · obtain ⟨h1, h2⟩ := key e1 (by simp)
    obtain ⟨h3, h4⟩ := key e2 (by simp)
    rw [h2, h4] at e3
    exact k.sep i j _ _ _ _ h1 h3 e3
/-- a frame with one more pinned object -/
abbrev Gm.pin (G : Gm) (p : Addr) (o : HO) : Gm := { G with P := upd G.P p o, H0 := upd G.H0 p o }
theorem ok_pin {G : Gm} {F : Hp} {env : En} {s : L2.St} {H : Hp} {p : Addr} {o : HO} (k : Ok K G F env s H) (hp : H p = some o) (hn : ∀ (j : Nat) l es, env[j]? = some (.own l es) → s[j]? ≠ some (some (.ref p))) (hP : G.P p = none) (hF : F p = none) (hD : ∀ (j : Nat) w kvs, env[j]? = some (.dct w kvs) → s[j]? ≠ some (some (.ref p))) : Ok K (G.pin p o) F env s H := by
  refine ⟨k.len, k.fr, k.val, fun j l ds e => ?_, k.ro, k.sep, fun a u e => ?_, fun a e => ?_, k.grow, fun a u e => ?_, k.rin.trans (same_upd hP), k.dct.move (fun _ _ e => e) (fun _ _ _ e => ⟨e, rfl⟩) fun a es g1 g2 g3 g4 ⟨i, w, kvs, g5, g6⟩ => ?_⟩
  · obtain ⟨a, vs, h1, h2, h3, h4, h5, h6, h7⟩ := k.own j l ds e
    have ne : a ≠ p := fun z => by subst z; exact hn j l ds e h1
    exact ⟨a, vs, h1, h2, h3, by show upd G.P p o a = none; rw [upd_ne ne]; exact h4, h5, fun z => by show upd G.H0 p o a = none; rw [upd_ne ne]; exact h6 z, h7⟩
  · have e : upd G.P p o a = some u := e
    by_cases h : a = p
    · subst h; rw [upd_same] at e; rw [hp]; exact e
    · rw [upd_ne h] at e; exact k.pin a u e
  · show upd G.H0 p o a = none
    have ne : a ≠ p := fun z => by subst z; rw [hp] at e; cases e
    rw [upd_ne ne]; exact k.dom a e
  · rcases k.new a u e with z | z
    · exact .inl z
    · have ne : a ≠ p := fun z => by subst z; rw [hF] at e; cases e
      exact .inr (by show upd G.H0 p o a = none; rw [upd_ne ne]; exact z)
  · have ne : a ≠ p := fun z => by subst z; exact hD i w kvs g5 g6
    exact ⟨g1, g2, by show upd G.P p o a = none; rw [upd_ne ne]; exact g3, by show upd G.H0 p o a = none; rw [upd_ne ne]; exact g4⟩
theorem ok_unpin {G : Gm} {F : Hp} {env : En} {s : L2.St} {H : Hp} {p : Addr} {o : HO} (k : Ok K (G.pin p o) F env s H) (hP : G.P p = none) (h0 : G.H0 p = none) (hr : Same G.R G.P) : Ok K G F env s H := by
  have pn : ∀ a, upd G.P p o a = none → G.P a = none ∧ a ≠ p := fun a e => by
    by_cases h : a = p
    · subst h; rw [upd_same] at e; cases e
    · rw [upd_ne h] at e; exact ⟨e, h⟩
  refine ⟨k.len, k.fr, k.val, fun j l ds e => ?_, k.ro, k.sep, fun a u e => k.pin a u (same_upd hP a u e), fun a e => ?_, k.grow, fun a u e => ?_, hr, k.dct.move (fun _ _ e => e) (fun _ _ _ e => ⟨e, rfl⟩) fun a es g1 g2 g3 g4 _ => ?_⟩
  · obtain ⟨a, vs, h1, h2, h3, h4, h5, h6, h7⟩ := k.own j l ds e
    obtain ⟨h8, h9⟩ := pn a h4
    exact ⟨a, vs, h1, h2, h3, h8, h5, fun z => by have q : upd G.H0 p o a = none := h6 z; rw [upd_ne h9] at q; exact q, h7⟩
  · by_cases h : a = p
    · subst h; exact h0
    · have q : upd G.H0 p o a = none := k.dom a e
      rw [upd_ne h] at q; exact q
  · rcases k.new a u e with z | z
    · exact .inl z
    · have z : upd G.H0 p o a = none := z
      by_cases h : a = p
      · subst h; rw [upd_same] at z; cases z
      · rw [upd_ne h] at z; exact .inr z
  · obtain ⟨h8, h9⟩ := pn a g3
    exact ⟨g1, g2, h8, by have q : upd G.H0 p o a = none := g4; rw [upd_ne h9] at q; exact q⟩
/-- a pinned object is never frozen -/
theorem pin_nofrz {G : Gm} {F : Hp} {env : En} {s : L2.St} {H : Hp} {p : Addr} {o : HO} (k : Ok K (G.pin p o) F env s H) (h : G.F0 p = none) : F p = none := by
  cases hx : F p with
  | none => rfl
  | some u =>
    rcases k.new p u hx with z | z
    · have z : G.F0 p = some u := z
      rw [h] at z; cases z
    · have z : upd G.H0 p o p = none := z
      rw [upd_same] at z; cases z
theorem pin_at {G : Gm} {F : Hp} {env : En} {s : L2.St} {H : Hp} {p : Addr} {o : HO} (k : Ok K (G.pin p o) F env s H) : H p = some o := k.pin p o (by show upd G.P p o p = some o; rw [upd_same])
/-- an object that is pinned changes its content -/
theorem ok_repin {G : Gm} {F : Hp} {env : En} {s : L2.St} {H : Hp} {p : Addr} {o o' : HO} (k : Ok K (G.pin p o) F env s H) (hP : G.P p = none) (hF : F p = none) (hr : Same G.R G.P) : Ok K (G.pin p o') F env s (upd H p o') := by
  have pn : ∀ a, upd G.P p o a = none → upd G.P p o' a = none ∧ a ≠ p := fun a e => by
    by_cases h : a = p
    · subst h; rw [upd_same] at e; cases e
    · rw [upd_ne h] at e; exact ⟨by rw [upd_ne h]; exact e, h⟩
  have hn : ∀ a, upd G.H0 p o a = none → upd G.H0 p o' a = none := fun a e => by
    by_cases h : a = p
    · subst h; rw [upd_same] at e; cases e
    · rw [upd_ne h] at e ⊢; exact e
  refine ⟨k.len, fun a u e => ?_, k.val, fun j l ds e => ?_, k.ro, k.sep, fun a u e => ?_, fun a e => ?_, k.grow, fun a u e => ?_, hr.trans (same_upd hP), k.dct.move (fun _ _ e => e) (fun _ _ _ e => ⟨e, rfl⟩) fun a es g1 g2 g3 g4 _ => ?_⟩
  · have ne : a ≠ p := fun z => by subst z; rw [hF] at e; cases e
    rw [upd_ne ne]; exact k.fr a u e
  · obtain ⟨a, vs, h1, h2, h3, h4, h5, h6, h7⟩ := k.own j l ds e
    obtain ⟨h8, h9⟩ := pn a h4
    exact ⟨a, vs, h1, by rw [upd_ne h9]; exact h2, h3, h8, h5, fun z => hn a (h6 z), h7⟩
  · have e : upd G.P p o' a = some u := e
    by_cases h : a = p
    · subst h; rw [upd_same] at e ⊢; exact e
    · rw [upd_ne h] at e ⊢
      exact k.pin a u (by show upd G.P p o a = some u; rw [upd_ne h]; exact e)
  · by_cases h : a = p
    · subst h; rw [upd_same] at e; cases e
    · rw [upd_ne h] at e; exact hn a (k.dom a e)
  · rcases k.new a u e with z | z
    · exact .inl z
    · exact .inr (hn a z)
  · obtain ⟨h8, h9⟩ := pn a g3
    exact ⟨by rw [upd_ne h9]; exact g1, g2, h8, hn a g4⟩
theorem lcGo_some {vs : List Nat} {g : Tf} {c : Bf} {f : Ef} {d : D} {ds : List D} {env env' : En} {zs : List D} (e : lcGo vs g c f (d :: ds) env = some (zs, env')) :
    ∃ env1 env2, g d env = some env1 ∧ ((∃ y env3 ws, c env1 = some (true, env2) ∧ f env2 = some (y, env3) ∧ lcGo vs g c f ds (wipeE env3 vs) = some (ws, env') ∧ zs = y :: ws) ∨ (c env1 = some (false, env2) ∧ lcGo vs g c f ds (wipeE env2 vs) = some (zs, env'))) := by
  unfold lcGo at e
  obtain ⟨env1, h1, e⟩ := Option.bind_eq_some_iff.mp e
  obtain ⟨⟨b, env2⟩, h2, e⟩ := Option.bind_eq_some_iff.mp e
  cases b with
  | true =>
    rw [if_pos rfl] at e
    obtain ⟨⟨y, env3⟩, h3, e⟩ := Option.bind_eq_some_iff.mp e
    obtain ⟨⟨ws, env4⟩, h4, e⟩ := Option.map_eq_some_iff.mp e
    cases e
    exact ⟨env1, env2, h1, .inl ⟨y, env3, ws, h2, h3, h4, rfl⟩⟩
  | false =>
    rw [if_neg Bool.false_ne_true] at e
    exact ⟨env1, env2, h1, .inr ⟨h2, e⟩⟩
theorem rn_comp {wi : TI} {gt : TG} {tt : TT} {te : TE} {src : Lf} {vs : List Nat} {g : Tf} {c : Bf} {f : Ef} {sl : List Nat} (hi : RI K wi src) (hg : RG K gt g sl) (ht : RB K tt c) (he : RE K te f) (hsl : ∀ i ∈ sl, i ∈ vs) :
    RN K (tLc wi gt tt te vs) (lComp src vs g c f) := fun G F env s H zs env' k e Q q => by
  unfold lComp at e
  obtain ⟨⟨ds, e1⟩, h1, e⟩ := Option.bind_eq_some_iff.mp e
  dsimp only at e
  split at e
  · rename_i hno
    rw [Bool.and_eq_true] at hno
    have hfit := fits_line hno.2
    obtain ⟨⟨ws, e2⟩, h2, e⟩ := Option.map_eq_some_iff.mp e
    cases e
    refine hi G F env s H ds e1 k h1 _ fun F1 H1 J k1 s1 w => ?_
    obtain ⟨Gp, Y, w1, w2, w3⟩ := w
    intro L hL
    have n1 : F1 L = none := k1.fr.free hL
    have n2 : G.P L = none := k1.pin.free hL
    have n3 : G.H0 L = none := k1.dom L hL
    have nown : ∀ (j : Nat) l es, e1[j]? = some (.own l es) → s[j]? ≠ some (some (.ref L)) := k1.notown hL
    have kw := ok_wipe vs k1
    have nw : ∀ (j : Nat) l es, (wipeE e1 vs)[j]? = some (.own l es) → (wipe s vs)[j]? ≠ some (some (.ref L)) := kw.notown hL
    have nF0 : G.F0 L = none := k1.grow.free n1
    -- the state at each turn
    refine lc_it w1 (fun i H' => ∃ F' env' accV accD rest, Ok K (G.pin L (.lst accV)) F' env' (wipe s vs) H' ∧ Same F1 F' ∧ Da F' accV accD ∧ accD.length ≤ i ∧ lcGo vs g c f (ds.drop i) env' = some (rest, e2) ∧ ws = accD ++ rest) ?_ ?_ ?_ ?_
    · refine ⟨F1, wipeE e1 vs, [], [], ws, ?_, Same.refl F1, .nil, Nat.zero_le _, h2, rfl⟩
      exact ok_pin (kw.laid hL) upd_same nw n2 n1 (kw.notdctN hL)
    · rintro i H' _ ⟨F', env', accV, accD, rest, k', s', _⟩
      exact w2 (G.pin L (.lst accV)) F' env' _ H' (Same.refl _) k' s'
    · rintro i x H' H'' hin ⟨F', env', accV, accD, rest, k', s', da, hlen, e', hw⟩ y
      obtain ⟨F2, k2, s2, hh, d, hd, pd⟩ := w3 i H' x H'' (G.pin L (.lst accV)) F' env' (wipe s vs) hin (Same.refl _) k' s' y
      have hdr : ds.drop i = d :: ds.drop (i + 1) := by
        obtain ⟨hl, hx⟩ := List.getElem?_eq_some_iff.mp hd
        rw [List.drop_eq_getElem_cons hl, hx]
      rw [hdr] at e'
      obtain ⟨env1, env2, g1, h3⟩ := lcGo_some e'
      refine hg _ F2 env' (wipe s vs) H'' x d env1 k2 pd g1 _ fun s3 k3 w3' => ?_
      have hwp : wipe s3 vs = wipe (wipe s vs) vs := w3' vs hsl
      have hww : wipe (wipe s vs) vs = wipe s vs := by
        refine List.ext_getElem? fun j => ?_
        rw [wipe_get, wipe_get, wipe_length]
        by_cases hj : j ∈ vs ∧ j < s.length
        · rw [if_pos hj, if_pos hj]
        · rw [if_neg hj, if_neg hj]
      refine ⟨by rw [hwp, hww], ?_⟩
      -- a turn's end
      have again : ∀ {F5 : Hp} {env5 : En} {H5 : Hp} {acc : List V}, Ok K (G.pin L (.lst acc)) F5 env5 s3 H5 → Ok K (G.pin L (.lst acc)) F5 (wipeE env5 vs) (wipe s vs) H5 := fun {F5 env5 H5 acc} k5 => by
        have := ok_wipe vs k5
        rw [hwp, hww] at this
        exact this
      rcases h3 with ⟨yv, env3, wr, hc, hf, hr, rfl⟩ | ⟨hc, hr⟩
      · refine ht _ F2 env1 s3 H'' true env2 k3 hc _ fun F3 H3 k4 s4 => ?_
        rw [if_pos rfl]
        refine he _ F3 env2 s3 H3 yv env3 k4 hf _ fun F4 H4 v k5 s5 p5 => ?_
        have ss : Same F1 F4 := ((s'.trans s2).trans s4).trans s5
        have ss' : Same F' F4 := (s2.trans s4).trans s5
        refine ⟨accV, pin_at k5, by rw [da.length]; omega, F4, wipeE env3 vs, accV ++ [v], accD ++ [yv], wr, again (ok_repin k5 n2 (pin_nofrz k5 nF0) k1.rin), ss, (Da.mono ss' _ _ da).append (.cons p5 .nil), by simp; omega, hr, by rw [hw]; simp⟩
      · refine ht _ F2 env1 s3 H'' false env2 k3 hc _ fun F3 H3 k4 s4 => ?_
        rw [if_neg Bool.false_ne_true]
        have ss : Same F1 F3 := (s'.trans s2).trans s4
        exact ⟨F3, wipeE env2 vs, accV, accD, rest, again k4, ss, Da.mono (s2.trans s4) _ _ da, by omega, hr, hw⟩
    · rintro H' ⟨F', env', accV, accD, rest, k', s', da, hlen, e', hw⟩
      rw [List.drop_length] at e'
      cases e'
      rw [List.append_nil] at hw
      subst hw
      have ku := ok_unpin k' n2 n3 k1.rin
      have f' := pin_nofrz k' nF0
      have hLL := pin_at k'
      have hle : e1.length = e2.length := by rw [← k1.len, ← ku.len, wipe_length]
      -- the slots of the comprehension's own names are as they were
      have kb : Ok K G F' (backE e1 e2 vs) s H' := by
        have key : ∀ {j : Nat} {x : Sl}, (backE e1 e2 vs)[j]? = some x → (j ∈ vs ∧ e1[j]? = some x) ∨ (j ∉ vs ∧ e2[j]? = some x ∧ s[j]? = (wipe s vs)[j]?) := fun {j x} e => by
          rw [backE_get e1 e2 hle] at e
          by_cases hj : j ∈ vs
          · rw [if_pos hj] at e; exact .inl ⟨hj, e⟩
          · rw [if_neg hj] at e
            refine .inr ⟨hj, e, ?_⟩
            rw [wipe_get, if_neg (fun z => hj z.1)]
        refine ⟨by rw [backE_length, ← hle]; exact k1.len, ku.fr, fun j d e => ?_, fun j l es e => ?_, fun j es e => ?_, fun j j' l es m fs e1' e2' e3' => ?_, ku.pin, ku.dom, ku.grow, ku.new, ku.rin, ku.dct.slots fun j w kvs e => ?_⟩
        · rcases key e with ⟨_, h⟩ | ⟨_, h, hs⟩
          · obtain ⟨v, q1, q2⟩ := k1.val j d h
            exact ⟨v, q1, Dt.mono s' _ _ q2⟩
          · rw [hs]; exact ku.val j d h
        · rcases key e with ⟨hj, h⟩ | ⟨_, h, hs⟩
          · exact absurd h (noOwn_get hno.1 hj l es)
          · rw [hs]; exact ku.own j l es h
        · rcases key e with ⟨_, h⟩ | ⟨_, h, hs⟩
          · obtain ⟨a, us, q1, q2, q3⟩ := k1.ro j es h
            exact ⟨a, us, q1, q2, Da.mono s' _ _ q3⟩
          · rw [hs]; exact ku.ro j es h
        · rcases key e1' with ⟨hj, h⟩ | ⟨_, h, hs⟩
          · exact absurd h (noOwn_get hno.1 hj l es)
          · rcases key e2' with ⟨hj2, h2⟩ | ⟨_, h2, hs2⟩
            · exact absurd h2 (noOwn_get hno.1 hj2 m fs)
            · rw [hs, hs2] at e3'
              exact ku.sep j j' _ _ _ _ h h2 e3'
        · rcases key e with ⟨hj, h⟩ | ⟨_, h, hs⟩
          · exact absurd h (noOwn_dct hno.1 hj w kvs)
          · exact ⟨h, hs⟩
      refine q F' H' L accV kb (s1.trans s') hLL f' n3 n2 (fun j l es e z => ?_) da
      obtain ⟨a, us, q1, q2, q3, q4, _⟩ := kb.own j l es e
      rw [z] at q1
      cases q1
      -- L is pinned in the frame of the block, so none of its own lists
      rw [backE_get e1 e2 hle] at e
      by_cases hj : j ∈ vs
      · rw [if_pos hj] at e
        exact noOwn_get hno.1 hj l es e
      · rw [if_neg hj] at e
        obtain ⟨b, us', g1, g2, g3, g4, _⟩ := k'.own j l es e
        rw [wipe_get, if_neg (fun w => hj w.1)] at g1
        rw [z] at g1
        cases g1
        have g4 : upd G.P L (.lst accV) L = none := g4
        rw [upd_same] at g4; cases g4
  · cases e
end
end M

namespace M
open PySem PySem.Spec PyProof.Rows L2

/-! ### the reading that hangs on the mirror alone -/
def cE (K : Frg) (f : Ef) : TE := fun s H Q => ∃ G F env d env', Ok K G F env s H ∧ f env = some (d, env') ∧ ∀ F' H' v, Ok K G F' env' s H' → Same F F' → Dt F' v d → Q v H'
def cB (K : Frg) (f : Bf) : TT := fun s H Q => ∃ G F env d env', Ok K G F env s H ∧ f env = some (d, env') ∧ ∀ F' H', Ok K G F' env' s H' → Same F F' → Q d H'
def cG (K : Frg) (g : Tf) (sl : List Nat) : TG := fun v s H Q => ∃ G F env d env', Ok K G F env s H ∧ Dt F v d ∧ g d env = some env' ∧ ∀ s', Ok K G F env' s' H → (∀ vs : List Nat, (∀ i ∈ sl, i ∈ vs) → wipe s' vs = wipe s vs) → Q s' H
structure XTs (X : Cx) (ifs : List Expr) (c : Bf) : Prop where
  ex : ∃ t, PTs X ifs t ∧ RB X.K t c
section
variable {X : Cx} {e tg : Expr} {f : Ef} {c : Bf} {g : Tf} {sl : List Nat} {K : Frg}
theorem XE.can (h : XE X e f) : PE X e (cE X.K f) := by
  obtain ⟨t, h1, h2⟩ := h.ex
  exact ⟨fun pins s σ H Q I ⟨G, F, env, d, env', k, e, q⟩ => h1.run pins s σ H Q I (h2 G F env σ H d env' k e Q q)⟩
theorem re_can : RE K (cE K f) f := fun G F env s H d env' k e Q q => ⟨G, F, env, d, env', k, e, q⟩
def bYes : Bf := fun env => some (true, env)
theorem xts_one (h : XB X e c) : XTs X [e] c := let ⟨_, h1, h2⟩ := h.ex; ⟨_, pts_one h1, h2⟩
theorem XTs.can {ifs : List Expr} (h : XTs X ifs c) : PTs X ifs (cB X.K c) := by
  obtain ⟨t, h1, h2⟩ := h.ex
  exact ⟨fun pins s σ H Q I ⟨G, F, env, d, env', k, e, q⟩ => h1.run pins s σ H Q I (h2 G F env σ H d env' k e Q q)⟩
theorem rb_can : RB K (cB K c) c := fun G F env s H d env' k e Q q => ⟨G, F, env, d, env', k, e, q⟩
theorem XG.can (h : XG X tg g sl) : PG X tg (cG X.K g sl) := by
  obtain ⟨t, h1, h2⟩ := h.ex
  exact ⟨fun pins s σ H v u Q I r ⟨G, F, env, d, env', k, p, e, q⟩ => h1.run pins s σ H v u Q I r (h2 G F env σ H v d env' k p e Q q)⟩
theorem rg_can : RG K (cG K g sl) g sl := fun G F env s H v d env' k p e Q q => ⟨G, F, env, d, env', k, p, e, q⟩

variable {elt iter : Expr} {ifs : List Expr} {scope : Scope} {own : List (Str × Nat)} {pos spos : Pos} {src : Lf}
/-- the context of a comprehension's block -/
abbrev Blk (X : Cx) (scope : Scope) (s : Shared) (H : Hp) (C : Addr) (cl : List (Str × Addr)) (fp : List Addr) : Cx := X.blk s H scope (compEnvC scope cl C X.env) fp
theorem xn_comp (hi : XI X tg iter src) (hN : X.N.Nodup) (ok : BlkOk X.N X.env.scope scope own) (hg : ∀ s H C cl fp, XG (Blk X scope s H C cl fp) tg g sl) (ht : ∀ s H C cl fp, XTs (Blk X scope s H C cl fp) ifs c) (he : ∀ s H C cl fp, XE (Blk X scope s H C cl fp) elt f)
    (hsl : ∀ i ∈ sl, i ∈ own.map (·.2) := by decide) (hc : X.calm = true := by rfl) (hs : ∀ x, foldedSetIterable iter X.env x = pure x := by intro _; rfl) : XN X (.ListComp elt [⟨tg, iter, ifs, 0⟩] scope pos) (lComp src (own.map (·.2)) g c f) := by
  obtain ⟨wi, p1, q1⟩ := hi.ex
  exact ⟨_, pe_lc hc hN p1 ok (fun s H C cl fp => (hg s H C cl fp).can) (fun s H C cl fp => (ht s H C cl fp).can) (fun s H C cl fp => (he s H C cl fp).can) hs, rn_comp q1 rg_can rb_can re_can hsl⟩
end

/-! ### a def -/
def fnRun (n np : Nat) (f : Sf) : Gf := fun args => if args.length = np then match f (args ++ List.replicate (n - np) .no) with
  | some (.nx env) => some (.none, env.take np)
  | some (.rt d env) => some (d, env.take np)
  | some (.rn ds env) => some (.list ds, env.take np)
  | some (.rp as ds env) => some (.tuple (as ++ [.list ds]), env.take np)
  | none => none
  else none
abbrev Hf := List Sl → Option (List D × List Sl)
def lCall (g : Hf) (fa : Af) : Lf := fun env => (fa env).bind fun r =>
  match rSlots r.1 with
  | [] => (resArs r.2 r.1).bind fun args => (g args).map fun q => (q.1, r.2)
  | [i] => if (oSlots r.1).contains i then none else (resArs r.2 r.1).bind fun args => (g args).bind fun q => (backAr r.2 r.1 q.2).map fun env' => (q.1, env')
  | _ => none
section
variable {X : Cx} {k : Nat} {fx : Addr} {fd : FuncData} {ps : List Str} {x : Str} {p pos : Pos} {e : Expr} {es : List Expr} {fa : Af} {g : Hf}
end
theorem start_get {N : List Str} {vs : List V} {i : Nat} {v : V} (h : vs[i]? = some v) : (L2.start N vs)[i]? = some (some v) := by
  have hi : i < vs.length := (List.getElem?_eq_some_iff.mp h).1
  unfold L2.start
  rw [List.getElem?_append_left (by simpa using hi), List.getElem?_map, h]
  rfl
theorem app_get {args : List Sl} {m : Nat} {i : Nat} {x : Sl} (h : (args ++ List.replicate m .no)[i]? = some x) (hx : x ≠ .no) : args[i]? = some x := by
  by_cases hi : i < args.length
  · rw [List.getElem?_append_left hi] at h; exact h
  · rw [List.getElem?_append_right (by omega), List.getElem?_replicate] at h
    split at h
    · cases h; exact absurd rfl hx
    · cases h
theorem ok_start {K : Frg} {F H : Hp} {args : List Sl} {vs : List V} {N ps : List Str} (hl : ps.length = args.length) (hN : ps.length ≤ N.length) (fr : Same F H) (a : ArgsOk K F H args vs) :
    Ok K ⟨F, H, minus H args vs, minus H args vs, L2.start N vs⟩ F (args ++ List.replicate (N.length - ps.length) .no) (L2.start N vs) H where
  len := by unfold L2.start; simp only [List.length_append, List.length_map, List.length_replicate]; have := a.len; omega
  fr := fr
  val := fun i d e => by
    obtain ⟨v, h1, h2⟩ := a.val i d (app_get e (by simp))
    exact ⟨v, start_get h1, h2⟩
  own := fun i l ds e => by
    have e' := app_get e (by simp)
    obtain ⟨rfl, p, us, h1, h2, h3, h4⟩ := a.own i l ds e'
    refine ⟨p, us, start_get h1, h2, h3, ?_, h4, fun z => (by cases z), fun _ => start_get h1⟩
    show minus H args vs p = none
    unfold minus
    exact if_pos ⟨i, _, _, e', h1⟩
  ro := fun i ds e => by
    obtain ⟨p, us, h1, h2, h3⟩ := a.ro i ds (app_get e (by simp))
    exact ⟨p, us, start_get h1, h2, h3⟩
  sep := fun i j l ds m es e1 e2 e3 => by
    have e1' := app_get e1 (by simp)
    have e2' := app_get e2 (by simp)
    obtain ⟨_, p, us, h1, _⟩ := a.own i l ds e1'
    obtain ⟨_, q, us', h2, _⟩ := a.own j m es e2'
    rw [start_get h1, start_get h2] at e3
    exact a.sep i j _ _ _ _ e1' e2' (by rw [h1, h2]; exact Option.some.inj e3)
  pin := fun x o e => (minus_of e).1
  dom := fun x e => e
  grow := Same.refl F
  new := fun x o e => .inl e
  rin := Same.refl _
  dct := ⟨fun i w kvs e => absurd (app_get e (by simp)) (a.dct i w kvs), fun i j w kvs w' kvs' e _ _ => absurd (app_get e (by simp)) (a.dct i w kvs)⟩
theorem post_of {K : Frg} {F F' H H' : Hp} {args : List Sl} {vs : List V} {N : List Str} {env : En} {s : L2.St} {v : V} {d : D} {np : Nat} (a : ArgsOk K F H args vs) (hl : np = args.length) (k : Ok K ⟨F, H, minus H args vs, minus H args vs, L2.start N vs⟩ F' env s H') (p : Dt F' v d) : Post F H F' H' args (env.take np) vs v d where
  keep := k.pin
  dom := k.dom
  grow := k.grow
  fr := k.fr
  new := k.new
  res := p
  own := fun i l ds e ds' e' q hq => by
    have e2 : env[i]? = some (.own false ds') := by
      rw [List.getElem?_take] at e'
      split at e'
      · exact e'
      · cases e'
    obtain ⟨b, us, h1, h2, h3, _, h4, _, h5⟩ := k.own i false ds' e2
    have h6 : (L2.start N vs)[i]? = some (some (.ref b)) := h5 rfl
    rw [start_get hq] at h6
    cases h6
    exact ⟨us, h2, h3, h4⟩
section
variable {P : Program} {w : World} {K : Frg} {mg : Str → Option Value} {base : Heap}
theorem fn_ok {x qual : Str} {st : Stmt} {f : Addr} {fd : FuncData} {N ps : List Str} {k : Nat} {fb : Sf} (F : Fun K x qual st f fd) (S : FnScope N ps (defScope st))
    (hbody : ∀ (cdv : Value) (A : Around) (outer : List Env) (s : Shared) (H : Hp) (E : XK), Room k (A.deeper (envOfC qual (defScope st) s.heap.objs.size f cdv)) →
      XSs (cxOf CX0 P w K mg base N qual (defScope st) f cdv A outer s H E).nox (defBody st) fb) : FnOk P w K mg base CX0 (k + 1) f fd ps (spF K (fnRun N.length ps.length fb)) := by
  refine F.ok S (fun vs H Q E h => ?_) (fun cdv A outer s H vs Q E hr h => ?_)
  · obtain ⟨Fz, args, d, args', hg, fr, a, _⟩ := h
    unfold fnRun at hg
    split at hg
    · rename_i hl
      rw [a.len, hl]
    · cases hg
  · obtain ⟨Fz, args, d, args', hg, fr, a, q⟩ := h
    obtain ⟨t, h1, h2⟩ := (hbody cdv A outer s H E hr).ex
    refine ⟨t, h1, ?_⟩
    have hpl : ps.length ≤ N.length := by have := congrArg List.length S.pre; rw [List.length_take] at this; omega
    unfold fnRun at hg
    split at hg
    · rename_i hl
      have k0 := ok_start hl.symm hpl fr a
      split at hg
      · rename_i env he
        cases hg
        refine h2 _ Fz _ _ H _ k0 he _ ?_
        exact fun F' s' H' k' s1 => q F' H' .non (post_of a hl.symm k' .non)
      · rename_i d' env he
        cases hg
        refine h2 _ Fz _ _ H _ k0 he _ ?_
        exact fun F' s' H' v k' s1 p => q F' H' v (post_of a hl.symm k' p)
      · rename_i ds env he
        cases hg
        refine h2 _ Fz _ _ H _ k0 he _ ?_
        intro F' s' H' p us k' s1 g1 g2 g3 g4 g5 g6
        exact q _ H' (.ref p) (post_of a hl.symm (k'.freeze g1 g2 g3 g5 (k'.notdctL g1)) (.lst upd_same (Da.mono (same_upd g2) _ _ g6)))
      · rename_i as ds env he
        cases hg
        refine h2 _ Fz _ _ H _ k0 he _ ?_
        intro F' s' H' t p ws us k' s1 n
        obtain ⟨F2, k2, s2, pd, _⟩ := n.frz k'
        exact q F2 H' (.ref t) (post_of a hl.symm k2 pd)
      · cases hg
    · cases hg
end
end M

namespace M
open PySem PySem.Spec PyProof.Rows L2
section
variable {X : Cx} {e a b : Expr} {f fa fb : Ef} {p pos : Pos} {K : Frg}

/-! ### built-ins of one argument -/
def gLen : D → Option D
  | .list ds => some (.int (ds.length : Int))
  | .tuple ds => some (.int (ds.length : Int))
  | .str x => if fits x.length then some (.int (x.length : Int)) else none
  | _ => none
def rLen (K : Frg) : List V → Hp → VK → Prop := fun xs H Q => ∃ x n, xs = [x] ∧ LenV K x H n ∧ Q (.int n) H
theorem gc_len : GC K (rLen K) gLen := by
  intro G F env s H x d z k h1 h3 Q q
  unfold gLen at h3
  split at h3
  · cases h3
    obtain ⟨p, vs, rfl, h4, h5⟩ := h1.list k.fr
    refine ⟨_, vs.length, rfl, .inl ⟨vs, h4, rfl⟩, ?_⟩
    rw [h5.length]
    exact q F H _ k (Same.refl F) (.int _)
  · cases h3
    obtain ⟨p, vs, rfl, h4, _, h5⟩ := h1.tup k.fr
    refine ⟨_, vs.length, rfl, .inr ⟨vs, SqT.of h4, rfl⟩, ?_⟩
    rw [h5.length]
    exact q F H _ k (Same.refl F) (.int _)
  · split at h3
    · rename_i hf
      cases h3
      cases h1.str
      exact ⟨_, _, rfl, ⟨fits_line hf, rfl⟩, q F H _ k (Same.refl F) (.int _)⟩
    · cases h3
  · cases h3
theorem xe_len (hm : X.mg "len" = none) (ha : XO X e f) (hg : Gl X "len" := by rfl) (he : starEach [e] X.env = (false, eval e X.env) :: starEach [] X.env := by rfl) (hpl : (backTo pos (starEach [] X.env)).any (·.1) = false := by rfl) : XE X (.Call (.Name "len" p) [e] [] pos) (eUn gLen f) :=
  xe_cbB call_len PySem.boot_len gc_len hm ha hg (by decide) (by decide) he hpl
def gAbs : D → Option D
  | .int i => some (.int (if i < 0 then -i else i))
  | _ => none
theorem gc_abs : GC K (fun xs H Q => ∃ i, xs = [.int i] ∧ Q (.int (if i < 0 then -i else i)) H) gAbs := by
  intro G F env s H x d z k h1 h3 Q q
  unfold gAbs at h3
  split at h3
  · cases h3; cases h1.int
    exact ⟨_, rfl, q F H _ k (Same.refl F) (.int _)⟩
  · cases h3
theorem xe_abs (hm : X.mg "abs" = none) (ha : XO X e f) (hg : Gl X "abs" := by rfl) (he : starEach [e] X.env = (false, eval e X.env) :: starEach [] X.env := by rfl) (hpl : (backTo pos (starEach [] X.env)).any (·.1) = false := by rfl) : XE X (.Call (.Name "abs" p) [e] [] pos) (eUn gAbs f) :=
  xe_cbB call_abs boot_abs gc_abs hm ha hg (by decide) (by decide) he hpl
def gInt : D → Option D
  | .int i => some (.int i)
  | .bool k => some (.int (if k then 1 else 0))
  | _ => none
def gStr : D → Option D
  | .int i => if decide (i.natAbs < 10 ^ 200) then some (.str (toString i)) else none
  | _ => none
theorem gc_str : GC K (fun xs H Q => ∃ i, xs = [.int i] ∧ i.natAbs.log2 < 1920 ∧ Q (.str (toString i)) H) gStr := by
  intro G F env s H x d z k h1 h3 Q q
  unfold gStr at h3
  split at h3
  · split at h3
    · rename_i hf
      cases h3; cases h1.int
      have h8 : (10 ^ 200 : Nat) ≤ 2 ^ 700 := by decide +kernel
      have h9 := PySem.Flt.log2_lt_of (by decide) (Nat.lt_of_lt_of_le (of_decide_eq_true hf) h8)
      exact ⟨_, rfl, by omega, q F H _ k (Same.refl F) (.str _)⟩
    · cases h3
  · cases h3
theorem xe_str1 (hm : X.mg "str" = none) (ha : XO X e f) (hg : Gl X "str" := by rfl) (he : starEach [e] X.env = (false, eval e X.env) :: starEach [] X.env := by rfl) (hpl : (backTo pos (starEach [] X.env)).any (·.1) = false := by rfl) : XE X (.Call (.Name "str" p) [e] [] pos) (eUn gStr f) :=
  xe_cbT call_str_int boot_str gc_str hm ha hg (by decide) (by decide) he hpl
def gList : D → Option (List D)
  | .list ds => some ds
  | .tuple ds => some ds
  | _ => none
def gTuple : D → Option D
  | .list ds => some (.tuple ds)
  | .tuple ds => some (.tuple ds)
  | _ => none
/-! whole numbers, truths in a list -/
def blsOf : List D → Option (List Bool)
  | [] => some []
  | .bool i :: ds => (blsOf ds).map fun r => i :: r
  | _ :: _ => none
def gAll : D → Option D
  | .list ds => (blsOf ds).map fun ns => .bool (ns.all id)
  | _ => none
def gAny : D → Option D
  | .list ds => (blsOf ds).map fun ns => .bool (ns.any id)
  | _ => none
/-! of two -/
def gMax2 : D → D → Option D
  | .int i, .int j => some (.int (if j > i then j else i))
  | _, _ => none
def gMin2 : D → D → Option D
  | .int i, .int j => some (.int (if j < i then j else i))
  | _, _ => none
/-! isinstance -/
inductive Ty where
  | int | bool | str | lst | tup
def Ty.nm : Ty → String
  | .int => "int" | .bool => "bool" | .str => "str" | .lst => "list" | .tup => "tuple"
def isi : Ty → D → Option Bool
  | _, .dict _ => none
  | .int, .int _ => some true
  | .int, .bool _ => some true
  | .int, _ => some false
  | .bool, .bool _ => some true
  | .bool, _ => some false
  | .str, .str _ => some true
  | .str, _ => some false
  | .lst, .list _ => some true
  | .lst, _ => some false
  | .tup, .tuple _ => some true
  | .tup, _ => some false
def tyD : D → String
  | .none => "NoneType" | .bool _ => "bool" | .int _ => "int" | .str _ => "str" | .list _ => "list" | .tuple _ => "tuple" | .dict _ => "dict"
def gIsi (T : Ty) (d : D) : Option D := (isi T d).map .bool
/-! ### in, not in -/
def flatD : D → Bool
  | .none => true
  | .bool _ => true
  | .int _ => true
  | .str _ => true
  | _ => false
end
/-! ### is None -/
def isNone : D → Bool
  | .none => true
  | _ => false
def gIsN : D → D → Option D
  | d, .none => some (.bool (isNone d))
  | _, _ => none
def gNtN : D → D → Option D
  | d, .none => some (.bool (!isNone d))
  | _, _ => none
end M

namespace M
open PySem PySem.Spec PyProof.Rows L2
theorem da_irs {F : Hp} : ∀ ns : List Int, Da F (ns.map V.int) (ns.map .int)
  | [] => .nil
  | n :: ns => .cons (.int n) (da_irs ns)
theorem law_sp {K : Frg} {H : Hp} {a : Addr} {ns : List Int} {g : Gf} (hS : SqL K H a (ns.map V.int)) (h : ∃ args', g [.ro (ns.map .int)] = some (.bool true, args')) :
    spF K g [.ref a] H (fun v _ => v = .bl true) fun _ _ _ => False := by
  obtain ⟨args', h⟩ := h
  have hm : minus H [.ro (ns.map .int)] [.ref a] = H := by
    funext b
    unfold minus
    rw [if_neg]
    rintro ⟨j, l, es, h1, _⟩
    cases j with
    | zero => cases h1
    | succ j => simp at h1
  refine ⟨fun _ => none, _, _, args', h, fun b o e => (by cases e), ⟨rfl, fun i d e => ?_, fun i l ds e => ?_, fun i ds e => ?_, fun i j l ds m es e1 e2 e3 => ?_, fun i w kvs e => ?_⟩, fun F' H' v po => ?_⟩
  · cases i with
    | zero => cases e
    | succ j => simp at e
  · cases i with
    | zero => cases e
    | succ j => simp at e
  · cases i with
    | zero =>
      cases e
      exact ⟨a, _, rfl, by rw [hm]; exact hS, da_irs ns⟩
    | succ j => simp at e
  · cases i with
    | zero => cases e1
    | succ j => simp at e1
  · cases i with
    | zero => cases e
    | succ j => simp at e
  · have := po.res
    cases this
    rfl
theorem fn_okE {P : Program} {w : World} {K : Frg} {mg : Str → Option Value} {base : Heap} {x qual : Str} {st : Stmt} {f : Addr} {fd : FuncData} {N ps : List Str} {k : Nat} {g : Gf} (fb : Sf) (n np : Nat) (F : Fun K x qual st f fd) (S : FnScope N ps (defScope st))
    (hn : N.length = n) (hp : ps.length = np) (hg : g = fnRun n np fb)
    (hbody : ∀ (cdv : Value) (A : Around) (outer : List Env) (s : Shared) (H : Hp) (E : XK), Room k (A.deeper (envOfC qual (defScope st) s.heap.objs.size f cdv)) →
      XSs (cxOf CX0 P w K mg base N qual (defScope st) f cdv A outer s H E).nox (defBody st) fb) : FnOk P w K mg base CX0 (k + 1) f fd ps (spF K g) := by
  subst hn hp hg
  exact fn_ok F S hbody
end M

/-! the least that must hold ahead: rules to reason about the mirrors, no program in sight -/
namespace M
open PySem PySem.Spec PyProof.Rows L2
def WO {α : Type} (o : Option α) (Q : α → Prop) : Prop := ∃ x, o = some x ∧ Q x
def WE (f : Ef) (env : En) (Q : D → En → Prop) : Prop := ∃ d e, f env = some (d, e) ∧ Q d e
def WL (f : Lf) (env : En) (Q : List D → En → Prop) : Prop := ∃ d e, f env = some (d, e) ∧ Q d e
def WB (f : Bf) (env : En) (Q : Bool → En → Prop) : Prop := ∃ d e, f env = some (d, e) ∧ Q d e
def WA (f : Af) (env : En) (Q : List Ar → En → Prop) : Prop := ∃ d e, f env = some (d, e) ∧ Q d e
def WP (f : Pf) (env : En) (Q : Option Int → En → Prop) : Prop := ∃ d e, f env = some (d, e) ∧ Q d e
def WT (g : Tf) (d : D) (env : En) (Q : En → Prop) : Prop := ∃ e, g d env = some e ∧ Q e
def WTs (g : List D → En → Option En) (d : List D) (env : En) (Q : En → Prop) : Prop := ∃ e, g d env = some e ∧ Q e
def WG (g : Gf) (args : List Sl) (Q : D → List Sl → Prop) : Prop := ∃ d e, g args = some (d, e) ∧ Q d e
def WH (g : Hf) (args : List Sl) (Q : List D → List Sl → Prop) : Prop := ∃ d e, g args = some (d, e) ∧ Q d e
/-- what a statement leaves -/
structure Po where
  n : En → Prop
  r : D → En → Prop
  l : List D → En → Prop
def Po.at (Q : Po) : Out → Prop
  | .nx e => Q.n e
  | .rt d e => Q.r d e
  | .rn ds e => Q.l ds e
  | .rp as ds e => Q.r (.tuple (as ++ [.list ds])) e
def WS (f : Sf) (env : En) (Q : Po) : Prop := ∃ o, f env = some o ∧ Q.at o
/-- slots to be worked out first -/
def Nrm (e : En) (Q : En → Prop) : Prop := Q e
def IfB (b : Bool) (A B : Prop) : Prop := if b then A else B
def IsB (d : D) (Q : Bool → Prop) : Prop := match d with
  | .bool b => Q b
  | _ => False
def IsL (d : D) (Q : List D → Prop) : Prop := match d with
  | .list b => Q b
  | _ => False
def IsS (d : D) (Q : List D → Prop) : Prop := match d with
  | .list b => Q b
  | .tuple b => Q b
  | _ => False
def Fit (n : Nat) (Q : Prop) : Prop := fits n = true ∧ Q
def Sml (n : Int) (Q : Prop) : Prop := smallI n = true ∧ Q
def Own (s : Option Sl) (Q : Bool → List D → Prop) : Prop := ∃ b ds, s = some (.own b ds) ∧ Q b ds
def Any (s : Option Sl) (Q : List D → Prop) : Prop := ∃ b ds, (s = some (.own b ds) ∨ s = some (.ro ds)) ∧ Q ds
def CallG (g : Gf) (as : List Ar) (e : En) (Q : D → En → Prop) : Prop :=
  (rSlots as = [] ∧ WO (resArs e as) fun args => WG g args fun d _ => Q d e) ∨ (∃ i, rSlots as = [i] ∧ (oSlots as).contains i = false ∧ WO (resArs e as) fun args => WG g args fun d a' => WO (backAr e as a') fun e' => Q d e')
def CallH (g : Hf) (as : List Ar) (e : En) (Q : List D → En → Prop) : Prop :=
  (rSlots as = [] ∧ WO (resArs e as) fun args => WH g args fun d _ => Q d e) ∨ (∃ i, rSlots as = [i] ∧ (oSlots as).contains i = false ∧ WO (resArs e as) fun args => WH g args fun d a' => WO (backAr e as a') fun e' => Q d e')
def Two (ds : List D) (Q : D → D → Prop) : Prop := match ds with
  | [x, y] => Q x y
  | _ => False
def WC (vs : List Nat) (g : Tf) (c : Bf) (f : Ef) (ds : List D) (env : En) (Q : List D → En → Prop) : Prop := ∃ xs e, lcGo vs g c f ds env = some (xs, e) ∧ Q xs e
def IsI (d : D) (Q : Int → Prop) : Prop := match d with
  | .int b => Q b
  | _ => False
section
variable {env : En} {d e : D} {f fa fb fc : Ef} {p q c : Bf} {l : Lf} {i j : Nat} {g : D → D → Option D}
theorem ifb_dec {P : Prop} [Decidable P] {A B : Prop} (h1 : P → A) (h2 : ¬ P → B) : IfB (decide P) A B := by
  unfold IfB
  by_cases h : P
  · simp [h, h1 h]
  · simp [h, h2 h]
theorem ifb_decT {P : Prop} [Decidable P] {A B : Prop} (h : P) (a : A) : IfB (decide P) A B := ifb_dec (fun _ => a) fun n => absurd h n
theorem ifb_decF {P : Prop} [Decidable P] {A B : Prop} (h : ¬ P) (b : B) : IfB (decide P) A B := ifb_dec (fun p => absurd p h) fun _ => b
theorem ifb_not {b : Bool} {A B : Prop} (h : IfB b B A) : IfB (!b) A B := by cases b <;> exact h
theorem ifb_t {A B : Prop} (h : A) : IfB true A B := h
theorem ifb_f {A B : Prop} (h : B) : IfB false A B := h
theorem ifb_eT {b : Bool} {A B : Prop} (h : b = true) (a : A) : IfB b A B := by subst h; exact a
theorem ifb_eF {b : Bool} {A B : Prop} (h : b = false) (a : B) : IfB b A B := by subst h; exact a
theorem isb {b : Bool} {Q : Bool → Prop} (h : Q b) : IsB (.bool b) Q := h
theorem isi_ {b : Int} {Q : Int → Prop} (h : Q b) : IsI (.int b) Q := h

theorem isl {b : List D} {Q : List D → Prop} (h : Q b) : IsL (.list b) Q := h
theorem iss_l {b : List D} {Q : List D → Prop} (h : Q b) : IsS (.list b) Q := h
theorem iss_t {b : List D} {Q : List D → Prop} (h : Q b) : IsS (.tuple b) Q := h
theorem nrm_ {e e' : En} {Q : En → Prop} (h : e = e') (q : Q e') : Nrm e Q := by subst h; exact q
theorem two_ {x y : D} {Q : D → D → Prop} (h : Q x y) : Two [x, y] Q := h
theorem fit_ {n : Nat} {Q : Prop} (h : fits n = true) (q : Q) : Fit n Q := ⟨h, q⟩
theorem sml_ {n : Int} {Q : Prop} (h1 : -1000000000 ≤ n) (h2 : n ≤ 1000000000) (q : Q) : Sml n Q := ⟨by unfold smallI; rw [decide_eq_true h1, decide_eq_true h2]; rfl, q⟩
theorem own_ {s : Option Sl} {b : Bool} {ds : List D} {Q : Bool → List D → Prop} (h : s = some (.own b ds)) (q : Q b ds) : Own s Q := ⟨b, ds, h, q⟩
theorem any_o {s : Option Sl} {b : Bool} {ds : List D} {Q : List D → Prop} (h : s = some (.own b ds)) (q : Q ds) : Any s Q := ⟨b, ds, .inl h, q⟩
theorem any_r {s : Option Sl} {ds : List D} {Q : List D → Prop} (h : s = some (.ro ds)) (q : Q ds) : Any s Q := ⟨true, ds, .inr h, q⟩
theorem WO.mono {α : Type} {o : Option α} {Q Q' : α → Prop} (h : WO o Q) (m : ∀ x, Q x → Q' x) : WO o Q' := let ⟨x, e, q⟩ := h; ⟨x, e, m x q⟩
theorem WE.mono {Q Q' : D → En → Prop} (h : WE f env Q) (m : ∀ x e, Q x e → Q' x e) : WE f env Q' := let ⟨x, y, e, q⟩ := h; ⟨x, y, e, m x y q⟩
theorem WB.mono {Q Q' : Bool → En → Prop} (h : WB p env Q) (m : ∀ x e, Q x e → Q' x e) : WB p env Q' := let ⟨x, y, e, q⟩ := h; ⟨x, y, e, m x y q⟩
theorem WL.mono {Q Q' : List D → En → Prop} (h : WL l env Q) (m : ∀ x e, Q x e → Q' x e) : WL l env Q' := let ⟨x, y, e, q⟩ := h; ⟨x, y, e, m x y q⟩
theorem WG.mono {g : Gf} {as : List Sl} {Q Q' : D → List Sl → Prop} (h : WG g as Q) (m : ∀ x e, Q x e → Q' x e) : WG g as Q' := let ⟨x, y, e, q⟩ := h; ⟨x, y, e, m x y q⟩
theorem WH.mono {g : Hf} {as : List Sl} {Q Q' : List D → List Sl → Prop} (h : WH g as Q) (m : ∀ x e, Q x e → Q' x e) : WH g as Q' := let ⟨x, y, e, q⟩ := h; ⟨x, y, e, m x y q⟩
theorem WS.mono {f : Sf} {Q Q' : Po} (h : WS f env Q) (m1 : ∀ e, Q.n e → Q'.n e) (m2 : ∀ d e, Q.r d e → Q'.r d e) (m3 : ∀ d e, Q.l d e → Q'.l d e) : WS f env Q' := by
  obtain ⟨o, e, q⟩ := h
  refine ⟨o, e, ?_⟩
  cases o with
  | nx e => exact m1 _ q
  | rt d e => exact m2 _ _ q
  | rn d e => exact m3 _ _ q
  | rp as ds e => exact m2 _ _ q
/-! expressions -/
theorem we_v {Q : D → En → Prop} (h : env[i]? = some (.val d)) (q : Q d env) : WE (eV i) env Q := ⟨d, env, by unfold eV; rw [h], q⟩
theorem we_oV {Q : D → En → Prop} (h : env[i]? = some (.val d)) (q : Q d env) : WE (eO i) env Q := ⟨d, env, by unfold eO; rw [h], q⟩
theorem we_oW {Q : D → En → Prop} {b : Bool} {ds : List D} (h : env[i]? = some (.own b ds)) (q : Q (.list ds) env) : WE (eO i) env Q := ⟨_, env, by unfold eO; rw [h], q⟩
theorem we_oR {Q : D → En → Prop} {ds : List D} (h : env[i]? = some (.ro ds)) (q : Q (.list ds) env) : WE (eO i) env Q := ⟨_, env, by unfold eO; rw [h], q⟩
theorem we_c {Q : D → En → Prop} (q : Q d env) : WE (eC d) env Q := ⟨_, _, rfl, q⟩
theorem we_un {g : D → Option D} {Q : D → En → Prop} (h : WE fa env fun x e => WO (g x) fun z => Q z e) : WE (eUn g fa) env Q := by
  obtain ⟨x, e, h1, z, h2, q⟩ := h
  exact ⟨z, e, by unfold eUn; rw [h1]; simp [h2], q⟩
theorem we_bin {Q : D → En → Prop} (h : WE fa env fun x e => WE fb e fun y e' => WO (g x y) fun z => Q z e') : WE (eBin g fa fb) env Q := by
  obtain ⟨x, e, h1, y, e', h2, z, h3, q⟩ := h
  exact ⟨z, e', by unfold eBin; simp [h1, h2, h3], q⟩
theorem we_bV {Q : D → En → Prop} {ds : List D} {b : Bool} (h0 : env[i]? = some (.own b ds)) (h : WE fb env fun y e' => WE (eO i) e' fun x _ => WO (g x y) fun z => Q z e') : WE (eBinV g i fb) env Q := by
  obtain ⟨y, e', h2, x, e2, h1, z, h3, q⟩ := h
  exact ⟨z, e', by unfold eBinV; rw [show eO i env = _ from by unfold eO; rw [h0]]; simp only [Option.bind_some, h2, h1, h3, Option.map_some], q⟩
theorem we_bVr {Q : D → En → Prop} {ds : List D} (h0 : env[i]? = some (.ro ds)) (h : WE fb env fun y e' => WE (eO i) e' fun x _ => WO (g x y) fun z => Q z e') : WE (eBinV g i fb) env Q := by
  obtain ⟨y, e', h2, x, e2, h1, z, h3, q⟩ := h
  exact ⟨z, e', by unfold eBinV; rw [show eO i env = _ from by unfold eO; rw [h0]]; simp only [Option.bind_some, h2, h1, h3, Option.map_some], q⟩
theorem we_bVv {Q : D → En → Prop} (h0 : env[i]? = some (.val d)) (h : WE fb env fun y e' => WE (eO i) e' fun x _ => WO (g x y) fun z => Q z e') : WE (eBinV g i fb) env Q := by
  obtain ⟨y, e', h2, x, e2, h1, z, h3, q⟩ := h
  exact ⟨z, e', by unfold eBinV; rw [show eO i env = _ from by unfold eO; rw [h0]]; simp only [Option.bind_some, h2, h1, h3, Option.map_some], q⟩
theorem we_chain {g g' : D → D → Option D} {Q : D → En → Prop} (h : WE fa env fun x e => WE fb e fun y e' => WO (g x y) fun z => IsB z fun b => IfB b (WE fc e' fun w e2 => WO (g' y w) fun z => Q z e2) (Q (.bool false) e')) : WE (eChain g g' fa fb fc) env Q := by
  obtain ⟨x, e, h1, y, e', h2, z, h3, h⟩ := h
  cases z with
  | bool b =>
    cases b with
    | true =>
      obtain ⟨w, e2, h4, z, h5, q⟩ : WE fc e' fun w e2 => WO (g' y w) fun z => Q z e2 := h
      exact ⟨z, e2, by unfold eChain; simp [h1, h2, h3, h4, h5], q⟩
    | false => exact ⟨_, e', by unfold eChain; simp [h1, h2, h3]; (try rfl), h⟩
  | _ => cases h
theorem we_and {Q : D → En → Prop} (h : WE fa env fun x e => IsB x fun b => IfB b (WE fb e Q) (Q (.bool false) e)) : WE (eAnd fa fb) env Q := by
  obtain ⟨x, e, h1, h⟩ := h
  cases x with
  | bool b =>
    cases b with
    | true =>
      obtain ⟨w, e2, h4, q⟩ : WE fb e Q := h
      exact ⟨w, e2, by unfold eAnd; simp [h1, h4], q⟩
    | false => exact ⟨_, e, by unfold eAnd; simp [h1]; (try rfl), h⟩
  | _ => cases h
theorem we_or {Q : D → En → Prop} (h : WE fa env fun x e => IsB x fun b => IfB b (Q (.bool true) e) (WE fb e Q)) : WE (eOr fa fb) env Q := by
  obtain ⟨x, e, h1, h⟩ := h
  cases x with
  | bool b =>
    cases b with
    | false =>
      obtain ⟨w, e2, h4, q⟩ : WE fb e Q := h
      exact ⟨w, e2, by unfold eOr; simp [h1, h4], q⟩
    | true => exact ⟨_, e, by unfold eOr; simp [h1]; (try rfl), h⟩
  | _ => cases h
theorem we_not {Q : D → En → Prop} (h : WE fa env fun x e => IsB x fun b => Q (.bool !b) e) : WE (eNot fa) env Q := by
  obtain ⟨x, e, h1, h⟩ := h
  cases x with
  | bool b => exact ⟨_, e, by unfold eNot; simp [h1]; (try rfl), h⟩
  | _ => cases h
theorem we_if {Q : D → En → Prop} (h : WB p env fun b e => IfB b (WE fa e Q) (WE fb e Q)) : WE (eIf p fa fb) env Q := by
  obtain ⟨b, e, h1, h⟩ := h
  cases b with
  | true => obtain ⟨w, e2, h2, q⟩ : WE fa e Q := h; exact ⟨w, e2, by unfold eIf; simp [h1, h2], q⟩
  | false => obtain ⟨w, e2, h2, q⟩ : WE fb e Q := h; exact ⟨w, e2, by unfold eIf; simp [h1, h2], q⟩
theorem we_fz {Q : D → En → Prop} (h : WL l env fun ds e => Q (.list ds) e) : WE (eFz l) env Q := by
  obtain ⟨x, e, h1, h⟩ := h
  exact ⟨_, e, by unfold eFz; rw [h1]; (try rfl), h⟩
theorem we_tup {Q : D → En → Prop} (h : WL l env fun ds e => Fit ds.length (Q (.tuple ds) e)) : WE (eTup l) env Q := by
  obtain ⟨x, e, h1, h2, h⟩ := h
  exact ⟨_, e, by unfold eTup; simp [h1, h2]; (try rfl), h⟩
def cutOf (x : D) (a b : Option Int) : Option D := match x with
  | .list ds => some (.list (cutD ds a b))
  | .tuple ds => some (.tuple (cutD ds a b))
  | _ => none
theorem wo_cutL {ds : List D} {a b : Option Int} {Q : D → Prop} (q : Q (.list (cutD ds a b))) : WO (cutOf (.list ds) a b) Q := ⟨_, rfl, q⟩
theorem wo_cutT {ds : List D} {a b : Option Int} {Q : D → Prop} (q : Q (.tuple (cutD ds a b))) : WO (cutOf (.tuple ds) a b) Q := ⟨_, rfl, q⟩
theorem we_sl {lo hi : Pf} {Q : D → En → Prop} (h : WE fa env fun x e => WP lo e fun a e1 => WP hi e1 fun b e2 => WO (cutOf x a b) fun z => Q z e2) : WE (eSl fa lo hi) env Q := by
  obtain ⟨x, e, h1, a, e1, h2, b, e2, h3, z, h4, h⟩ := h
  unfold cutOf at h4
  split at h4 <;> cases h4
  · exact ⟨_, e2, by unfold eSl; simp [h1, h2, h3]; (try rfl), h⟩
  · exact ⟨_, e2, by unfold eSl; simp [h1, h2, h3]; (try rfl), h⟩
theorem wp_no {Q : Option Int → En → Prop} (q : Q none env) : WP pNo env Q := ⟨_, _, rfl, q⟩
theorem wp_e {Q : Option Int → En → Prop} (h : WE f env fun x e => IsI x fun n => Q (some n) e) : WP (pE f) env Q := by
  obtain ⟨x, e, h1, h⟩ := h
  cases x with
  | int n => exact ⟨_, e, by unfold pE; rw [h1]; (try rfl), h⟩
  | _ => cases h

/-! lists -/
theorem wl_nil {Q : List D → En → Prop} (q : Q [] env) : WL lNil env Q := ⟨_, _, rfl, q⟩
theorem wl_cons {Q : List D → En → Prop} (h : WE f env fun x e => WL l e fun xs e' => Q (x :: xs) e') : WL (lCons f l) env Q := by
  obtain ⟨x, e, h1, xs, e', h2, q⟩ := h
  exact ⟨_, e', by unfold lCons; simp [h1, h2]; (try rfl), q⟩
theorem wl_lst {Q : List D → En → Prop} (h : WL l env fun ds e => Fit ds.length (Q ds e)) : WL (lLst l) env Q := by
  obtain ⟨x, e, h1, h2, q⟩ := h
  exact ⟨_, e, by unfold lLst; simp [h1, h2]; (try rfl), q⟩
theorem wl_un {g : D → Option (List D)} {Q : List D → En → Prop} (h : WE fa env fun x e => WO (g x) fun z => Q z e) : WL (lUn g fa) env Q := by
  obtain ⟨x, e, h1, z, h2, q⟩ := h
  exact ⟨z, e, by unfold lUn; rw [h1]; simp [h2], q⟩
theorem wl_slV {lo hi : Pf} {Q : List D → En → Prop} {b : Bool} {ds0 : List D} (h0 : env[i]? = some (.own b ds0) ∨ env[i]? = some (.ro ds0)) (h : WP lo env fun a e1 => WP hi e1 fun b e2 => Any e2[i]? fun ds => Q (cutD ds a b) e2) : WL (lSlV i lo hi) env Q := by
  obtain ⟨a, e1, h2, b, e2, h3, c, ds, h4, q⟩ := h
  refine ⟨_, e2, ?_, q⟩
  unfold lSlV
  rcases h0 with h0 | h0 <;> rcases h4 with h4 | h4 <;> · simp [eO, h0, h2, h3]; simp [h4]
theorem wl_slO {lo hi : Pf} {Q : List D → En → Prop} {b : Bool} {ds0 : List D} (h0 : env[i]? = some (.own b ds0)) (h : WP lo env fun a e1 => WP hi e1 fun b e2 => Any e2[i]? fun ds => Q (cutD ds a b) e2) : WL (lSlV i lo hi) env Q := wl_slV (.inl h0) h
theorem wl_slR {lo hi : Pf} {Q : List D → En → Prop} {ds0 : List D} (h0 : env[i]? = some (.ro ds0)) (h : WP lo env fun a e1 => WP hi e1 fun b e2 => Any e2[i]? fun ds => Q (cutD ds a b) e2) : WL (lSlV i lo hi) env Q := wl_slV (b := true) (.inr h0) h
theorem wl_it {Q : List D → En → Prop} (h : WE f env fun x e => IsS x fun ds => Q ds e) : WL (lIt f) env Q := by
  obtain ⟨x, e, h1, h⟩ := h
  cases x with
  | list ds => exact ⟨_, e, by unfold lIt; rw [h1]; rfl, h⟩
  | tuple ds => exact ⟨_, e, by unfold lIt; rw [h1]; rfl, h⟩
  | _ => cases h
theorem wl_rng1 {Q : List D → En → Prop} (h : WE f env fun x e => IsI x fun n => Sml n (Q (irange 0 n.toNat) e)) : WL (lRng1 f) env Q := by
  obtain ⟨x, e, h1, h⟩ := h
  cases x with
  | int n => exact ⟨_, e, by unfold lRng1; rw [h1]; show (if _ then _ else _) = _; rw [if_pos h.1], h.2⟩
  | _ => cases h
theorem wl_rng2 {f' : Ef} {Q : List D → En → Prop} (h : WE f env fun x e => WE f' e fun y e' => IsI x fun m => IsI y fun n => Sml m (Sml n (Q (irange m (n - m).toNat) e'))) : WL (lRng2 f f') env Q := by
  obtain ⟨x, e, h1, y, e', h2, h⟩ := h
  cases x with
  | int m => cases y with
    | int n => exact ⟨_, e', by unfold lRng2; simp [h1, h2, h.1, h.2.1]; (try rfl), h.2.2⟩
    | _ => cases h
  | _ => cases h
theorem wl_enum {Q : List D → En → Prop} (h : WE f env fun x e => IsL x fun ds => Q (pairs (irange 0 ds.length) ds) e) : WL (lEnum f) env Q := by
  obtain ⟨x, e, h1, h⟩ := h
  cases x with
  | list ds => exact ⟨_, e, by unfold lEnum; rw [h1]; rfl, h⟩
  | _ => cases h
theorem wc_nil {vs : List Nat} {g : Tf} {c : Bf} {f : Ef} {Q : List D → En → Prop} (q : Q [] env) : WC vs g c f [] env Q := ⟨[], env, rfl, q⟩
theorem wc_cons {vs : List Nat} {g : Tf} {c : Bf} {f : Ef} {ds : List D} {Q : List D → En → Prop} (h : WT g d env fun e1 => WB c e1 fun b e2 => IfB b (WE f e2 fun x e3 => Nrm (wipeE e3 vs) fun e4 => WC vs g c f ds e4 fun xs e => Q (x :: xs) e) (Nrm (wipeE e2 vs) fun e4 => WC vs g c f ds e4 Q)) : WC vs g c f (d :: ds) env Q := by
  obtain ⟨e1, h1, b, e2, h2, h3⟩ := h
  cases b with
  | true =>
    obtain ⟨x, e3, h4, xs, e, h5, q⟩ : WE f e2 fun x e3 => WC vs g c f ds (wipeE e3 vs) fun xs e => Q (x :: xs) e := h3
    exact ⟨x :: xs, e, by unfold lcGo; simp [h1, h2, h4, h5], q⟩
  | false =>
    obtain ⟨xs, e, h5, q⟩ : WC vs g c f ds (wipeE e2 vs) Q := h3
    exact ⟨xs, e, by unfold lcGo; simp [h1, h2, h5], q⟩
/-- a comprehension over a list that is known, item by item -/
theorem wl_compU {vs : List Nat} {g : Tf} {c : Bf} {f : Ef} {Q : List D → En → Prop} (ds : List D)
    (h : WL l env fun ds' e => ds' = ds ∧ noOwn e vs = true ∧ fits ds.length = true ∧ Nrm (wipeE e vs) fun e4 => WC vs g c f ds e4 fun xs e' => Nrm (backE e e' vs) (Q xs)) : WL (lComp l vs g c f) env Q := by
  obtain ⟨_, e, h1, rfl, h2, h3, xs, e', h4, q⟩ := h
  exact ⟨xs, _, by unfold lComp; simp [h1, h2, h3, h4], q⟩
/-! tests -/
theorem wb_v {Q : Bool → En → Prop} (h : WE f env fun x e => IsB x fun b => Q b e) : WB (bV f) env Q := by
  obtain ⟨x, e, h1, h⟩ := h
  cases x with
  | bool b => exact ⟨_, e, by unfold bV; rw [h1]; (try rfl), h⟩
  | _ => cases h
theorem wb_and {Q : Bool → En → Prop} (h : WB p env fun b e => IfB b (WB q e Q) (Q false e)) : WB (bAnd p q) env Q := by
  obtain ⟨b, e, h1, h⟩ := h
  cases b with
  | true => obtain ⟨b, e', h2, q⟩ : WB q e Q := h; exact ⟨b, e', by unfold bAnd; simp [h1, h2], q⟩
  | false => exact ⟨_, e, by unfold bAnd; simp [h1]; (try rfl), h⟩
theorem wb_or {Q : Bool → En → Prop} (h : WB p env fun b e => IfB b (Q true e) (WB q e Q)) : WB (bOr p q) env Q := by
  obtain ⟨b, e, h1, h⟩ := h
  cases b with
  | false => obtain ⟨b, e', h2, q⟩ : WB q e Q := h; exact ⟨b, e', by unfold bOr; simp [h1, h2], q⟩
  | true => exact ⟨_, e, by unfold bOr; simp [h1]; (try rfl), h⟩
theorem wb_not {Q : Bool → En → Prop} (h : WB p env fun b e => Q (!b) e) : WB (bNot p) env Q := by
  obtain ⟨b, e, h1, h⟩ := h
  exact ⟨_, e, by unfold bNot; rw [h1]; (try rfl), h⟩
theorem wb_yes {Q : Bool → En → Prop} (q : Q true env) : WB bYes env Q := ⟨_, _, rfl, q⟩

/-! targets -/
theorem wt_n {Q : En → Prop} (q : Nrm (env.set i (.val d)) Q) : WT (tN i) d env Q := ⟨_, rfl, q⟩
theorem wt_t {n : Nat} {r : List D → En → Option En} {ds : List D} {Q : En → Prop} (hl : ds.length = n) (h : WTs r ds env Q) : WT (tT n r) (.tuple ds) env Q := by
  obtain ⟨e, h, q⟩ := h
  exact ⟨e, by unfold tT; simp [hl, h], q⟩
theorem wts_nil {Q : En → Prop} (q : Q env) : WTs gsN [] env Q := ⟨_, rfl, q⟩
theorem wts_cons {g : Tf} {r : List D → En → Option En} {ds : List D} {Q : En → Prop} (h : WT g d env fun e => WTs r ds e Q) : WTs (gsC g r) (d :: ds) env Q := by
  obtain ⟨e, h1, e', h2, q⟩ := h
  exact ⟨e', by unfold gsC; simp [h1, h2], q⟩

/-! calls -/
theorem wa_nil {Q : List Ar → En → Prop} (q : Q [] env) : WA aNil env Q := ⟨_, _, rfl, q⟩
theorem wa_v {a : Af} {Q : List Ar → En → Prop} (h : WE f env fun x e => WA a e fun xs e' => Q (.v x :: xs) e') : WA (aV f a) env Q := by
  obtain ⟨x, e, h1, xs, e', h2, q⟩ := h
  exact ⟨_, e', by unfold aV; simp [h1, h2]; (try rfl), q⟩
theorem wa_r {a : Af} {Q : List Ar → En → Prop} {b : Bool} {ds : List D} (h0 : env[i]? = some (.own b ds)) (h : WA a env fun xs e' => Q (.r i :: xs) e') : WA (aR i a) env Q := by
  obtain ⟨xs, e', h2, q⟩ := h
  exact ⟨_, e', by unfold aR; simp [eO, h0, h2]; (try rfl), q⟩
theorem wa_o {a : Af} {Q : List Ar → En → Prop} (h0 : ∃ d, eO i env = some (d, env)) (h : WA a env fun xs e' => Q (.o i :: xs) e') : WA (aO i a) env Q := by
  obtain ⟨_, h0⟩ := h0
  obtain ⟨xs, e', h2, q⟩ := h
  exact ⟨_, e', by unfold aO; simp [h0, h2]; (try rfl), q⟩
theorem wa_oR {a : Af} {Q : List Ar → En → Prop} {ds : List D} (h0 : env[i]? = some (.ro ds)) (h : WA a env fun xs e' => Q (.o i :: xs) e') : WA (aO i a) env Q := wa_o ⟨_, by unfold eO; rw [h0]⟩ h
theorem wa_oO {a : Af} {Q : List Ar → En → Prop} {b : Bool} {ds : List D} (h0 : env[i]? = some (.own b ds)) (h : WA a env fun xs e' => Q (.o i :: xs) e') : WA (aO i a) env Q := wa_o ⟨_, by unfold eO; rw [h0]⟩ h
theorem wa_oV {a : Af} {Q : List Ar → En → Prop} (h0 : env[i]? = some (.val d)) (h : WA a env fun xs e' => Q (.o i :: xs) e') : WA (aO i a) env Q := wa_o ⟨_, by unfold eO; rw [h0]⟩ h
theorem we_call {g : Gf} {fa : Af} {Q : D → En → Prop} (h : WA fa env fun as e => CallG g as e Q) : WE (eCall g fa) env Q := by
  obtain ⟨as, e, h1, h⟩ := h
  rcases h with ⟨h3, args, h2, d, a', h4, q⟩ | ⟨i, h3, h4, args, h2, d, a', h5, e', h6, q⟩
  · exact ⟨d, e, by unfold eCall; simp [h1, h2, h3, h4], q⟩
  · exact ⟨d, e', by unfold eCall; simp only [h1, Option.bind_some, h3]; simp [show i ∉ oSlots as from fun z => by simp [z] at h4, h2, h5, h6], q⟩
theorem wl_call {g : Hf} {fa : Af} {Q : List D → En → Prop} (h : WA fa env fun as e => CallH g as e Q) : WL (lCall g fa) env Q := by
  obtain ⟨as, e, h1, h⟩ := h
  rcases h with ⟨h3, args, h2, d, a', h4, q⟩ | ⟨i, h3, h4, args, h2, d, a', h5, e', h6, q⟩
  · exact ⟨d, e, by unfold lCall; simp [h1, h2, h3, h4], q⟩
  · exact ⟨d, e', by unfold lCall; simp only [h1, Option.bind_some, h3]; simp [show i ∉ oSlots as from fun z => by simp [z] at h4, h2, h5, h6], q⟩
theorem cg0 {g : Gf} {as : List Ar} {Q : D → En → Prop} (h : rSlots as = []) (q : WO (resArs env as) fun args => WG g args fun d _ => Q d env) : CallG g as env Q := .inl ⟨h, q⟩
theorem cg1 {g : Gf} {as : List Ar} {Q : D → En → Prop} (h : rSlots as = [i]) (h2 : (oSlots as).contains i = false) (q : WO (resArs env as) fun args => WG g args fun d a' => WO (backAr env as a') fun e' => Q d e') : CallG g as env Q := .inr ⟨i, h, h2, q⟩
theorem ch0 {g : Hf} {as : List Ar} {Q : List D → En → Prop} (h : rSlots as = []) (q : WO (resArs env as) fun args => WH g args fun d _ => Q d env) : CallH g as env Q := .inl ⟨h, q⟩
theorem ch1 {g : Hf} {as : List Ar} {Q : List D → En → Prop} (h : rSlots as = [i]) (h2 : (oSlots as).contains i = false) (q : WO (resArs env as) fun args => WH g args fun d a' => WO (backAr env as a') fun e' => Q d e') : CallH g as env Q := .inr ⟨i, h, h2, q⟩
theorem res_nil {Q : List Sl → Prop} (q : Q []) : WO (resArs env []) Q := ⟨_, rfl, q⟩
theorem res_cons {a : Ar} {as : List Ar} {x : Sl} {Q : List Sl → Prop} (h : resAr env a = some x) (q : WO (resArs env as) fun xs => Q (x :: xs)) : WO (resArs env (a :: as)) Q := by
  obtain ⟨xs, h2, q⟩ := q
  exact ⟨_, by unfold resArs; simp [h, h2], q⟩
theorem res_v {as : List Ar} {Q : List Sl → Prop} (q : WO (resArs env as) fun xs => Q (.val d :: xs)) : WO (resArs env (.v d :: as)) Q := res_cons rfl q
theorem res_r {as : List Ar} {b : Bool} {ds : List D} {Q : List Sl → Prop} (h : env[i]? = some (.own b ds)) (q : WO (resArs env as) fun xs => Q (.own false ds :: xs)) : WO (resArs env (.r i :: as)) Q := res_cons (by unfold resAr; dsimp only; rw [h]) q
theorem res_oO {as : List Ar} {b : Bool} {ds : List D} {Q : List Sl → Prop} (h : env[i]? = some (.own b ds)) (q : WO (resArs env as) fun xs => Q (.ro ds :: xs)) : WO (resArs env (.o i :: as)) Q := res_cons (by unfold resAr; dsimp only; rw [h]) q
theorem res_oR {as : List Ar} {ds : List D} {Q : List Sl → Prop} (h : env[i]? = some (.ro ds)) (q : WO (resArs env as) fun xs => Q (.ro ds :: xs)) : WO (resArs env (.o i :: as)) Q := res_cons (by unfold resAr; dsimp only; rw [h]) q
theorem res_oV {as : List Ar} {ds : List D} {Q : List Sl → Prop} (h : env[i]? = some (.val (.list ds))) (q : WO (resArs env as) fun xs => Q (.ro ds :: xs)) : WO (resArs env (.o i :: as)) Q := res_cons (by unfold resAr; dsimp only; rw [h]) q
theorem back_nil {xs : List Sl} {Q : En → Prop} (q : Q env) : WO (backAr env [] xs) Q := ⟨_, by unfold backAr; (try rfl), q⟩
theorem back_v {as : List Ar} {x : Sl} {xs : List Sl} {Q : En → Prop} (q : WO (backAr env as xs) Q) : WO (backAr env (.v d :: as) (x :: xs)) Q := q
theorem back_o {as : List Ar} {x : Sl} {xs : List Sl} {Q : En → Prop} (q : WO (backAr env as xs) Q) : WO (backAr env (.o i :: as) (x :: xs)) Q := q
theorem back_r {as : List Ar} {ds ds0 : List D} {b : Bool} {xs : List Sl} {Q : En → Prop} (h : env[i]? = some (.own b ds0)) (q : Nrm (env.set i (.own b ds)) fun e => WO (backAr e as xs) Q) : WO (backAr env (.r i :: as) (.own false ds :: xs)) Q := by
  obtain ⟨e, h1, q⟩ := q
  exact ⟨e, by unfold backAr; rw [h]; exact h1, q⟩

/-! methods -/
theorem we_mut {g : List D → D → Option (List D × D)} {Q : D → En → Prop} {b : Bool} {ds0 : List D} (h0 : env[i]? = some (.own b ds0)) (h : WE f env fun x e => Own e[i]? fun l ds => WO (g ds x) fun r => Nrm (e.set i (.own l r.1)) (Q r.2)) : WE (eMut g i f) env Q := by
  obtain ⟨x, e, h1, l, ds, h2, r, h3, q⟩ := h
  exact ⟨_, _, by unfold eMut isOwn; rw [h0]; simp only [if_true, h1, Option.bind_some, h2, h3]; (try rfl), q⟩
theorem we_mut0 {g : List D → Option (List D × D)} {Q : D → En → Prop} {b : Bool} {ds : List D} (h0 : env[i]? = some (.own b ds)) (h : WO (g ds) fun r => Nrm (env.set i (.own b r.1)) (Q r.2)) : WE (eMut0 g i) env Q := by
  obtain ⟨r, h3, q⟩ := h
  exact ⟨_, _, by unfold eMut0; rw [h0]; simp only [h3]; (try rfl), q⟩

/-! statements -/
theorem ws_nil {N : En → Prop} {R : D → En → Prop} {L : List D → En → Prop} (q : N env) : WS sNil env ⟨N, R, L⟩ := ⟨.nx env, rfl, q⟩
theorem ws_seq {f g : Sf} {N : En → Prop} {R : D → En → Prop} {L : List D → En → Prop} (h : WS f env ⟨fun e => WS g e ⟨N, R, L⟩, R, L⟩) : WS (sSeq f g) env ⟨N, R, L⟩ := by
  obtain ⟨o, h1, h⟩ := h
  cases o with
  | nx e =>
    obtain ⟨o, h2, q⟩ : WS g e ⟨N, R, L⟩ := h
    exact ⟨o, by unfold sSeq; simp [h1, h2], q⟩
  | rt d e => exact ⟨.rt d e, by unfold sSeq; simp [h1]; (try rfl), h⟩
  | rn d e => exact ⟨.rn d e, by unfold sSeq; simp [h1]; (try rfl), h⟩
  | rp d d2 e => exact ⟨.rp d d2 e, by unfold sSeq; simp [h1]; (try rfl), h⟩
theorem ws_expr {N : En → Prop} {R : D → En → Prop} {L : List D → En → Prop} (h : WE f env fun _ e => N e) : WS (sExpr f) env ⟨N, R, L⟩ := by
  obtain ⟨x, e, h1, q⟩ := h
  exact ⟨.nx e, by unfold sExpr; rw [h1]; (try rfl), q⟩
theorem ws_ret {N : En → Prop} {R : D → En → Prop} {L : List D → En → Prop} (h : WE f env R) : WS (sRet f) env ⟨N, R, L⟩ := by
  obtain ⟨x, e, h1, q⟩ := h
  exact ⟨.rt x e, by unfold sRet; rw [h1]; (try rfl), q⟩
theorem ws_retL {N : En → Prop} {R : D → En → Prop} {L : List D → En → Prop} (h : WL l env L) : WS (sRetL l) env ⟨N, R, L⟩ := by
  obtain ⟨x, e, h1, q⟩ := h
  exact ⟨.rn x e, by unfold sRetL; rw [h1]; (try rfl), q⟩
theorem ws_retN {N : En → Prop} {R : D → En → Prop} {L : List D → En → Prop} (q : R .none env) : WS sRetN env ⟨N, R, L⟩ := ⟨.rt .none env, rfl, q⟩
theorem ws_retO {N : En → Prop} {R : D → En → Prop} {L : List D → En → Prop} {ds : List D} (h : env[i]? = some (.own true ds)) (q : Nrm (env.set i .no) (L ds)) : WS (sRetO i) env ⟨N, R, L⟩ := ⟨.rn ds _, by unfold sRetO; rw [h], q⟩
theorem ws_frz {f : Sf} {N : En → Prop} {R : D → En → Prop} {L : List D → En → Prop} {ds : List D} (h : env[i]? = some (.own true ds)) (q : Nrm (env.set i (.val (.list ds))) fun e => WS f e ⟨N, R, L⟩) : WS (sFrz i f) env ⟨N, R, L⟩ := by
  obtain ⟨o, h1, q⟩ := q
  exact ⟨o, by unfold sFrz frz; rw [h]; exact h1, q⟩
theorem ws_frzV {f : Sf} {N : En → Prop} {R : D → En → Prop} {L : List D → En → Prop} (h : env[i]? = some (.val d)) (q : WS f env ⟨N, R, L⟩) : WS (sFrz i f) env ⟨N, R, L⟩ := by
  obtain ⟨o, h1, q⟩ := q
  exact ⟨o, by unfold sFrz frz; rw [h]; exact h1, q⟩
theorem ws_if {f g : Sf} {N : En → Prop} {R : D → En → Prop} {L : List D → En → Prop} (h : WB c env fun b e => IfB b (WS f e ⟨N, R, L⟩) (WS g e ⟨N, R, L⟩)) : WS (sIf c f g) env ⟨N, R, L⟩ := by
  obtain ⟨b, e, h1, h⟩ := h
  cases b with
  | true => obtain ⟨o, h2, q⟩ : WS f e ⟨N, R, L⟩ := h; exact ⟨o, by unfold sIf; simp [h1, h2], q⟩
  | false => obtain ⟨o, h2, q⟩ : WS g e ⟨N, R, L⟩ := h; exact ⟨o, by unfold sIf; simp [h1, h2], q⟩
theorem ws_set {N : En → Prop} {R : D → En → Prop} {L : List D → En → Prop} (h : WE f env fun x e => Nrm (e.set i (.val x)) N) : WS (sSet i f) env ⟨N, R, L⟩ := by
  obtain ⟨x, e, h1, q⟩ := h
  exact ⟨.nx _, by unfold sSet; rw [h1]; (try rfl), q⟩
theorem ws_setO {N : En → Prop} {R : D → En → Prop} {L : List D → En → Prop} (h : WL l env fun x e => Nrm (e.set i (.own true x)) N) : WS (sSetO i l) env ⟨N, R, L⟩ := by
  obtain ⟨x, e, h1, q⟩ := h
  exact ⟨.nx _, by unfold sSetO; rw [h1]; (try rfl), q⟩
theorem ws_asg {g : Tf} {N : En → Prop} {R : D → En → Prop} {L : List D → En → Prop} (h : WE f env fun x e => WT g x e N) : WS (sAsg f g) env ⟨N, R, L⟩ := by
  obtain ⟨x, e, h1, e', h2, q⟩ := h
  exact ⟨.nx _, by unfold sAsg; simp [h1, h2]; (try rfl), q⟩
theorem ws_par {N : En → Prop} {R : D → En → Prop} {L : List D → En → Prop} (h : WL l env fun ds e => Two ds fun x y => Nrm ((e.set i (.val x)).set j (.val y)) N) : WS (sPar i j l) env ⟨N, R, L⟩ := by
  obtain ⟨x, e, h1, h⟩ := h
  unfold Two at h
  split at h
  case h_2 => cases h
  have q := h
  exact ⟨.nx _, by unfold sPar; rw [h1]; (try rfl), q⟩
theorem ws_putI {fk fe : Ef} {N : En → Prop} {R : D → En → Prop} {L : List D → En → Prop} {b : Bool} {ds0 : List D} (h0 : env[i]? = some (.own b ds0)) (h : WE fe env fun x e => WE fk e fun y e' => IsI y fun k => Own e'[i]? fun l ds => WO (ixN ds.length k) fun j => Nrm (e'.set i (.own l (ds.set j x))) N) : WS (sPutI i fk fe) env ⟨N, R, L⟩ := by
  obtain ⟨x, e, h1, y, e', h2, h⟩ := h
  cases y with
  | int k =>
    obtain ⟨l, ds, h3, j, h4, q⟩ := h
    exact ⟨.nx _, by unfold sPutI isOwn; rw [h0]; simp only [if_true]; unfold sPut; simp only [h1, h2, Option.bind_some, h3, h4]; (try rfl), q⟩
  | _ => cases h
/-- for: by what is still to be walked -/
theorem for_go {g : Tf} {body : Sf} {N : En → Prop} {R : D → En → Prop} {L : List D → En → Prop} (I : List D → En → Prop) : ∀ (ds : List D) (env : En), I ds env →
    (∀ d rs e, I (d :: rs) e → WT g d e fun e1 => WS body e1 ⟨I rs, R, L⟩) → (∀ e, I [] e → N e) → WS (forGo g body ds) env ⟨N, R, L⟩
  | [], env, h, _, q => ⟨.nx env, rfl, q env h⟩
  | d :: ds, env, h, s, q => by
    obtain ⟨e1, h1, o, h2, h3⟩ := s d ds env h
    cases o with
    | nx e =>
      obtain ⟨o, h4, h5⟩ := for_go I ds e h3 s q
      exact ⟨o, by unfold forGo; simp [h1, h2, h4], h5⟩
    | rt d e => exact ⟨.rt d e, by unfold forGo; simp [h1, h2]; (try rfl), h3⟩
    | rn d e => exact ⟨.rn d e, by unfold forGo; simp [h1, h2]; (try rfl), h3⟩
    | rp d d2 e => exact ⟨.rp d d2 e, by unfold forGo; simp [h1, h2]; (try rfl), h3⟩
/-- for: by the turn -/
theorem ws_forN {g : Tf} {body : Sf} {N : En → Prop} {R : D → En → Prop} {L : List D → En → Prop} (I : List D → Nat → En → Prop) (h : WL l env fun ds e => I ds 0 e ∧ (∀ k d e, k < ds.length → ds[k]? = some d → I ds k e → WT g d e fun e1 => WS body e1 ⟨I ds (k + 1), R, L⟩) ∧ ∀ e, I ds ds.length e → N e) : WS (sFor l g body) env ⟨N, R, L⟩ := by
  obtain ⟨ds, e, h1, h2, h3, h4⟩ := h
  obtain ⟨o, h5, q⟩ := for_go (N := N) (R := R) (L := L) (body := body) (g := g) (fun rs e => ∃ k, k ≤ ds.length ∧ ds.drop k = rs ∧ I ds k e) ds e ⟨0, Nat.zero_le _, rfl, h2⟩ (fun d rs e ⟨k, hk, h5, h6⟩ => by
    have hlt : k < ds.length := by
      rcases Nat.lt_or_ge k ds.length with h | h
      · exact h
      · rw [List.drop_eq_nil_of_le h] at h5; cases h5
    have e1 : ds[k]? = some d := by
      rw [List.drop_eq_getElem_cons hlt] at h5
      injection h5 with h5 _
      rw [List.getElem?_eq_getElem hlt, h5]
    obtain ⟨x1, h7, o, h8, h9⟩ := h3 k d e hlt e1 h6
    refine ⟨x1, h7, o, h8, ?_⟩
    cases o with
    | nx e' =>
      refine ⟨k + 1, hlt, ?_, h9⟩
      rw [List.drop_eq_getElem_cons hlt] at h5
      injection h5 with _ h5
    | rt d e => exact h9
    | rn d e => exact h9
    | rp d d2 e => exact h9) (fun e ⟨k, hk, h5, h6⟩ => by
    have : k = ds.length := by
      rw [List.drop_eq_nil_iff] at h5
      omega
    subst this
    exact h4 e h6)
  exact ⟨o, by unfold sFor; simp [h1, h5], q⟩
/-! defs -/
theorem wg_run {n np : Nat} {f : Sf} {args : List Sl} {Q : D → List Sl → Prop} (hl : args.length = np) (h : Nrm (args ++ List.replicate (n - np) .no) fun e => WS f e ⟨fun e => Q .none (e.take np), fun d e => Q d (e.take np), fun ds e => Q (.list ds) (e.take np)⟩) : WG (fnRun n np f) args Q := by
  obtain ⟨o, h1, q⟩ := h
  cases o with
  | nx e => exact ⟨_, _, by unfold fnRun; rw [if_pos hl, h1], q⟩
  | rt d e => exact ⟨_, _, by unfold fnRun; rw [if_pos hl, h1], q⟩
  | rn d e => exact ⟨_, _, by unfold fnRun; rw [if_pos hl, h1], q⟩
  | rp d d2 e => exact ⟨_, _, by unfold fnRun; rw [if_pos hl, h1], q⟩
/-! what is worked out -/
variable {Q : D → Prop} {a b : Int}
theorem wo_add (q : Q (.int (a + b))) : WO (gAdd (.int a) (.int b)) Q := ⟨_, rfl, q⟩
theorem wo_addL {xs ys : List D} (h : fits (xs.length + ys.length) = true) (q : Q (.list (xs ++ ys))) : WO (gAdd (.list xs) (.list ys)) Q := ⟨_, by unfold gAdd; dsimp only; rw [if_pos h], q⟩
theorem wo_addT {xs ys : List D} (h : fits (xs.length + ys.length) = true) (q : Q (.tuple (xs ++ ys))) : WO (gAdd (.tuple xs) (.tuple ys)) Q := ⟨_, by unfold gAdd; dsimp only; rw [if_pos h], q⟩
theorem wo_sub (q : Q (.int (a - b))) : WO (gSub (.int a) (.int b)) Q := ⟨_, rfl, q⟩
theorem wo_mul (h : mulOk a b = true) (q : Q (.int (a * b))) : WO (gMul (.int a) (.int b)) Q := ⟨_, by unfold gMul; dsimp only; rw [if_pos h], q⟩
theorem wo_div (h1 : 0 < b) (h2 : b < 10 ^ 250 * 10 ^ 250) (q : Q (.int (a / b))) : WO (gDiv (.int a) (.int b)) Q := ⟨_, by unfold gDiv divOk; dsimp only; rw [decide_eq_true h1, decide_eq_true h2]; (try rfl), q⟩
theorem wo_mod (h1 : 0 < b) (q : Q (.int (a % b))) : WO (gMod (.int a) (.int b)) Q := ⟨_, by unfold gMod; dsimp only; rw [decide_eq_true h1]; (try rfl), q⟩
theorem wo_neg (q : Q (.int (-a))) : WO (gNeg (.int a)) Q := ⟨_, rfl, q⟩
theorem wo_lt (q : Q (.bool (decide (a < b)))) : WO (gLt (.int a) (.int b)) Q := ⟨_, rfl, q⟩
theorem wo_le (q : Q (.bool (decide (a ≤ b)))) : WO (gLe (.int a) (.int b)) Q := ⟨_, rfl, q⟩
theorem wo_gt (q : Q (.bool (decide (b < a)))) : WO (gGt (.int a) (.int b)) Q := ⟨_, rfl, q⟩
theorem wo_ge (q : Q (.bool (decide (b ≤ a)))) : WO (gGe (.int a) (.int b)) Q := ⟨_, rfl, q⟩
theorem shp_int : shp (.int a) = true := rfl
theorem eqv_int : PyData.eqv (.int a) (.int b) = decide (a = b) := by unfold PyData.eqv; by_cases h : a = b <;> simp [h]
theorem wo_eq (q : Q (.bool (decide (a = b)))) : WO (gEq (.int a) (.int b)) Q := ⟨_, by unfold gEq; rw [shp_int, shp_int]; simp only [Bool.and_self, if_true]; rw [eqv_int], q⟩
theorem wo_ne (q : Q (.bool (!decide (a = b)))) : WO (gNe (.int a) (.int b)) Q := ⟨_, by unfold gNe; rw [shp_int, shp_int]; simp only [Bool.and_self, if_true]; rw [eqv_int], q⟩
theorem eqv_bool {a b : Bool} : PyData.eqv (.bool a) (.bool b) = (a == b) := by unfold PyData.eqv; rfl
theorem wo_eqB {a b : Bool} (q : Q (.bool (a == b))) : WO (gEq (.bool a) (.bool b)) Q := ⟨_, by unfold gEq; rw [show shp (.bool a) = true from rfl, show shp (.bool b) = true from rfl]; simp only [Bool.and_self, if_true]; rw [eqv_bool], q⟩
theorem wo_neB {a b : Bool} (q : Q (.bool (!(a == b)))) : WO (gNe (.bool a) (.bool b)) Q := ⟨_, by unfold gNe; rw [show shp (.bool a) = true from rfl, show shp (.bool b) = true from rfl]; simp only [Bool.and_self, if_true]; rw [eqv_bool], q⟩
theorem wo_idxE {x d : D} {k : Int} (h : gIdx d (.int k) = some x) (q : Q x) : WO (gIdx d (.int k)) Q := ⟨_, h, q⟩
theorem wo_lenL {ds : List D} (q : Q (.int (ds.length : Int))) : WO (gLen (.list ds)) Q := ⟨_, rfl, q⟩
theorem wo_lenT {ds : List D} (q : Q (.int (ds.length : Int))) : WO (gLen (.tuple ds)) Q := ⟨_, rfl, q⟩
theorem wo_abs (q : Q (.int (if a < 0 then -a else a))) : WO (gAbs (.int a)) Q := ⟨_, rfl, q⟩
theorem wo_intB {b : Bool} (q : Q (.int (if b then 1 else 0))) : WO (gInt (.bool b)) Q := ⟨_, rfl, q⟩
theorem wo_intI (q : Q (.int a)) : WO (gInt (.int a)) Q := ⟨_, rfl, q⟩
theorem wo_listL {ds : List D} {Q : List D → Prop} (q : Q ds) : WO (gList (.list ds)) Q := ⟨_, rfl, q⟩
theorem wo_listT {ds : List D} {Q : List D → Prop} (q : Q ds) : WO (gList (.tuple ds)) Q := ⟨_, rfl, q⟩
theorem wo_tupL {ds : List D} (q : Q (.tuple ds)) : WO (gTuple (.list ds)) Q := ⟨_, rfl, q⟩
theorem wo_tupT {ds : List D} (q : Q (.tuple ds)) : WO (gTuple (.tuple ds)) Q := ⟨_, rfl, q⟩
theorem wo_max (q : Q (.int (if b > a then b else a))) : WO (gMax2 (.int a) (.int b)) Q := ⟨_, rfl, q⟩
theorem wo_min (q : Q (.int (if b < a then b else a))) : WO (gMin2 (.int a) (.int b)) Q := ⟨_, rfl, q⟩
theorem wo_app {ds : List D} {Q : List D × D → Prop} (h : fits (ds.length + 1) = true) (q : Q (ds ++ [d], .none)) : WO (mAppend ds d) Q := ⟨_, by unfold mAppend; rw [if_pos h], q⟩
theorem wo_ext {ds es : List D} {Q : List D × D → Prop} (h : fits (ds.length + es.length) = true) (q : Q (ds ++ es, .none)) : WO (mExtend ds (.list es)) Q := ⟨_, by unfold mExtend; dsimp only; rw [if_pos h], q⟩
theorem wo_isN (q : Q (.bool (isNone d))) : WO (gIsN d .none) Q := ⟨_, rfl, q⟩
theorem wo_ntN (q : Q (.bool (!isNone d))) : WO (gNtN d .none) Q := ⟨_, rfl, q⟩
theorem wo_isiE {T : Ty} {z : D} (h : gIsi T d = some z) (q : Q z) : WO (gIsi T d) Q := ⟨z, h, q⟩
theorem wo_allE {z : D} (h : gAll d = some z) (q : Q z) : WO (gAll d) Q := ⟨z, h, q⟩
theorem wo_anyE {z : D} (h : gAny d = some z) (q : Q z) : WO (gAny d) Q := ⟨z, h, q⟩
theorem wo_eqT (h : (shp d && shp e && PyData.eqv d e) = true) (q : Q (.bool true)) : WO (gEq d e) Q := by
  simp only [Bool.and_eq_true] at h
  exact ⟨_, by unfold gEq; rw [h.1.1, h.1.2, h.2]; rfl, q⟩
theorem wo_eqF (h : (shp d && shp e && !PyData.eqv d e) = true) (q : Q (.bool false)) : WO (gEq d e) Q := by
  simp only [Bool.and_eq_true, Bool.not_eq_true'] at h
  exact ⟨_, by unfold gEq; rw [h.1.1, h.1.2, h.2]; rfl, q⟩
theorem wo_neT (h : (shp d && shp e && !PyData.eqv d e) = true) (q : Q (.bool true)) : WO (gNe d e) Q := by
  simp only [Bool.and_eq_true, Bool.not_eq_true'] at h
  exact ⟨_, by unfold gNe; rw [h.1.1, h.1.2, h.2]; rfl, q⟩
theorem wo_neF (h : (shp d && shp e && PyData.eqv d e) = true) (q : Q (.bool false)) : WO (gNe d e) Q := by
  simp only [Bool.and_eq_true] at h
  exact ⟨_, by unfold gNe; rw [h.1.1, h.1.2, h.2]; rfl, q⟩
theorem wo_isiI (q : Q (.bool true)) : WO (gIsi .int (.int a)) Q := ⟨_, rfl, q⟩
theorem wo_isiB (q : Q (.bool false)) : WO (gIsi .bool (.int a)) Q := ⟨_, rfl, q⟩
theorem wo_ixE {n j : Nat} {k : Int} {Q : Nat → Prop} (h : ixN n k = some j) (q : Q j) : WO (ixN n k) Q := ⟨j, h, q⟩
theorem wo_ix {n : Nat} {k : Int} {Q : Nat → Prop} (h1 : 0 ≤ k) (h2 : k < n) (q : Q k.toNat) : WO (ixN n k) Q := ⟨_, by unfold ixN; rw [if_pos h1, if_pos h2], q⟩
theorem mul_ok1 (h : a.natAbs < 2 ^ 64) : mulOk a b = true := by unfold mulOk; rw [decide_eq_true h]; rfl
theorem mul_ok2 (h : b.natAbs < 2 ^ 64) : mulOk a b = true := by unfold mulOk; rw [decide_eq_true h]; simp
theorem mul_ok3 (h1 : a.natAbs < 10 ^ 250 * 10 ^ 250) (h2 : b.natAbs < 10 ^ 250 * 10 ^ 250) : mulOk a b = true := by unfold mulOk; rw [decide_eq_true h1, decide_eq_true h2]; simp
theorem fits_of {n : Nat} (h : n ≤ 16777216) : fits n = true := decide_eq_true h
end
theorem wo_p10_60 {Q : D → Prop} (q : Q (.int 1000000000000000000000000000000000000000000000000000000000000)) : WO (gPow (.int 10) (.int 60)) Q := ⟨_, rfl, q⟩
theorem wo_p10_18 {Q : D → Prop} (q : Q (.int 1000000000000000000)) : WO (gPow (.int 10) (.int 18)) Q := ⟨_, rfl, q⟩
theorem wo_p10_30 {Q : D → Prop} (q : Q (.int 1000000000000000000000000000000)) : WO (gPow (.int 10) (.int 30)) Q := ⟨_, rfl, q⟩
theorem wo_p2_24 {Q : D → Prop} (q : Q (.int 16777216)) : WO (gPow (.int 2) (.int 24)) Q := ⟨_, rfl, q⟩
theorem wo_p10_8 {Q : D → Prop} (q : Q (.int 100000000)) : WO (gPow (.int 10) (.int 8)) Q := ⟨_, rfl, q⟩
theorem wo_p10_19 {Q : D → Prop} (q : Q (.int 10000000000000000000)) : WO (gPow (.int 10) (.int 19)) Q := ⟨_, rfl, q⟩
theorem wo_p10_55 {Q : D → Prop} (q : Q (.int 10000000000000000000000000000000000000000000000000000000)) : WO (gPow (.int 10) (.int 55)) Q := ⟨_, rfl, q⟩
theorem wo_p10_59 {Q : D → Prop} (q : Q (.int 100000000000000000000000000000000000000000000000000000000000)) : WO (gPow (.int 10) (.int 59)) Q := ⟨_, rfl, q⟩
theorem wo_p3_30 {Q : D → Prop} (q : Q (.int 205891132094649)) : WO (gPow (.int 3) (.int 30)) Q := ⟨_, rfl, q⟩
theorem wo_p2_40 {Q : D → Prop} (q : Q (.int 1099511627776)) : WO (gPow (.int 2) (.int 40)) Q := ⟨_, rfl, q⟩
theorem wo_p10_54 {Q : D → Prop} (q : Q (.int 1000000000000000000000000000000000000000000000000000000)) : WO (gPow (.int 10) (.int 54)) Q := ⟨_, rfl, q⟩
theorem wo_p3_13 {Q : D → Prop} (q : Q (.int 1594323)) : WO (gPow (.int 3) (.int 13)) Q := ⟨_, rfl, q⟩
theorem wo_p2_20 {Q : D → Prop} (q : Q (.int 1048576)) : WO (gPow (.int 2) (.int 20)) Q := ⟨_, rfl, q⟩
theorem wo_p10_57 {Q : D → Prop} (q : Q (.int 1000000000000000000000000000000000000000000000000000000000)) : WO (gPow (.int 10) (.int 57)) Q := ⟨_, rfl, q⟩
theorem wo_p10_40 {Q : D → Prop} (q : Q (.int 10000000000000000000000000000000000000000)) : WO (gPow (.int 10) (.int 40)) Q := ⟨_, rfl, q⟩
theorem wo_p10_61 {Q : D → Prop} (q : Q (.int 10000000000000000000000000000000000000000000000000000000000000)) : WO (gPow (.int 10) (.int 61)) Q := ⟨_, rfl, q⟩
theorem wo_p10_50 {Q : D → Prop} (q : Q (.int 100000000000000000000000000000000000000000000000000)) : WO (gPow (.int 10) (.int 50)) Q := ⟨_, rfl, q⟩
end M

namespace M
open PySem PySem.Spec PyProof.Rows L2
theorem irange_length (lo : Int) (n : Nat) : (irange lo n).length = n := by unfold irange; rw [List.length_map, List.length_range]
/-! ### common parts -/
structure IsG (a b g : Int) : Prop where
  pos : 0 ≤ g
  da : g ∣ a
  db : g ∣ b
  all : ∀ d : Int, d ∣ a → d ∣ b → d ∣ g
theorem IsG.uniq {a b g h : Int} (x : IsG a b g) (y : IsG a b h) : g = h := Int.dvd_antisymm x.pos y.pos (y.all g x.da x.db) (x.all h y.da y.db)
theorem IsG.symm {a b g : Int} (x : IsG a b g) : IsG b a g := ⟨x.pos, x.db, x.da, fun d h1 h2 => x.all d h2 h1⟩
theorem IsG.ne {a b g : Int} (x : IsG a b g) (h : 0 < b) : 0 < g := by
  rcases Int.lt_or_eq_of_le x.pos with h1 | h1
  · exact h1
  · have := x.db
    rw [← h1] at this
    have := Int.zero_dvd.mp this
    omega
/-- g is made of both, s and t times -/
structure Bz (a b g s t : Int) : Prop where
  G : IsG a b g
  eq : s * a + t * b = g
  sb : s.natAbs ≤ b.natAbs + 1
  tb : t.natAbs ≤ a.natAbs + 1
/-- the turn's state of the search for the greatest common part -/
structure Eu (a b r0 s0 t0 r1 s1 t1 : Int) : Prop where
  h0 : 0 ≤ r0
  h1 : 0 ≤ r1
  e0 : s0 * a + t0 * b = r0
  e1 : s1 * a + t1 * b = r1
  dv : ∀ d : Int, (d ∣ r0 ∧ d ∣ r1) ↔ (d ∣ a ∧ d ∣ b)
  sg : ∃ e p0 p1 u0 u1 : Int, (e = 1 ∨ e = -1) ∧ 0 ≤ p0 ∧ 0 ≤ p1 ∧ 0 ≤ u0 ∧ 0 ≤ u1 ∧ s0 = e * p0 ∧ s1 = -(e * p1) ∧ t0 = -(e * u0) ∧ t1 = e * u1 ∧ p0 * r1 + p1 * r0 = b ∧ u0 * r1 + u1 * r0 = a ∧ p0 ≤ b + 1 ∧ p1 ≤ b + 1 ∧ u0 ≤ a + 1 ∧ u1 ≤ a + 1
theorem Eu.start {a b : Int} (ha : 0 ≤ a) (hb : 0 ≤ b) : Eu a b a 1 0 b 0 1 :=
  ⟨ha, hb, by omega, by omega, fun d => Iff.rfl, 1, 1, 0, 0, 1, .inl rfl, by omega, by omega, by omega, by omega, by omega, by omega, by omega, by omega, by omega, by omega, by omega, by omega, by omega, by omega⟩
theorem Eu.step {a b r0 s0 t0 r1 s1 t1 : Int} (E : Eu a b r0 s0 t0 r1 s1 t1) (hr : r1 ≠ 0) : Eu a b r1 s1 t1 (r0 - r0 / r1 * r1) (s0 - r0 / r1 * s1) (t0 - r0 / r1 * t1) ∧ (r0 - r0 / r1 * r1).toNat < r1.toNat ∧ 0 ≤ r0 / r1 ∧ r0 / r1 ≤ r0 := by
  obtain ⟨h0, h1, e0, e1, dv, e, p0, p1, u0, u1, he, hp0, hp1, hu0, hu1, rfl, rfl, rfl, rfl, i1, i2, b1, b2, b3, b4⟩ := E
  have hr1 : 0 < r1 := by omega
  have q0 : 0 ≤ r0 / r1 := Int.ediv_nonneg h0 h1
  have q1 : r0 / r1 ≤ r0 := Int.ediv_le_self _ h0
  have m1 := Int.mul_ediv_add_emod r0 r1
  have m2 := Int.emod_nonneg r0 hr
  have m3 := Int.emod_lt_of_pos r0 hr1
  have m4 : r0 - r0 / r1 * r1 = r0 % r1 := by rw [Int.mul_comm]; omega
  generalize r0 / r1 = q at *
  have k1 : 0 ≤ q * p1 := Int.mul_nonneg q0 hp1
  have k2 : 0 ≤ q * u1 := Int.mul_nonneg q0 hu1
  have k3 : p1 * (r0 - q * r1) + (p0 + q * p1) * r1 = b := by grind
  have k4 : u1 * (r0 - q * r1) + (u0 + q * u1) * r1 = a := by grind
  have k5 : 0 ≤ p1 * (r0 - q * r1) := Int.mul_nonneg hp1 (by omega)
  have k6 : 0 ≤ u1 * (r0 - q * r1) := Int.mul_nonneg hu1 (by omega)
  have k7 : (p0 + q * p1) * 1 ≤ (p0 + q * p1) * r1 := Int.mul_le_mul_of_nonneg_left (by omega) (by omega)
  have k8 : (u0 + q * u1) * 1 ≤ (u0 + q * u1) * r1 := Int.mul_le_mul_of_nonneg_left (by omega) (by omega)
  refine ⟨⟨h1, by omega, e1, by grind, fun d => ?_, -e, p1, p0 + q * p1, u1, u0 + q * u1, by omega, hp1, by omega, hu1, by omega, by grind, by grind, by grind, by grind, k3, k4, by omega, by omega, by omega, by omega⟩, by omega, q0, q1⟩
  rw [← dv d]
  constructor
  · rintro ⟨d1, d2⟩
    refine ⟨?_, d1⟩
    have : r0 = (r0 - q * r1) + q * r1 := by omega
    rw [this]
    exact Int.dvd_add d2 (Int.dvd_mul_of_dvd_right d1)
  · rintro ⟨d1, d2⟩
    exact ⟨d2, Int.dvd_sub d1 (Int.dvd_mul_of_dvd_right d2)⟩
theorem Eu.fin {a b r0 s0 t0 s1 t1 : Int} (ha : 0 ≤ a) (hb : 0 ≤ b) (E : Eu a b r0 s0 t0 0 s1 t1) : Bz a b r0 s0 t0 := by
  obtain ⟨h0, h1, e0, e1, dv, e, p0, p1, u0, u1, he, hp0, hp1, hu0, hu1, rfl, rfl, rfl, rfl, i1, i2, b1, b2, b3, b4⟩ := E
  have := (dv r0).mp ⟨Int.dvd_refl _, Int.dvd_zero _⟩
  refine ⟨⟨h0, this.1, this.2, fun d d1 d2 => ((dv d).mpr ⟨d1, d2⟩).1⟩, e0, ?_, ?_⟩
  · rcases he with rfl | rfl <;> omega
  · rcases he with rfl | rfl <;> omega
theorem IsG.mod {a b g : Int} (x : IsG (a % b) b g) : IsG a b g := by
  have e : a = a % b + b * (a / b) := by have := Int.mul_ediv_add_emod a b; omega
  refine ⟨x.pos, ?_, x.db, fun d d1 d2 => x.all d ?_ d2⟩
  · rw [e]; exact Int.dvd_add x.da (Int.dvd_mul_of_dvd_left x.db)
  · have : a % b = a - b * (a / b) := by omega
    rw [this]
    exact Int.dvd_sub d1 (Int.dvd_mul_of_dvd_left d2)
/-! ### values that == can be asked of -/
def scal : D → Bool
  | .none => true
  | .bool _ => true
  | .int _ => true
  | .str x => (PyData.str x).canLay0
  | _ => false
theorem scal_int (x : Int) : scal (.int x) = true := rfl
theorem scal_lay : ∀ d : D, scal d = true → d.canLay0 = true ∧ d.depth = 0
  | .none, _ => ⟨rfl, rfl⟩
  | .bool _, _ => ⟨rfl, rfl⟩
  | .int _, _ => ⟨rfl, rfl⟩
  | .str _, h => ⟨h, rfl⟩
  | .list _, h => by cases h
  | .tuple _, h => by cases h
  | .dict _, h => by cases h
theorem scal_all : ∀ ds : List D, ds.all scal = true → PyData.canLayAll0 ds = true ∧ PyData.depthAll ds = 0
  | [], _ => ⟨rfl, rfl⟩
  | d :: ds, h => by
    rw [List.all_cons, Bool.and_eq_true] at h
    obtain ⟨h1, h2⟩ := scal_lay d h.1
    obtain ⟨h3, h4⟩ := scal_all ds h.2
    refine ⟨?_, ?_⟩
    · show (d.canLay0 && PyData.canLayAll0 ds) = true
      rw [h1, h3]; rfl
    · show max d.depth (PyData.depthAll ds) = 0
      rw [h2, h4]; rfl
theorem shp_tup {ds : List D} (h : ds.all scal = true) : shp (.tuple ds) = true := by
  obtain ⟨h1, h2⟩ := scal_all ds h
  unfold shp SeqAt.shaped
  rw [show (PyData.tuple ds).canLay0 = true from h1, show (PyData.tuple ds).depth = 1 from by show PyData.depthAll ds + 1 = 1; rw [h2]]
  rfl
/-! ### stretches joined -/
def Jd (f1 s1 f2 s2 : Int) (d : D) : Prop := ∃ g : Int, IsG s1 s2 g ∧ 0 < g ∧ (((f2 - f1) % g ≠ 0 ∧ d = .tuple [.str "none", .int g]) ∨ ((f2 - f1) % g = 0 ∧ ∃ x : Int, 0 ≤ x ∧ x < s1 / g * s2 ∧ x % s1 = f1 ∧ x % s2 = f2 ∧ d = .tuple [.str "all", .int x, .int (s1 / g * s2)]))
theorem emod_of_sub {x y s : Int} (h : s ∣ x - y) (h0 : 0 ≤ y) (h1 : y < s) : x % s = y := by
  have := Int.emod_emod_of_dvd x (Int.dvd_refl s)
  rw [← Int.emod_eq_of_lt h0 h1]
  exact Int.emod_eq_emod_iff_emod_sub_eq_zero.mpr (Int.emod_eq_zero_of_dvd h)
theorem sub_of_emod {x y s : Int} (h : x % s = y % s) : s ∣ x - y := Int.dvd_of_emod_eq_zero (Int.emod_eq_emod_iff_emod_sub_eq_zero.mp h)
theorem lcm_dvd {s1 s2 g a b x : Int} (B : Bz s1 s2 g a b) (hg : 0 < g) (h1 : s1 ∣ x) (h2 : s2 ∣ x) : s1 / g * s2 ∣ x := by
  obtain ⟨p, hp⟩ := B.G.da
  obtain ⟨q, hq⟩ := B.G.db
  obtain ⟨c, rfl⟩ := h1
  obtain ⟨d, hd⟩ := h2
  have e1 : s1 / g = p := by rw [hp, Int.mul_ediv_cancel_left _ (by omega)]
  rw [e1]
  have eq := B.eq
  refine ⟨a * d + b * c * 1, ?_⟩
  have : g * (s1 * c) = g * (p * s2 * (a * d + b * c * 1)) := by grind
  exact Int.eq_of_mul_eq_mul_left (show g ≠ 0 by omega) this
theorem zero_of_dvd {x w : Int} (h : w ∣ x) (h1 : -w < x) (h2 : x < w) : x = 0 := by
  obtain ⟨k, rfl⟩ := h
  rcases Int.lt_trichotomy k 0 with h | h | h
  · have := Int.mul_le_mul_of_nonneg_left (show k ≤ -1 by omega) (show 0 ≤ w by omega)
    omega
  · rw [h, Int.mul_zero]
  · have := Int.mul_le_mul_of_nonneg_left (show 1 ≤ k by omega) (show 0 ≤ w by omega)
    omega
theorem IsG.bz {a b g : Int} (G : IsG a b g) (hb : 0 ≤ b) (ha : 0 ≤ a) : ∃ s t : Int, Bz a b g s t := by
  -- by the search itself
  have : ∀ n : Nat, ∀ r0 s0 t0 r1 s1 t1 : Int, r1.toNat < n → Eu a b r0 s0 t0 r1 s1 t1 → ∃ r s t : Int, Bz a b r s t := by
    intro n
    induction n with
    | zero => intro _ _ _ _ _ _ h; omega
    | succ n ih =>
      intro r0 s0 t0 r1 s1 t1 h E
      by_cases hr : r1 = 0
      · subst hr
        exact ⟨_, _, _, E.fin ha hb⟩
      · obtain ⟨E2, lt, _, _⟩ := E.step hr
        exact ih _ _ _ _ _ _ (by omega) E2
  obtain ⟨r, s, t, B⟩ := this (b.toNat + 1) a 1 0 b 0 1 (by omega) (Eu.start ha hb)
  have := B.G.uniq G
  subst this
  exact ⟨s, t, B⟩
theorem crt_uniq {s1 s2 g x y : Int} (G : IsG s1 s2 g) (hg : 0 < g) (h1 : 0 ≤ s1) (h2 : 0 ≤ s2) (x0 : 0 ≤ x) (x1 : x < s1 / g * s2) (y0 : 0 ≤ y) (y1 : y < s1 / g * s2) (e1 : x % s1 = y % s1) (e2 : x % s2 = y % s2) : x = y := by
  obtain ⟨s, t, B⟩ := G.bz h2 h1
  have := zero_of_dvd (lcm_dvd B hg (sub_of_emod e1) (sub_of_emod e2)) (by omega) (by omega)
  omega
theorem lcm_comm {s1 s2 g : Int} (G : IsG s1 s2 g) (hg : 0 < g) : s1 / g * s2 = s2 / g * s1 := by
  obtain ⟨p, hp⟩ := G.da
  obtain ⟨q, hq⟩ := G.db
  have e1 : s1 / g = p := by rw [hp, Int.mul_ediv_cancel_left _ (by omega)]
  have e2 : s2 / g = q := by rw [hq, Int.mul_ediv_cancel_left _ (by omega)]
  rw [e1, e2, hp, hq]
  grind
theorem Jd.uniq {f1 s1 f2 s2 : Int} {d e : D} (h1 : 0 < s1) (h2 : 0 < s2) (x : Jd f1 s1 f2 s2 d) (y : Jd f1 s1 f2 s2 e) : d = e := by
  obtain ⟨g, G, hg, x⟩ := x
  obtain ⟨g', G', _, y⟩ := y
  have := G.uniq G'
  subst this
  rcases x with ⟨n, rfl⟩ | ⟨n, x, x0, x1, x2, x3, rfl⟩
  · rcases y with ⟨_, rfl⟩ | ⟨m, _⟩
    · rfl
    · exact absurd m n
  · rcases y with ⟨m, _⟩ | ⟨m, y, y0, y1, y2, y3, rfl⟩
    · exact absurd n m
    · rw [crt_uniq G hg (by omega) (by omega) x0 x1 y0 y1 (x2.trans y2.symm) (x3.trans y3.symm)]
/-! ### weights -/
def dot : List Int → List Int → Int
  | w :: ws, n :: ns => w * n + dot ws ns
  | _, _ => 0
theorem dot_app : ∀ (ws ns : List Int) (w n : Int), ws.length = ns.length → dot (ws ++ [w]) (ns ++ [n]) = dot ws ns + w * n
  | [], [], w, n, _ => by simp [dot]
  | [], _ :: _, _, _, h => by simp at h
  | _ :: _, [], _, _, h => by simp at h
  | v :: ws, m :: ns, w, n, h => by
    have := dot_app ws ns w n (by simpa using h)
    show v * m + dot (ws ++ [w]) (ns ++ [n]) = v * m + dot ws ns + w * n
    omega
theorem dot_mod (m s : Int) : ∀ (ws ns : List Int), m ∣ dot (ws.map fun w => w * s % m) ns - s * dot ws ns
  | [], [] => ⟨0, by simp [dot]⟩
  | [], _ :: _ => ⟨0, by simp [dot]⟩
  | _ :: _, [] => ⟨0, by simp [dot]⟩
  | w :: ws, n :: ns => by
    obtain ⟨c, hc⟩ := dot_mod m s ws ns
    have e := Int.mul_ediv_add_emod (w * s) m
    refine ⟨c - w * s / m * n, ?_⟩
    show w * s % m * n + dot (ws.map fun w => w * s % m) ns - s * (w * n + dot ws ns) = _
    generalize w * s / m = q at *
    generalize w * s % m = r at *
    grind
structure We (m : Int) (ns : List Int) (g : Int) (ws : List Int) : Prop where
  pos : 0 < g
  dm : g ∣ m
  dn : ∀ n ∈ ns, g ∣ n
  all : ∀ d : Int, d ∣ m → (∀ n ∈ ns, d ∣ n) → d ∣ g
  len : ws.length = ns.length
  dot : m ∣ dot ws ns - g
  rng : ∀ w ∈ ws, 0 ≤ w ∧ w < m
theorem We.start {m : Int} (hm : 0 < m) : We m [] m [] := ⟨hm, Int.dvd_refl _, fun n h => (by cases h), fun d h _ => h, rfl, ⟨-1, by simp [M.dot]⟩, fun w h => (by cases h)⟩
theorem We.step {m g n g' s t : Int} {ns ws : List Int} (hm : 0 < m) (W : We m ns g ws) (B : Bz g (n % m) g' s t) : We m (ns ++ [n]) g' ((ws.map fun w => w * s % m) ++ [t % m]) := by
  have hgm := Int.dvd_trans B.G.da W.dm
  have en : n = n % m + m * (n / m) := by have := Int.mul_ediv_add_emod n m; omega
  refine ⟨?_, hgm, fun x hx => ?_, fun d d1 d2 => ?_, ?_, ?_, fun w hw => ?_⟩
  · rcases Int.lt_or_eq_of_le B.G.pos with h | h
    · exact h
    · rw [← h] at hgm
      have := Int.zero_dvd.mp hgm
      omega
  · rcases List.mem_append.mp hx with hx | hx
    · exact Int.dvd_trans B.G.da (W.dn x hx)
    · rw [List.mem_singleton] at hx
      subst hx
      rw [en]
      exact Int.dvd_add B.G.db (Int.dvd_mul_of_dvd_left hgm)
  · refine B.G.all d (W.all d d1 fun x hx => d2 x (List.mem_append_left _ hx)) ?_
    have : n % m = n - m * (n / m) := by omega
    rw [this]
    exact Int.dvd_sub (d2 n (by simp)) (Int.dvd_mul_of_dvd_left d1)
  · simp [W.len]
  · rw [dot_app _ _ _ _ (by simp [W.len])]
    obtain ⟨a, ha⟩ := dot_mod m s ws ns
    obtain ⟨b, hb⟩ := W.dot
    have et := Int.mul_ediv_add_emod t m
    have eq := B.eq
    refine ⟨a + s * b - t / m * n + t * (n / m), ?_⟩
    generalize M.dot (ws.map fun w => w * s % m) ns = X at *
    generalize M.dot ws ns = Y at *
    generalize n / m = p at *
    generalize n % m = q at *
    generalize t / m = u at *
    generalize t % m = v at *
    grind
  · rcases List.mem_append.mp hw with hw | hw
    · obtain ⟨v, _, rfl⟩ := List.mem_map.mp hw
      exact ⟨Int.emod_nonneg _ (by omega), Int.emod_lt_of_pos _ hm⟩
    · rw [List.mem_singleton] at hw
      subst hw
      exact ⟨Int.emod_nonneg _ (by omega), Int.emod_lt_of_pos _ hm⟩
theorem We.one {m f g : Int} {ws : List Int} (W : We m [f] g ws) : IsG m f g := ⟨by have := W.pos; omega, W.dm, W.dn f (by simp), fun d d1 d2 => W.all d d1 fun n hn => by rw [List.mem_singleton] at hn; subst hn; exact d2⟩
/-! ### many stretches -/
theorem Jd.all {f1 s1 f2 s2 : Int} {d : D} (h0 : 0 ≤ f1) (h1 : f1 < s1) (h2 : 0 ≤ f2) (h3 : f2 < s2) (J : Jd f1 s1 f2 s2 d) :
    (∃ g : Int, d = .tuple [.str "none", .int g] ∧ ∀ y : Int, ¬ (y % s1 = f1 ∧ y % s2 = f2)) ∨ ∃ x w : Int, d = .tuple [.str "all", .int x, .int w] ∧ 0 ≤ x ∧ x < w ∧ w ≤ s1 * s2 ∧ ∀ y : Int, (y % s1 = f1 ∧ y % s2 = f2) ↔ y % w = x := by
  obtain ⟨g, G, hg, ⟨hn, rfl⟩ | ⟨hn, x, x0, x1, x2, x3, rfl⟩⟩ := J
  · refine .inl ⟨g, rfl, fun y ⟨e1, e2⟩ => hn ?_⟩
    have a1 : s1 ∣ y - f1 := sub_of_emod (by rw [e1, Int.emod_eq_of_lt h0 h1])
    have a2 : s2 ∣ y - f2 := sub_of_emod (by rw [e2, Int.emod_eq_of_lt h2 h3])
    have := Int.dvd_sub (Int.dvd_trans G.da a1) (Int.dvd_trans G.db a2)
    rw [show y - f1 - (y - f2) = f2 - f1 by omega] at this
    exact Int.emod_eq_zero_of_dvd this
  · obtain ⟨s, t, B⟩ := G.bz (show 0 ≤ s2 by omega) (show 0 ≤ s1 by omega)
    have hd : s1 / g ≤ s1 := Int.ediv_le_self _ (by omega)
    refine .inr ⟨x, s1 / g * s2, rfl, x0, x1, Int.mul_le_mul_of_nonneg_right hd (by omega), fun y => ⟨fun ⟨e1, e2⟩ => ?_, fun e => ?_⟩⟩
    · exact emod_of_sub (lcm_dvd B hg (sub_of_emod (e1.trans x2.symm)) (sub_of_emod (e2.trans x3.symm))) x0 x1
    · have hw : s1 / g * s2 ∣ y - x := sub_of_emod (by rw [e, Int.emod_eq_of_lt x0 x1])
      have w2 : s2 ∣ s1 / g * s2 := Int.dvd_mul_left _ _
      have w1 : s1 ∣ s1 / g * s2 := by rw [lcm_comm G hg]; exact Int.dvd_mul_left _ _
      refine ⟨?_, ?_⟩
      · rw [← x2]
        exact Int.emod_eq_emod_iff_emod_sub_eq_zero.mpr (Int.emod_eq_zero_of_dvd (Int.dvd_trans w1 hw))
      · rw [← x3]
        exact Int.emod_eq_emod_iff_emod_sub_eq_zero.mpr (Int.emod_eq_zero_of_dvd (Int.dvd_trans w2 hw))
abbrev St2 := Int × Int
def Alls (ss : List St2) (x : Int) : Prop := ∀ p ∈ ss, x % p.2 = p.1
def stD (p : St2) : D := .tuple [.int p.1, .int p.2]
def Told (ss : List St2) (d : D) : Prop := (d = .none ∧ ∀ x, ¬ Alls ss x) ∨ ∃ p : St2, d = stD p ∧ 0 ≤ p.1 ∧ p.1 < p.2 ∧ ∀ x, Alls ss x ↔ x % p.2 = p.1
theorem Told.uniq {ss tt : List St2} {d e : D} (h : ∀ x, Alls ss x ↔ Alls tt x) (x : Told ss d) (y : Told tt e) : d = e := by
  rcases x with ⟨rfl, x⟩ | ⟨⟨f, w⟩, rfl, x0, x1, x⟩
  · rcases y with ⟨rfl, _⟩ | ⟨⟨f, w⟩, rfl, y0, y1, y⟩
    · rfl
    · exact absurd ((h f).mpr ((y f).mpr (Int.emod_eq_of_lt y0 y1))) (x f)
  · rcases y with ⟨rfl, y⟩ | ⟨⟨f', w'⟩, rfl, y0, y1, y⟩
    · exact absurd ((h f).mp ((x f).mpr (Int.emod_eq_of_lt x0 x1))) (y f)
    · dsimp only at x x0 x1 y y0 y1
      have key : ∀ z : Int, z % w = f ↔ z % w' = f' := fun z => (x z).symm.trans ((h z).trans (y z))
      have a1 : (f + w) % w' = f' := (key _).mp (by rw [Int.add_emod_right]; exact Int.emod_eq_of_lt x0 x1)
      have a2 : f % w' = f' := (key _).mp (Int.emod_eq_of_lt x0 x1)
      have b1 : (f' + w') % w = f := (key _).mpr (by rw [Int.add_emod_right]; exact Int.emod_eq_of_lt y0 y1)
      have b2 : f' % w = f := (key _).mpr (Int.emod_eq_of_lt y0 y1)
      have d1 : w' ∣ w := by have := sub_of_emod (a1.trans a2.symm); rwa [show f + w - f = w by omega] at this
      have d2 : w ∣ w' := by have := sub_of_emod (b1.trans b2.symm); rwa [show f' + w' - f' = w' by omega] at this
      have := Int.dvd_antisymm (by omega) (by omega) d1 d2
      subst this
      rw [Int.emod_eq_of_lt x0 x1] at a2
      rw [a2]
theorem Told.shp {ss : List St2} {d : D} (h : Told ss d) : M.shp d = true := by
  rcases h with ⟨rfl, _⟩ | ⟨p, rfl, _⟩
  · rfl
  · exact shp_tup (by simp only [List.all_cons, List.all_nil, scal_int, Bool.and_true])
theorem Alls.cons {p : St2} {ss : List St2} {x : Int} : Alls (p :: ss) x ↔ x % p.2 = p.1 ∧ Alls ss x := by
  unfold Alls
  simp
end M

namespace M
open PySem PySem.Spec PyProof.Rows L2
section
variable {X : Cx}
theorem Da.zip {F : Hp} : ∀ {xs : List V} {ds : List D}, Da F xs ds → ∀ q ∈ xs.zip ds, Dt F q.1 q.2
  | [], [], _, q, hq => by simp at hq
  | [], _ :: _, h, _, _ => by cases h
  | _ :: _, [], h, _, _ => by cases h
  | _ :: _, _ :: _, h, q, hq => by
    cases h with
    | cons h1 t =>
      rw [List.zip_cons_cons] at hq
      rcases List.mem_cons.mp hq with rfl | hq
      · exact h1
      · exact Da.zip t q hq
/-! ### list of a text, of a range; tuple of a range -/
def lRg1 (f : Ef) : Lf := fun env => (f env).bind fun r => match r.1 with
  | .int n => if smallI n && fits n.toNat then some (irange 0 n.toNat, r.2) else none
  | _ => none
def eTupRg (f : Ef) : Ef := fun env => (lRg1 f env).map fun r => (.tuple r.1, r.2)
/-! ### xs + ys, xs * k as new lists -/
/-- xs a name: its list may be the def's own -/
def asList : Sl → Option (List D)
  | .own _ xs => some xs
  | .val (.list xs) => some xs
  | _ => none
def listD : D → Option (List D)
  | .list xs => some xs
  | _ => none
def lAddV (i : Nat) (fb : Ef) : Lf := fun env => (eO i env).bind fun _ => (fb env).bind fun q => (listD q.1).bind fun ys => ((q.2[i]?).bind asList).bind fun xs => if fits (xs.length + ys.length) then some (xs ++ ys, q.2) else none
/-- both are values -/
def lAddE (fa fb : Ef) : Lf := fun env => (fa env).bind fun r => (fb r.2).bind fun q => match r.1, q.1 with
  | .list xs, .list ys => if fits (xs.length + ys.length) then some (xs ++ ys, q.2) else none
  | _, _ => none
section
variable {env : En} {fa fb : Ef} {i : Nat}
theorem wl_addO {Q : List D → En → Prop} {b : Bool} {ds0 : List D} (h0 : env[i]? = some (.own b ds0)) (h : WE fb env fun y e' => IsL y fun ys => Own e'[i]? fun _ xs => Fit (xs.length + ys.length) (Q (xs ++ ys) e')) : WL (lAddV i fb) env Q := by
  obtain ⟨y, e', h1, h⟩ := h
  cases y with
  | list ys =>
    obtain ⟨b, xs, h2, h3, q⟩ := h
    exact ⟨_, e', by unfold lAddV; simp [eO, h0, h1, h2, h3, listD, asList], q⟩
  | _ => cases h
theorem wl_addE {Q : List D → En → Prop} (h : WE fa env fun x e => WE fb e fun y e' => IsL x fun xs => IsL y fun ys => Fit (xs.length + ys.length) (Q (xs ++ ys) e')) : WL (lAddE fa fb) env Q := by
  obtain ⟨x, e, h1, y, e', h2, h⟩ := h
  cases x with
  | list xs =>
    cases y with
    | list ys =>
      obtain ⟨h3, q⟩ := h
      exact ⟨_, e', by unfold lAddE; simp [h1, h2, h3], q⟩
    | _ => cases h
  | _ => cases h
theorem wl_rg1 {Q : List D → En → Prop} (h : WE fa env fun x e => IsI x fun n => Sml n (Fit n.toNat (Q (irange 0 n.toNat) e))) : WL (lRg1 fa) env Q := by
  obtain ⟨x, e, h1, h⟩ := h
  cases x with
  | int n =>
    obtain ⟨h2, h3, q⟩ := h
    exact ⟨_, e, by unfold lRg1; simp [h1, h2, h3], q⟩
  | _ => cases h
theorem we_tupRg {Q : D → En → Prop} (h : WL (lRg1 fa) env fun ds e => Q (.tuple ds) e) : WE (eTupRg fa) env Q := by
  obtain ⟨ds, e, h1, q⟩ := h
  exact ⟨_, e, by unfold eTupRg; rw [h1]; rfl, q⟩
end
end
end M

namespace M
open PySem PySem.Spec PyProof.Rows L2
/-! ### own lists looked at as values, for as long as an expression runs whose answer is flat -/
def unown : Sl → Sl
  | .own _ ds => .val (.list ds)
  | .dct _ _ => .no
  | x => x
theorem unown_own {b : Bool} {ds : List D} : unown (.own b ds) = .val (.list ds) := rfl
theorem unown_val {d : D} : unown (.val d) = .val d := rfl
theorem unown_no : unown .no = .no := rfl
theorem unown_ro {ds : List D} : unown (.ro ds) = .ro ds := rfl
theorem unown_dct {w : World} {kvs : List (D × D)} : unown (.dct w kvs) = .no := rfl
def unowns : En → En
  | [] => []
  | x :: xs => unown x :: unowns xs
theorem unowns_nil : unowns [] = [] := rfl
theorem unowns_cons {x : Sl} {xs : En} : unowns (x :: xs) = unown x :: unowns xs := rfl
def eBor (f : Ef) : Ef := fun env => (f (unowns env)).bind fun r => if flatD r.1 then some (r.1, env) else none
def bBor (f : Bf) : Bf := fun env => (f (unowns env)).map fun r => (r.1, env)
section
variable {K : Frg} {G : Gm} {F F' : Hp} {env env' : En} {s : L2.St} {H H' : Hp}
end
section
variable {X : Cx} {e : Expr} {f : Ef} {c : Bf} {env : En}
theorem we_bor {Q : D → En → Prop} (h : Nrm (unowns env) fun e => WE f e fun d _ => flatD d = true ∧ Q d env) : WE (eBor f) env Q := by
  obtain ⟨d, e, h1, h2, q⟩ := h
  exact ⟨d, env, by unfold eBor; rw [h1]; simp [h2], q⟩
theorem wb_bor {Q : Bool → En → Prop} (h : Nrm (unowns env) fun e => WB c e fun b _ => Q b env) : WB (bBor c) env Q := by
  obtain ⟨b, e, h1, q⟩ := h
  exact ⟨b, env, by unfold bBor; rw [h1]; rfl, q⟩
end
/-! ### is, of truths -/
def gIsB : D → D → Option D
  | .bool a, .bool b => some (.bool (decide (a = b)))
  | _, _ => none
def gNtB : D → D → Option D
  | .bool a, .bool b => some (.bool (!decide (a = b)))
  | _, _ => none
theorem wo_isB {a b : Bool} {Q : D → Prop} (q : Q (.bool (decide (a = b)))) : WO (gIsB (.bool a) (.bool b)) Q := ⟨_, rfl, q⟩
theorem wo_ntB {a b : Bool} {Q : D → Prop} (q : Q (.bool (!decide (a = b)))) : WO (gNtB (.bool a) (.bool b)) Q := ⟨_, rfl, q⟩
end M

namespace M
open PySem PySem.Spec PyProof.Rows L2
section
variable {X : Cx}
end
/-! ### a new list made while own lists are looked at -/
mutual
def lfree : D → Bool
  | .none => true
  | .bool _ => true
  | .int _ => true
  | .str _ => true
  | .tuple ds => lfreeA ds
  | _ => false
def lfreeA : List D → Bool
  | [] => true
  | d :: ds => lfree d && lfreeA ds
end
def lBor (f : Lf) : Lf := fun env => (f (unowns env)).bind fun r => if lfreeA r.1 then some (r.1, env) else none
theorem wl_bor {f : Lf} {env : En} {Q : List D → En → Prop} (h : Nrm (unowns env) fun e => WL f e fun ds _ => lfreeA ds = true ∧ Q ds env) : WL (lBor f) env Q := by
  obtain ⟨ds, e, h1, h2, q⟩ := h
  exact ⟨ds, env, by unfold lBor; rw [h1]; simp [h2], q⟩
end M

namespace M
open PySem PySem.Spec PyProof.Rows L2
/-! ### enumerate of a tuple -/
def lEnumA (f : Ef) : Lf := fun env => (f env).bind fun r => match r.1 with
  | .list ds => some (pairs (irange 0 ds.length) ds, r.2)
  | .tuple ds => some (pairs (irange 0 ds.length) ds, r.2)
  | _ => none
theorem wl_enumA {f : Ef} {env : En} {Q : List D → En → Prop} (h : WE f env fun x e => IsS x fun ds => Q (pairs (irange 0 ds.length) ds) e) : WL (lEnumA f) env Q := by
  obtain ⟨x, e, h1, h⟩ := h
  cases x with
  | list ds => exact ⟨_, e, by unfold lEnumA; rw [h1]; rfl, h⟩
  | tuple ds => exact ⟨_, e, by unfold lEnumA; rw [h1]; rfl, h⟩
  | _ => cases h
end M

namespace M
open PySem PySem.Spec PyProof.Rows L2
/-! ### a tuple told with a new list at its end, and the list changed by the one who asked -/
def unT : List Ar → Option (List D × Nat)
  | [] => none
  | .r i :: as => match as with
    | [] => some ([], i)
    | _ :: _ => none
  | .v d :: as => (unT as).map fun r => (d :: r.1, r.2)
  | .o _ :: _ => none
def sRetT (fa : Af) : Sf := fun env => (fa env).bind fun r => (unT r.1).bind fun q => match r.2[q.2]? with
  | some (.own true ds) => if fits (q.1.length + 1) then some (.rp q.1 ds (r.2.set q.2 .no)) else none
  | _ => none
section
variable {X : Cx} {K : Frg} {st : Stmt} {rest es : List Stmt} {e a b : Expr} {f g : Sf} {fe fa fb : Ef} {pos : Pos}
end
section
variable {P : Program} {w : World} {K : Frg} {mg : Str → Option Value} {base : Heap}
end
/-! the one who asked: slot i holds what was told -/
abbrev Td := En → List D → List D → Option Out
section
variable {K : Frg} {G : Gm} {F : Hp} {env : En} {s : L2.St} {H H' : Hp} {i : Nat}
end
section
variable {X : Cx} {K : Frg} {st : Stmt} {rest sts : List Stmt} {e a b : Expr} {f : Sf} {fe : Ef} {pos : Pos} {i : Nat}
/-- from here on it is a value -/
def tdP (i : Nat) (f : Sf) : Td := fun env as ds => f (env.set i (.val (.tuple (as ++ [.list ds]))))
/-! statements that only look: they go on or hand back something flat -/
abbrev Gpu := En → Option (Option D)
def pNil : Gpu := fun _ => some none
def pSeq (f g : Gpu) : Gpu := fun env => (f env).bind fun r => match r with
  | none => g env
  | some d => some (some d)
def pRet (f : Ef) : Gpu := fun env => (eBor f env).map fun r => some r.1
def pIf (c : Bf) (f g : Gpu) : Gpu := fun env => (bBor c env).bind fun r => if r.1 then f env else g env
/-- a look at what was told, the told tuple a value for so long -/
def lookT (i : Nat) (env : En) (as ds : List D) : En := unowns (env.set i (.val (.tuple (as ++ [.list ds]))))
def tdG (i : Nat) (fp : Gpu) (fr : Td) : Td := fun env as ds => (fp (lookT i env as ds)).bind fun r => match r with
  | none => fr env as ds
  | some d => if flatD d then some (.rt d env) else none
/-- a parting -/
def thenS (fr : Sf) : Out → Option Out
  | .nx env1 => fr env1
  | o => some o
def tdIf (i : Nat) (c : Bf) (fa fb : Td) (fr : Sf) : Td := fun env as ds => (c (lookT i env as ds)).bind fun r => (if r.1 then fa env as ds else fb env as ds).bind (thenS fr)
/-! a whole number written down -/
/-- y = list(x[j]) -/
def tdK (i ik : Nat) (j : Int) (fr : Td) : Td := fun env as ds => if ixN (as.length + 1) j = some as.length ∧ ik ≠ i then fr (env.set ik (.val (.list ds))) as ds else none
def tdA (i : Nat) (j c : Int) (fr : Td) : Td := fun env as ds => if ixN (as.length + 1) j = some as.length ∧ fits (ds.length + 1) = true then fr env as (ds ++ [.int c]) else none
def tdC (i : Nat) (j : Int) (fr : Td) : Td := fun env as ds => if ixN (as.length + 1) j = some as.length then fr env as [] else none
/-- a, b = x: the list is the def's own -/
def tdU (i ia ib : Nat) (f : Sf) : Td := fun env as ds => match as with
  | [d] => if ia ≠ i ∧ ib ≠ i then f ((env.set ia (.val d)).set ib (.own true ds)) else none
  | _ => none
end
/-! what it leaves -/
def RetT (ars : List Ar) (e : En) (R : D → En → Prop) : Prop := ∃ as i ds, unT ars = some (as, i) ∧ e[i]? = some (.own true ds) ∧ fits (as.length + 1) = true ∧ R (.tuple (as ++ [.list ds])) (e.set i .no)
section
variable {env : En} {N : En → Prop} {R : D → En → Prop} {L : List D → En → Prop} {i ik : Nat} {as ds : List D} {j c : Int} {Q : Po} {A : Prop} {B : D → Prop}
theorem ws_retT {fa : Af} (h : WA fa env fun ars e => RetT ars e R) : WS (sRetT fa) env ⟨N, R, L⟩ := by
  obtain ⟨ars, e, h1, as, i, ds, h2, h3, h4, q⟩ := h
  exact ⟨.rp as ds (e.set i .no), by unfold sRetT; simp only [h1, h2, h3, h4, Option.bind_some, if_true], q⟩
theorem retT1 {a : D} (h : env[i]? = some (.own true ds)) (q : Nrm (env.set i .no) (R (.tuple [a, .list ds]))) : RetT [.v a, .r i] env R := ⟨[a], i, ds, rfl, h, rfl, q⟩
theorem retT2 {a b : D} (h : env[i]? = some (.own true ds)) (q : Nrm (env.set i .no) (R (.tuple [a, b, .list ds]))) : RetT [.v a, .v b, .r i] env R := ⟨[a, b], i, ds, rfl, h, rfl, q⟩
def WTd (f : Td) (env : En) (as ds : List D) (Q : Po) : Prop := ∃ o, f env as ds = some o ∧ Q.at o
def WPu (f : Gpu) (env : En) (A : Prop) (B : D → Prop) : Prop := ∃ r, f env = some r ∧ match r with
  | none => A
  | some d => B d
theorem wpu_nil (q : A) : WPu pNil env A B := ⟨none, rfl, q⟩
theorem wpu_seq {f g : Gpu} (h : WPu f env (WPu g env A B) B) : WPu (pSeq f g) env A B := by
  obtain ⟨r, h1, h2⟩ := h
  cases r with
  | none => obtain ⟨r, h3, q⟩ := h2; exact ⟨r, by unfold pSeq; rw [h1]; exact h3, q⟩
  | some d => exact ⟨some d, by unfold pSeq; rw [h1]; rfl, h2⟩
theorem wpu_ret {f : Ef} (h : WE (eBor f) env fun d _ => B d) : WPu (pRet f) env A B := by
  obtain ⟨d, e, h1, q⟩ := h
  exact ⟨some d, by unfold pRet; rw [h1]; rfl, q⟩
theorem wpu_if {c : Bf} {f g : Gpu} (h : WB (bBor c) env fun b _ => IfB b (WPu f env A B) (WPu g env A B)) : WPu (pIf c f g) env A B := by
  obtain ⟨b, e, h1, h2⟩ := h
  cases b with
  | true => obtain ⟨r, h3, q⟩ : WPu f env A B := h2; exact ⟨r, by unfold pIf; rw [h1]; exact h3, q⟩
  | false => obtain ⟨r, h3, q⟩ : WPu g env A B := h2; exact ⟨r, by unfold pIf; rw [h1]; exact h3, q⟩
theorem wtd_P {f : Sf} (h : Nrm (env.set i (.val (.tuple (as ++ [.list ds])))) fun e => WS f e Q) : WTd (tdP i f) env as ds Q := h
theorem wtd_G {fp : Gpu} {fr : Td} (h : Nrm (unowns (env.set i (.val (.tuple (as ++ [.list ds]))))) fun e => WPu fp e (WTd fr env as ds ⟨N, R, L⟩) fun d => flatD d = true ∧ R d env) : WTd (tdG i fp fr) env as ds ⟨N, R, L⟩ := by
  obtain ⟨r, h1, h2⟩ : WPu fp (lookT i env as ds) (WTd fr env as ds ⟨N, R, L⟩) fun d => flatD d = true ∧ R d env := h
  cases r with
  | none => obtain ⟨o, h3, q⟩ := h2; exact ⟨o, by unfold tdG; rw [h1]; exact h3, q⟩
  | some d => exact ⟨.rt d env, by unfold tdG; rw [h1]; simp only [Option.bind_some, h2.1, if_true], h2.2⟩
theorem wtd_If {gc : Bf} {fa fb : Td} {fr : Sf} (h : Nrm (unowns (env.set i (.val (.tuple (as ++ [.list ds]))))) fun e => WB (bBor gc) e fun b _ => IfB b (WTd fa env as ds ⟨fun e => WS fr e ⟨N, R, L⟩, R, L⟩) (WTd fb env as ds ⟨fun e => WS fr e ⟨N, R, L⟩, R, L⟩)) : WTd (tdIf i (bBor gc) fa fb fr) env as ds ⟨N, R, L⟩ := by
  obtain ⟨b, e, h1, h2⟩ : WB (bBor gc) (lookT i env as ds) fun b _ => IfB b (WTd fa env as ds ⟨fun e => WS fr e ⟨N, R, L⟩, R, L⟩) (WTd fb env as ds ⟨fun e => WS fr e ⟨N, R, L⟩, R, L⟩) := h
  have fin : ∀ o, (⟨fun e => WS fr e ⟨N, R, L⟩, R, L⟩ : Po).at o → ∃ o', thenS fr o = some o' ∧ (⟨N, R, L⟩ : Po).at o' := fun o q => by
    cases o with
    | nx e => exact q
    | rt d e => exact ⟨_, rfl, q⟩
    | rn d e => exact ⟨_, rfl, q⟩
    | rp d d2 e => exact ⟨_, rfl, q⟩
  cases b with
  | true =>
    obtain ⟨o, h3, q⟩ : WTd fa env as ds ⟨fun e => WS fr e ⟨N, R, L⟩, R, L⟩ := h2
    obtain ⟨o', h4, q'⟩ := fin o q
    exact ⟨o', by unfold tdIf; rw [h1]; simp only [Option.bind_some, if_true, h3]; exact h4, q'⟩
  | false =>
    obtain ⟨o, h3, q⟩ : WTd fb env as ds ⟨fun e => WS fr e ⟨N, R, L⟩, R, L⟩ := h2
    obtain ⟨o', h4, q'⟩ := fin o q
    exact ⟨o', by unfold tdIf; rw [h1]; simp only [Option.bind_some, Bool.false_eq_true, if_false, h3]; exact h4, q'⟩
theorem wtd_K {fr : Td} (h : ixN (as.length + 1) j = some as.length ∧ ik ≠ i) (q : Nrm (env.set ik (.val (.list ds))) fun e => WTd fr e as ds Q) : WTd (tdK i ik j fr) env as ds Q := by
  obtain ⟨o, h1, q⟩ : WTd fr (env.set ik (.val (.list ds))) as ds Q := q
  exact ⟨o, by unfold tdK; rw [if_pos h]; exact h1, q⟩
theorem wtd_A {fr : Td} (h : ixN (as.length + 1) j = some as.length) (hf : fits (ds.length + 1) = true) (q : WTd fr env as (ds ++ [.int c]) Q) : WTd (tdA i j c fr) env as ds Q := by
  obtain ⟨o, h1, q⟩ := q
  exact ⟨o, by unfold tdA; rw [if_pos ⟨h, hf⟩]; exact h1, q⟩
theorem wtd_C {fr : Td} (h : ixN (as.length + 1) j = some as.length) (q : WTd fr env as [] Q) : WTd (tdC i j fr) env as ds Q := by
  obtain ⟨o, h1, q⟩ := q
  exact ⟨o, by unfold tdC; rw [if_pos h]; exact h1, q⟩
theorem wtd_U {f : Sf} {ia ib : Nat} {d : D} (h : ia ≠ i ∧ ib ≠ i) (q : Nrm ((env.set ia (.val d)).set ib (.own true ds)) fun e => WS f e Q) : WTd (tdU i ia ib f) env [d] ds Q := by
  obtain ⟨o, h1, q⟩ : WS f ((env.set ia (.val d)).set ib (.own true ds)) Q := q
  exact ⟨o, by unfold tdU; dsimp only; rw [if_pos h]; exact h1, q⟩
end
/-! what a body hands back that isn't told -/
section
variable {p : D → Prop} {f g : Sf}
end
end M

namespace M
open PySem PySem.Spec PyProof.Rows L2
/-! ### a new list handed in to be changed, and forgotten -/
def valsA : List Ar → Option (List D)
  | [] => some []
  | .v d :: as => (valsA as).map fun r => d :: r
  | _ :: _ => none
def eCallN (g : Gf) (fl : Lf) (fa : Af) : Ef := fun env => (fl env).bind fun r => (fa r.2).bind fun q => (valsA q.1).bind fun ds => (g (.own false r.1 :: ds.map .val)).map fun w => (w.1, q.2)
section
variable {X : Cx} {k : Nat} {fx : Addr} {fd : FuncData} {ps : List Str} {x : Str} {p pos : Pos} {e : Expr} {es : List Expr} {fa : Af} {fl : Lf} {g : Gf}
end
theorem we_callN {env : En} {g : Gf} {fl : Lf} {fa : Af} {Q : D → En → Prop} (h : WL fl env fun ls e => WA fa e fun ars e2 => WO (valsA ars) fun ds => WG g (.own false ls :: ds.map .val) fun d _ => Q d e2) : WE (eCallN g fl fa) env Q := by
  obtain ⟨ls, e1, h1, ars, e2, h2, ds, h3, d, a', h4, q⟩ := h
  exact ⟨d, e2, by unfold eCallN; simp only [h1, h2, h3, h4, Option.bind_some, Option.map_some], q⟩
theorem vals_nil {Q : List D → Prop} (q : Q []) : WO (valsA []) Q := ⟨_, rfl, q⟩
theorem vals_v {d : D} {as : List Ar} {Q : List D → Prop} (h : WO (valsA as) fun ds => Q (d :: ds)) : WO (valsA (.v d :: as)) Q := by
  obtain ⟨ds, h1, q⟩ := h
  exact ⟨_, by unfold valsA; rw [h1]; rfl, q⟩
end M

namespace M
open PySem PySem.Spec PyProof.Rows L2

/-! ### refusals: a def that may raise -/
/-- an exception: its class, the field it bears -/
structure Xc where
  C : Addr
  fd : Option (Str × Int)
/-- it as a value, once it is caught -/
def xD (x : Xc) : D := .dict [(.int (x.C : Int), match x.fd with
  | none => .none
  | some p => .tuple [.str p.1, .int p.2])]
/-- how it lies while it flies: its dict is newer than H0 -/
def IsX (H0 F H : Hp) (x : Xc) (cls : Value) (d : Option Addr) : Prop := cls = .ref x.C ∧ match x.fd with
  | none => d = none
  | some p => ∃ a, d = some a ∧ H a = some (.xd [(p.1, .int p.2)]) ∧ F a = none ∧ H0 a = none
abbrev Ox := Out ⊕ (Xc × En)
abbrev Sfx := En → Option Ox
abbrev Efx := En → Option ((D × En) ⊕ (Xc × En))
def RSX (K : Frg) (G : Gm) (F : Hp) (E : Ends) (W : WX) : Ox → Prop
  | .inl o => RSx K G F E o
  | .inr (x, env) => ∀ F' s' H' cls d, Ok K G F' env s' H' → Same F F' → IsX G.H0 F' H' x cls d → W cls d s' H'
theorem RSX.up {K : Frg} {G : Gm} {F F' : Hp} {E : Ends} {W : WX} {o : Ox} (s : Same F F') (h : RSX K G F E W o) : RSX K G F' E W o := by
  cases o with
  | inl o => exact RSx.up (F := F) s h
  | inr p =>
    obtain ⟨x, env⟩ := p
    exact fun F2 s2 H2 cls d k e q => h F2 s2 H2 cls d k (s.trans e) q
section
variable {X : Cx}
theorem PS.imp {st : Stmt} {t u : TS} (h : PS X st t) (i : ∀ D s H, u D s H → t D s H) : PS X st u := ⟨fun pins s σ H D I q => h.run pins s σ H D I (i D σ H q)⟩
theorem PSs.imp {st : List Stmt} {t u : TS} (h : PSs X st t) (i : ∀ D s H, u D s H → t D s H) : PSs X st u := ⟨fun pins s σ H D I q => h.run pins s σ H D I (i D σ H q)⟩
theorem PE.imp {e : Expr} {t u : TE} (h : PE X e t) (i : ∀ s H Q, u s H Q → t s H Q) : PE X e u := ⟨fun pins s σ H Q I q => h.run pins s σ H Q I (i σ H Q q)⟩
variable {W : WX} {st : Stmt} {rest : List Stmt} {e : Expr} {f g : Sf} {fx gx : Sfx} {fe : Efx} {pos : Pos}
def sLift (f : Sf) : Sfx := fun env => (f env).map .inl
def sSeqX (f g : Sfx) : Sfx := fun env => (f env).bind fun o => match o with
  | .inl (.nx env1) => g env1
  | o => some o
def sIfX (c : Bf) (f g : Sfx) : Sfx := fun env => (c env).bind fun r => if r.1 then f r.2 else g r.2
/-! ### raise X('..') -/
structure Xo (K : Frg) (mg : Str → Option Value) (nm : Str) (C : Addr) : Prop where
  m : mg nm = some (.ref C)
  x : PySem.W.excIn K C [.type "ValueError", .type "Exception", .type "BaseException", .type "object"] "ValueError.__new__" = true
  k : PySem.W.keepIn K (.ref C) = true
  b : PySem.W.subIn K (.ref C) (.type "BaseException") = some true
  t : PySem.W.typeIn K (.ref C) = some (.type "type")
def sRaise0 (C : Addr) : Sfx := fun env => some (.inr (⟨C, none⟩, env))
/-! ### a def that may raise -/
abbrev Gfx := List Sl → Option ((D × List Sl) ⊕ (Xc × List Sl))
section
variable {P : Program} {w : World} {K : Frg} {mg : Str → Option Value} {base : Heap}
end

/-! ### its call -/
def eCallX (g : Gfx) (fa : Af) : Efx := fun env => (fa env).bind fun r => match rSlots r.1 with
  | [] => (resArs r.2 r.1).bind fun args => (g args).map fun q => match q with
    | .inl (d, _) => .inl (d, r.2)
    | .inr (x, _) => .inr (x, r.2)
  | _ => none
def eUp (f : Efx) (h : D → En → Out) : Sfx := fun env => (f env).map fun r => match r with
  | .inl (d, e) => .inl (h d e)
  | .inr p => .inr p
def sExprX (f : Efx) : Sfx := eUp f fun _ e => .nx e
def sRetX (f : Efx) : Sfx := eUp f fun d e => .rt d e
def sSetX (i : Nat) (f : Efx) : Sfx := eUp f fun d e => .nx (e.set i (.val d))
/-! ### for, in a def that may raise -/
end

/-! ### except D as e: in the suite e is a value -/
section
variable {X : Cx} {x n : Str} {CD : Addr} {i : Nat} {body sts : List Stmt} {st0 : Stmt} {np pos pos' : Pos} {tb : WX → TS} {ts : TS}
end
/-- a caught exception lies as a value -/
theorem ok_caught {K : Frg} {G : Gm} {F : Hp} {env : En} {s : L2.St} {H : Hp} {x : Xc} {cls : Value} {d : Option Addr} {p : Addr} (k : Ok K G F env s H) (h : IsX G.H0 F H x cls d) (hp : H p = none) : ∃ F', Ok K G F' env s (upd H p (ExV x.C d p)) ∧ Same F F' ∧ Dt F' (.ref p) (xD x) := by
  obtain ⟨C, fd⟩ := x
  obtain ⟨_, h2⟩ := h
  cases fd with
  | none =>
    cases (show d = none from h2)
    exact ⟨_, k.alloc hp, same_upd (k.fr.free hp), .xc upd_same⟩
  | some q =>
    obtain ⟨f, z⟩ := q
    obtain ⟨b, rfl, h3, h4, h5⟩ := h2
    have k1 := k.freeze h3 h4 h5 (fun j l es e y => by
      obtain ⟨a, vs, g1, g2, _⟩ := k.own j l es e
      rw [y] at g1
      cases g1
      rw [h3] at g2
      cases g2) (k.notdct h3 fun _ h => nomatch h)
    have s1 : Same F (upd F b (.xd [(f, .int z)])) := same_upd h4
    have s2 : Same (upd F b (.xd [(f, .int z)])) (upd (upd F b (.xd [(f, .int z)])) p (ExV C (some b) p)) := same_upd (k1.fr.free hp)
    exact ⟨_, k1.alloc hp, s1.trans s2, .xf upd_same (s2 _ _ upd_same)⟩
/-- a reading that hangs on the mirror alone -/
def cS (K : Frg) (f : Sf) : TS := fun E s H => ∃ G F env o, Ok K G F env s H ∧ f env = some o ∧ RSx K G F E o
theorem XSs.can {X : Cx} {sts : List Stmt} {f : Sf} (h : XSs X sts f) : PSs X sts (cS X.K f) := by
  obtain ⟨t, h1, h2⟩ := h.ex
  exact PSs.imp h1 fun E s H ⟨G, F, env, o, k, e, q⟩ => h2 G F env s H o k e E q
def outNo (i : Nat) : Out → Out
  | .nx env => .nx (env.set i .no)
  | o => o
def sTry (cat : Addr → Bool) (i : Nat) (f : Sfx) (g : Sf) : Sf := fun env => (f env).bind fun r => match r with
  | .inl o => some o
  | .inr (x, env1) => if cat x.C then (g (env1.set i (.val (xD x)))).map (outNo i) else none
section
variable {X : Cx} {x n : Str} {CD : Addr} {body sts : List Stmt} {st0 : Stmt} {np pos pos' : Pos} {f : Sfx} {g : Sf}
end

/-! ### isinstance and fields of a caught exception -/
/-- the class at D of what d says, for isinstance -/
def tyX : D → Option Value
  | .dict [(.int c, _)] => some (.ref c.toNat)
  | .dict _ => none
  | d => some (.type (tyD d))
/-- what isinstance asks of it -/
theorem kit_dt {X : Cx} {F H : Hp} {pins : List (Addr × Obj)} {sg : L2.St} {sh : Shared} {v : V} {u t : Value} {d : D} (iv : Inv X pins sg H sh) (k : Same F H) (hE : ∀ C, t = .ref C → ExcC X.K C) (h : Dt F v d) (ht : tyX d = some t) (r : RelV v u) :
    ∃ P : Heap → Prop, PySem.W.KitX X.K u t P ∧ P sh.heap ∧ u ≠ .builtin "__main__.__loader__#opaque" := by
  have base : TyX X.K H v t → ∃ P : Heap → Prop, PySem.W.KitX X.K u t P ∧ P sh.heap ∧ u ≠ .builtin "__main__.__loader__#opaque" := fun y => kit_of iv r y
  have exc : ∀ {a C : Addr} {dd : Option Addr}, v = .ref a → t = .ref C → F a = some (ExV C dd a) → (dd = none ∨ ∃ b f z, dd = some b ∧ F b = some (.xd [(f, .int z)])) → ∃ P : Heap → Prop, PySem.W.KitX X.K u t P ∧ P sh.heap ∧ u ≠ .builtin "__main__.__loader__#opaque" := fun {a C dd} hv ht' ha hd => by
    subst hv ht'
    cases (show u = Value.ref a from r)
    have T := hE C rfl
    obtain ⟨⟨oe, vs, e1, e2, e3⟩, _, _⟩ := iv.hok a _ (k _ _ ha)
    obtain ⟨cd, hcd⟩ := PySem.W.any_some T.hd
    have mk : ∀ {od : Option Obj}, PySem.W.InstAt sh.heap a oe C od → ∃ P : Heap → Prop, PySem.W.KitX X.K (.ref a) (.ref C) P ∧ P sh.heap ∧ Value.ref a ≠ .builtin "__main__.__loader__#opaque" := fun J =>
      ⟨_, PySem.W.kitx_exc (by rw [hcd.1]; rfl) T.hg T.hk T.hs T.ha T.hn T.ht T.hm, J, fun z => nomatch z⟩
    rcases hd with rfl | ⟨b, f, z, rfl, hb⟩
    · exact mk (od := none) ⟨e1, e2.1, by unfold PySem.W.notCls; rw [e3] <;> rfl, by rw [e2.2]; trivial⟩
    · obtain ⟨mA, hns, _⟩ := show ObjOk X.prog X.w H sh.heap b (.xd [(f, .int z)]) from iv.hok b _ (k _ _ hb)
      obtain ⟨od, ho, _⟩ := lookIn_ns hns
      exact mk (od := some od) ⟨e1, e2.1, by unfold PySem.W.notCls; rw [e3] <;> rfl, by rw [e2.2]; exact ho⟩
  cases h with
  | non => cases ht; exact base (.base .non)
  | bl b => cases ht; exact base (.base (.bl b))
  | int i => cases ht; exact base (.base (.int i))
  | str x => cases ht; exact base (.base (.str x))
  | lst a b => cases ht; exact base (.base (.lst (k _ _ a)))
  | tup a b => cases ht; exact base (.base (.tup (k _ _ a)))
  | xc ha => cases ht; exact exc rfl rfl ha (.inl rfl)
  | xf ha hb => cases ht; exact exc rfl rfl ha (.inr ⟨_, _, _, rfl, hb⟩)
  | dic _ _ _ => cases ht
def rIsD (K : Frg) : List V → Hp → VK → Prop := fun xs H Q => ∃ (x c : V) (cv t : Value) (d : D) (F : Hp) (b : Bool), xs = [x, c] ∧ ClsV c cv ∧ Same F H ∧ Dt F x d ∧ tyX d = some t ∧ (∀ C, t = .ref C → ExcC K C) ∧ PySem.W.kitOne K t cv = some b ∧ Q (.bl b) H
theorem call_isD {X : Cx} : CallR X (.builtin "isinstance") (rIsD X.K) := by
  rintro pins s σ H xs us Q I r ⟨x, c, cv, t, d, F, b, rfl, hc, fr, hd, ht, hE, hk, q⟩
  obtain _ | ⟨rx, _ | ⟨rc, rr⟩⟩ := r
  cases rr
  cases hc.eq rc
  obtain ⟨P, Z, hp, hx⟩ := kit_dt I fr hE hd ht rx
  exact PySem.W.kia_one Z I.kIn hp hk hx fun tk => ⟨.bl b, H, I.tok tk, rfl, q⟩
/-- what is told of an exception, by its class; of None it is no -/
def gIsO (tab : List (Addr × Bool)) : D → Option D
  | .none => some (.bool false)
  | .dict [(.int c, _)] => (tab.lookup c.toNat).map .bool
  | _ => none
/-- the classes' answers for one class cv, or for a row of them -/
def TabOk (K : Frg) (tab : List (Addr × Bool)) (cv : Value) : Prop := PySem.W.kitOne K (.type "NoneType") cv = some false ∧ ∀ r ∈ tab, ExcC K r.1 ∧ PySem.W.kitOne K (.ref r.1) cv = some r.2
def TabsOk (K : Frg) (tab : List (Addr × Bool)) (cvs : List Value) : Prop := PySem.W.kitAny K (.type "NoneType") cvs = some false ∧ ∀ r ∈ tab, ExcC K r.1 ∧ PySem.W.kitAny K (.ref r.1) cvs = some r.2
theorem lookup_mem {tab : List (Addr × Bool)} {C : Addr} {b : Bool} (h : tab.lookup C = some b) : (C, b) ∈ tab := by
  induction tab with
  | nil => cases h
  | cons r tab ih =>
    obtain ⟨C', b'⟩ := r
    rw [List.lookup_cons] at h
    split at h
    · rename_i e
      cases h
      rw [eq_of_beq e]
      exact List.mem_cons_self
    · exact List.mem_cons_of_mem _ (ih h)
theorem gIsO_of {K : Frg} {F : Hp} {v : V} {tab : List (Addr × Bool)} {d z : D} (hE : ∀ r ∈ tab, ExcC K r.1) (h : gIsO tab d = some z) : ∃ t b, z = .bool b ∧ tyX d = some t ∧ (∀ C, t = .ref C → ExcC K C) ∧ ((t = .type "NoneType" ∧ b = false) ∨ ∃ C, (C, b) ∈ tab ∧ t = .ref C) := by
  unfold gIsO at h
  split at h
  · cases h
    exact ⟨_, false, rfl, rfl, fun C z => (by cases z), .inl ⟨rfl, rfl⟩⟩
  · rename_i c q
    obtain ⟨b, h1, h2⟩ := Option.map_eq_some_iff.mp h
    have hm := lookup_mem h1
    exact ⟨_, b, h2.symm, rfl, fun C z => (by cases z; exact hE _ hm), .inr ⟨_, hm, rfl⟩⟩
  · cases h
section
variable {X : Cx} {e : Expr} {f : Ef} {p pos p2 : Pos}
theorem xe_isC {y : Str} {c : V} {cv : Value} (tab : List (Addr × Bool)) (T : TabOk X.K tab cv) (hc : ClsV c cv) (pc : PE X (.Name y p2) (tC c)) (hm : X.mg "isinstance" = none) (ha : XE X e f) (hg : Gl X "isinstance" := by rfl)
    (he : starEach [e, .Name y p2] X.env = (false, eval e X.env) :: starEach [.Name y p2] X.env := by rfl) (he2 : starEach [.Name y p2] X.env = (false, eval (.Name y p2) X.env) :: starEach [] X.env := by rfl) (hpl : (backTo pos (starEach [.Name y p2] X.env)).any (·.1) = false := by rfl) :
    XE X (.Call (.Name "isinstance" p) [e, .Name y p2] [] pos) (eUn (gIsO tab) f) := by
  obtain ⟨t, h1, h2⟩ := ha.ex
  refine ⟨_, pe_callB call_isD hg hm boot_isinstance (pa_cons h1 (pa_cons pc pa_nil he2) he) (by decide) (by decide) he hpl, fun G F env s H d env' k e Q q => ?_⟩
  obtain ⟨d1, h3, h4⟩ := un_some e
  obtain ⟨ty, b, rfl, h5, h6, h7⟩ := gIsO_of (F := F) (v := .non) (fun r hr => (T.2 r hr).1) h4
  refine h2 G F env s H d1 env' k h3 _ fun F1 H1 v1 k1 s1 p1 => ?_
  refine ⟨v1, c, cv, ty, d1, F1, b, rfl, hc, k1.fr, p1, h5, h6, ?_, q F1 H1 _ k1 s1 (.bl _)⟩
  rcases h7 with ⟨rfl, rfl⟩ | ⟨C, hC, rfl⟩
  · exact T.1
  · exact (T.2 _ hC).2
theorem xe_isO {y : Str} {CN : Addr} (tab : List (Addr × Bool)) (T : TabOk X.K tab (.ref CN)) (hmy : X.mg y = some (.ref CN)) (hm : X.mg "isinstance" = none) (ha : XE X e f) (hgy : Gl X y := by rfl) (hdb : (y == ("__debug__" : Str)) = false := by decide) (hg : Gl X "isinstance" := by rfl)
    (he : starEach [e, .Name y p2] X.env = (false, eval e X.env) :: starEach [.Name y p2] X.env := by rfl) (he2 : starEach [.Name y p2] X.env = (false, eval (.Name y p2) X.env) :: starEach [] X.env := by rfl) (hpl : (backTo pos (starEach [.Name y p2] X.env)).any (·.1) = false := by rfl) :
    XE X (.Call (.Name "isinstance" p) [e, .Name y p2] [] pos) (eUn (gIsO tab) f) := xe_isC tab T (.own CN) (pe_glob hgy hmy rfl hdb) hm ha hg he he2 hpl
theorem xe_isVE (tab : List (Addr × Bool)) (T : TabOk X.K tab (.type "ValueError")) (hmy : X.mg "ValueError" = none) (hm : X.mg "isinstance" = none) (ha : XE X e f) (hgy : Gl X "ValueError" := by rfl) (hg : Gl X "isinstance" := by rfl)
    (he : starEach [e, .Name "ValueError" p2] X.env = (false, eval e X.env) :: starEach [.Name "ValueError" p2] X.env := by rfl) (he2 : starEach [.Name "ValueError" p2] X.env = (false, eval (.Name "ValueError" p2) X.env) :: starEach [] X.env := by rfl) (hpl : (backTo pos (starEach [.Name "ValueError" p2] X.env)).any (·.1) = false := by rfl) :
    XE X (.Call (.Name "isinstance" p) [e, .Name "ValueError" p2] [] pos) (eUn (gIsO tab) f) := xe_isC tab T (.ty "ValueError") (pe_bltn (v := .ty "ValueError") hgy hmy L2.boot_ValueError rfl (by decide) (by decide)) hm ha hg he he2 hpl
/-- e.f -/
def gAttr (C : Addr) (n : Str) : D → Option D
  | .dict [(.int c, .tuple [.str g, .int z])] => if decide (c = (C : Int)) && (g == n) then some (.int z) else none
  | _ => none
structure XfOk (K : Frg) (C : Addr) (n : Str) : Prop where
  ga : PySem.W.findIn K (.ref C) "__getattribute__" = some (some (.builtin "BaseException.__getattribute__"))
  gg : PySem.W.findIn K (.ref C) "__getattr__" = some none
  b : PySem.W.subIn K (.ref C) (.type "BaseException") = some true
  d : PySem.W.hasDictIn K C = true
  no : PySem.W.findIn K (.ref C) n = some none
theorem xe_attr {n : Str} {C : Addr} (T : XfOk X.K C n) (ha : XE X e f) (hb : attributeBase e n X.env (eval e X.env) = eval e X.env := by rfl) : XE X (.Attribute e n pos) (eUn (gAttr C n) f) := by
  obtain ⟨t, h1, h2⟩ := ha.ex
  refine ⟨fun s H Q => t s H fun x H1 => ∃ (F : Hp) (d : D) (z : Int), Same F H1 ∧ Dt F x d ∧ gAttr C n d = some (.int z) ∧ Q (.int z) H1, ⟨fun pins s σ H Q I h => ?_⟩, fun G F env s H d env' k e Q q => ?_⟩
  · refine attr_of hb (thn (h1.run pins s σ H _ I h) fun u s1 hh => ?_)
    obtain ⟨x, H1, I1, rx, F, d, z, fr, hd, hz, q⟩ := hh
    unfold gAttr at hz
    split at hz
    · rename_i c g z'
      split at hz
      · rename_i hc
        rw [Bool.and_eq_true, decide_eq_true_eq] at hc
        obtain ⟨rfl, hn⟩ := hc
        cases (eq_of_beq hn)
        cases hz
        obtain ⟨cc, hc'⟩ : ∃ cc : Int, (C : Int) = cc := ⟨_, rfl⟩
        rw [hc'] at hd
        cases hd with
        | @xf a C' dd _ _ ea eb =>
          have : C = C' := Int.ofNat.inj hc'
          subst this
          cases (show u = Value.ref a from rx)
          obtain ⟨⟨oe, vs, e1, e2, e3⟩, _, _⟩ := I1.hok a _ (fr _ _ ea)
          obtain ⟨mA, hns, hr⟩ := show ObjOk X.prog X.w H1 s1.heap dd (.xd [(n, .int z)]) from I1.hok dd _ (fr _ _ eb)
          obtain ⟨od, ho, hl⟩ := lookIn_ns hns
          have l : List.lookup n [(n, V.int z)] = some (.int z) := by simp [List.lookup]
          obtain ⟨u', hu, ru⟩ := RelO.some_of (v := .int z) (o := mA n) (by rw [← l]; exact hr n)
          have J : PySem.W.InstAt s1.heap a oe C (some od) := ⟨e1, e2.1, by unfold PySem.W.notCls; rw [e3] <;> rfl, by rw [e2.2]; exact ho⟩
          exact HandSPX.exc_get I1.kIn J T.ga T.gg T.b (PySem.W.findObj_own T.d T.no rfl (by rw [hl, hu])) (handed_of ru) ⟨.int z, H1, I1.tok _, ru, q⟩
      · cases hz
    · cases hz
  · obtain ⟨d1, h3, h4⟩ := un_some e
    have hz : ∃ z, d = .int z := by
      unfold gAttr at h4
      split at h4
      · split at h4
        · cases h4; exact ⟨_, rfl⟩
        · cases h4
      · cases h4
    obtain ⟨z, rfl⟩ := hz
    exact h2 G F env s H d1 env' k h3 _ fun F1 H1 v1 k1 s1 p1 => ⟨F1, d1, z, k1.fr, p1, h4, q F1 H1 _ k1 s1 (.int _)⟩
end
/-! ### the classes' facts -/
theorem kit_self {K : Frg} {C : Addr} : PySem.W.kitOne K (.ref C) (.ref C) = some true := by
  unfold PySem.W.kitOne
  rw [if_pos (beq_self_eq_true _)]
theorem kit_own {K : Frg} {C : Addr} {t : Value} {b : Bool} (h : PySem.W.subIn K t (.ref C) = some b) (hc : PySem.W.isClsIn K C = true) (ht : PySem.W.typeIn K (.ref C) = some (.type "type")) (ne : (t == Value.ref C) = false) : PySem.W.kitOne K t (.ref C) = some b := by
  have hc' : (PySem.W.clsIn K C).isSome = true := hc
  unfold PySem.W.kitOne PySem.W.kitCls
  rw [ne, if_neg Bool.false_ne_true]
  dsimp only
  rw [hc', ht]
  exact h
theorem kit_blt {K : Frg} {n : String} {t : Value} {b : Bool} (h : PySem.W.subIn K t (.type n) = some b) (hm : PySem.W.kitMeta n = true) (ne : (t == Value.type n) = false) : PySem.W.kitOne K t (.type n) = some b := by
  unfold PySem.W.kitOne PySem.W.kitCls
  rw [ne, if_neg Bool.false_ne_true]
  dsimp only
  rw [if_pos hm]
  exact h
theorem TabOk.nil {K : Frg} {cv : Value} (h : PySem.W.kitOne K (.type "NoneType") cv = some false) : TabOk K [] cv := ⟨h, fun _ z => nomatch z⟩
theorem TabOk.add {K : Frg} {cv : Value} {tab : List (Addr × Bool)} {C : Addr} {b : Bool} (e : ExcC K C) (h : PySem.W.kitOne K (.ref C) cv = some b) (t : TabOk K tab cv) : TabOk K ((C, b) :: tab) cv := ⟨t.1, fun r hr => by
  rcases List.mem_cons.mp hr with rfl | hr
  · exact ⟨e, h⟩
  · exact t.2 r hr⟩
theorem TabsOk.nil {K : Frg} {cvs : List Value} (h : PySem.W.kitAny K (.type "NoneType") cvs = some false) : TabsOk K [] cvs := ⟨h, fun _ z => nomatch z⟩
theorem TabsOk.add {K : Frg} {cvs : List Value} {tab : List (Addr × Bool)} {C : Addr} {b : Bool} (e : ExcC K C) (h : PySem.W.kitAny K (.ref C) cvs = some b) (t : TabsOk K tab cvs) : TabsOk K ((C, b) :: tab) cvs := ⟨t.1, fun r hr => by
  rcases List.mem_cons.mp hr with rfl | hr
  · exact ⟨e, h⟩
  · exact t.2 r hr⟩
end M

namespace M
open PySem PySem.Spec PyProof.Rows L2
/-! ### rules about the mirrors of what may raise -/
structure Px where
  n : En → Prop
  r : D → En → Prop
  l : List D → En → Prop
  x : Xc → En → Prop
def Px.at (Q : Px) : Ox → Prop
  | .inl o => Po.at ⟨Q.n, Q.r, Q.l⟩ o
  | .inr (x, e) => Q.x x e
def WSX (f : Sfx) (env : En) (Q : Px) : Prop := ∃ o, f env = some o ∧ Q.at o
def WEX (f : Efx) (env : En) (Q : D → En → Prop) (X : Xc → En → Prop) : Prop := ∃ o, f env = some o ∧ match o with
  | .inl (d, e) => Q d e
  | .inr (x, e) => X x e
def WGX (g : Gfx) (args : List Sl) (Q : D → List Sl → Prop) (X : Xc → Prop) : Prop := ∃ o, g args = some o ∧ match o with
  | .inl (d, a) => Q d a
  | .inr (x, _) => X x
def CallGX (g : Gfx) (as : List Ar) (e : En) (Q : D → En → Prop) (X : Xc → En → Prop) : Prop := rSlots as = [] ∧ WO (resArs e as) fun args => WGX g args (fun d _ => Q d e) fun x => X x e
section
variable {env : En} {N : En → Prop} {R : D → En → Prop} {L : List D → En → Prop} {X : Xc → En → Prop} {f g : Sfx} {fe : Efx} {c : Bf} {i : Nat}
theorem WGX.mono {g : Gfx} {as : List Sl} {Q Q' : D → List Sl → Prop} {X X' : Xc → Prop} (h : WGX g as Q X) (m1 : ∀ d a, Q d a → Q' d a) (m2 : ∀ x, X x → X' x) : WGX g as Q' X' := by
  obtain ⟨o, h1, h2⟩ := h
  refine ⟨o, h1, ?_⟩
  cases o with
  | inl o => exact m1 _ _ h2
  | inr o => exact m2 _ h2
theorem wsx_lift {f : Sf} (h : WS f env ⟨N, R, L⟩) : WSX (sLift f) env ⟨N, R, L, X⟩ := by
  obtain ⟨o, h1, h2⟩ := h
  exact ⟨.inl o, by unfold sLift; rw [h1]; rfl, h2⟩
theorem wsx_seq (h : WSX f env ⟨fun e => WSX g e ⟨N, R, L, X⟩, R, L, X⟩) : WSX (sSeqX f g) env ⟨N, R, L, X⟩ := by
  obtain ⟨o, h1, h2⟩ := h
  cases o with
  | inr p => exact ⟨.inr p, by unfold sSeqX; rw [h1]; rfl, h2⟩
  | inl o =>
    cases o with
    | nx e =>
      obtain ⟨o, h3, h4⟩ : WSX g e ⟨N, R, L, X⟩ := h2
      exact ⟨o, by unfold sSeqX; rw [h1]; exact h3, h4⟩
    | rt d e => exact ⟨.inl (.rt d e), by unfold sSeqX; rw [h1]; rfl, h2⟩
    | rn d e => exact ⟨.inl (.rn d e), by unfold sSeqX; rw [h1]; rfl, h2⟩
    | rp as ds e => exact ⟨.inl (.rp as ds e), by unfold sSeqX; rw [h1]; rfl, h2⟩
theorem wsx_if (h : WB c env fun b e => IfB b (WSX f e ⟨N, R, L, X⟩) (WSX g e ⟨N, R, L, X⟩)) : WSX (sIfX c f g) env ⟨N, R, L, X⟩ := by
  obtain ⟨b, e, h1, h2⟩ := h
  cases b with
  | true => obtain ⟨o, h3, q⟩ : WSX f e ⟨N, R, L, X⟩ := h2; exact ⟨o, by unfold sIfX; rw [h1]; exact h3, q⟩
  | false => obtain ⟨o, h3, q⟩ : WSX g e ⟨N, R, L, X⟩ := h2; exact ⟨o, by unfold sIfX; rw [h1]; exact h3, q⟩
theorem wsx_raise0 {C : Addr} (h : X ⟨C, none⟩ env) : WSX (sRaise0 C) env ⟨N, R, L, X⟩ := ⟨_, rfl, h⟩
theorem wsx_up {h : D → En → Out} {Q : Px} (w : WEX fe env (fun d e => Q.at (.inl (h d e))) Q.x) : WSX (eUp fe h) env Q := by
  obtain ⟨o, h1, h2⟩ := w
  cases o with
  | inl o => exact ⟨.inl (h o.1 o.2), by unfold eUp; rw [h1]; rfl, h2⟩
  | inr o => exact ⟨.inr o, by unfold eUp; rw [h1]; rfl, h2⟩
theorem wsx_expr (h : WEX fe env (fun _ e => N e) X) : WSX (sExprX fe) env ⟨N, R, L, X⟩ := wsx_up h
theorem wsx_ret (h : WEX fe env R X) : WSX (sRetX fe) env ⟨N, R, L, X⟩ := wsx_up h
theorem wsx_set (h : WEX fe env (fun d e => Nrm (e.set i (.val d)) N) X) : WSX (sSetX i fe) env ⟨N, R, L, X⟩ := wsx_up h
theorem wex_call {g : Gfx} {fa : Af} {Q : D → En → Prop} (h : WA fa env fun as e => CallGX g as e Q X) : WEX (eCallX g fa) env Q X := by
  obtain ⟨as, e, h1, h2, args, h3, o, h4, h5⟩ := h
  cases o with
  | inl o => exact ⟨.inl (o.1, e), by unfold eCallX; simp [h1, h2, h3, h4], h5⟩
  | inr o => exact ⟨.inr (o.1, e), by unfold eCallX; simp [h1, h2, h3, h4], h5⟩
theorem cgx0 {g : Gfx} {as : List Ar} {Q : D → En → Prop} (hr : rSlots as = []) (h : WO (resArs env as) fun args => WGX g args (fun d _ => Q d env) fun x => X x env) : CallGX g as env Q X := ⟨hr, h⟩
theorem ws_try {cat : Addr → Bool} {g : Sf} (h : WSX f env ⟨N, R, L, fun x e => cat x.C = true ∧ WS g (e.set i (.val (xD x))) ⟨fun e => N (e.set i .no), R, L⟩⟩) : WS (sTry cat i f g) env ⟨N, R, L⟩ := by
  obtain ⟨o, h1, h2⟩ := h
  cases o with
  | inl o => exact ⟨o, by unfold sTry; rw [h1]; rfl, h2⟩
  | inr o =>
    obtain ⟨x, e⟩ := o
    obtain ⟨h3, o, h4, h5⟩ : cat x.C = true ∧ WS g (e.set i (.val (xD x))) ⟨fun e => N (e.set i .no), R, L⟩ := h2
    refine ⟨outNo i o, by unfold sTry; rw [h1]; simp [h3, h4], ?_⟩
    cases o <;> exact h5
theorem wo_isO {tab : List (Addr × Bool)} {x : Xc} {b : Bool} {Q : D → Prop} (h : tab.lookup x.C = some b) (q : Q (.bool b)) : WO (gIsO tab (xD x)) Q := ⟨_, by
  unfold gIsO xD
  obtain ⟨C, fd⟩ := x
  have : (Int.toNat (C : Int)) = C := rfl
  simp only [this, h]
  rfl, q⟩
theorem wo_isON {tab : List (Addr × Bool)} {Q : D → Prop} (q : Q (.bool false)) : WO (gIsO tab .none) Q := ⟨_, rfl, q⟩
theorem wo_attr {C : Addr} {n : Str} {z : Int} {Q : D → Prop} (q : Q (.int z)) : WO (gAttr C n (xD ⟨C, some (n, z)⟩)) Q := ⟨_, by unfold gAttr xD; simp, q⟩
end
end M

namespace M
open PySem PySem.Spec PyProof.Rows L2

/-! ### a refusal that bears a number: class C(D): def __init__(self, f): D.__init__(self, '..'); self.f = f -/
/-- D has no __init__ of its own: ValueError's -/
structure Xd (K : Frg) (D : Addr) : Prop where
  sg : PySem.W.specialIn K (.ref D) "__getattribute__" = some (some (.builtin "type.__getattribute__"))
  rd : PySem.W.readsIn K D (.type "type") = true
  fc : PySem.W.findCls K (.ref D) (.type "type") "__init__" = some (.val (.builtin "ValueError.__init__"))
section
variable {X : Cx} {e : Expr} {es : List Expr} {ta : TA} {p1 p2 pos : Pos}
theorem pe_ocinit {pl : Sem Bool} {y : Str} {D : Addr} (T : Xd X.K D) (hmy : X.mg y = some (.ref D)) (ha : PA X (e :: es) ta) (hg : Gl X y := by rfl) (hdb : (y == ("__debug__" : Str)) = false := by decide)
    (hc : eval (.Call (.Attribute (.Name y p1) "__init__" p2) (e :: es) [] pos) X.env = (do
      let ov ← eval (.Name y p1) X.env
      standAt p2.atName
      let (f, first) ← holding [ov] (getMethod ov "__init__" pl)
      callWith pos f first (backTo pos (starEach (e :: es) X.env)) (backToKw pos (keywordEach [] X.env))) := by rfl)
    (he : starEach (e :: es) X.env = (false, eval e X.env) :: starEach es X.env := by rfl) (hpl : (backTo pos (starEach es X.env)).any (·.1) = false := by rfl) :
    PE X (.Call (.Attribute (.Name y p1) "__init__" p2) (e :: es) [] pos) (tVeI X.K ta) := by
  refine ⟨fun pins sh sg hp Q iv h => PySem.W.methodCall_KW (ld_glob iv hg hmy ?_ hdb) hc⟩
  refine PySem.W.method_cls iv.kIn T.sg (PySem.W.cls_value iv.kIn T.rd T.fc (by decide +kernel) ?_)
  show wpAny _ _ (callWith pos (Value.builtin "ValueError.__init__") [] (backTo pos (starEach (e :: es) X.env)) []) _ _ _
  refine PyProof.Rows.callWith_method1 (thn (ha.run pos pins _ sg hp _ (iv.tok _) h) fun us sh1 hh => ?_) he hpl
  obtain ⟨vs, hp1, iv1, r1, a, C, ws, ev, hl, TC, ea, q⟩ := hh
  subst ev
  obtain _ | ⟨ra, rw'⟩ := r1
  rename_i u0 ur
  cases (show u0 = Value.ref a from ra)
  have hlen : ur.length ≤ sizeLine := by
    have := Paired.length rw'
    rw [sizeLine_eq]
    omega
  exact oinit_ok TC iv1 ea hlen fun sh' J => ⟨.non, hp1, J, rfl, q⟩
end
/-- what __init__ does -/
def spI (C : Addr) (f : Str) : Sp := fun vs H Q _ => ∃ (a : Addr) (v : V), vs = [.ref a, v] ∧ H a = some (exo a C none) ∧ ∀ dx, H dx = none → dx ≠ a → Q .non (upd (upd H dx (exd dx [(f, v)])) a (exo a C (some dx)))
/-- the statement within a class -/
def inCls (st : Stmt) (i : Nat) : Stmt := match st with
  | .ClassDef _ _ _ b _ _ _ _ _ _ _ => b.getD i (.Pass ⟨0, 0, 0, 0⟩)
  | _ => .Pass ⟨0, 0, 0, 0⟩
section
variable {P : Program} {w : World} {K : Frg} {mg : Str → Option Value} {base : Heap}
theorem fn_init {qual f m : Str} {st : Stmt} {C fa : Addr} {fd : FuncData} {k : Nat} (F : Fun K "__init__" qual st fa fd) (S : FnScope ["self", f] ["self", f] (defScope st)) (TC : OexC K C) (no : PySem.W.findIn K (.ref C) f = some none)
    (hbody : ∀ (cdv : Value) (A : Around) (outer : List Env) (s : Shared) (H : Hp) (E : XK), PSs (cxOf CX0 P w K mg base ["self", f] qual (defScope st) fa cdv A outer s H E).nox (defBody st) (tSeq (tDrop (tVeI K (tCons (tVar 0) (tCons (tC (.str m)) tNil)))) (tOst K f (tVar 0) (tVar 1)))) :
    FnOk P w K mg base CX0 (k + 1) fa fd ["self", f] (spI C f) := by
  refine F.ok S (fun vs H Q E h => ?_) (fun cdv A outer s H vs Q E hr h => ⟨_, hbody cdv A outer s H E, ?_⟩)
  · obtain ⟨a, v, rfl, _⟩ := h
    rfl
  · obtain ⟨a, v, rfl, ha, q⟩ := h
    refine ⟨_, rfl, a, C, [.str m], rfl, by simp, TC, ha, ?_⟩
    exact ⟨_, rfl, _, rfl, a, C, rfl, TC, no, .inl ⟨ha, fun dx hdx ne => q dx hdx ne⟩⟩
end
section
variable {X : Cx} {W : WX} {e : Expr} {fe : Ef} {p pos pos2 : Pos}
end
/-! ### raising within an expression: two mirrors, the value's and the exception's -/
abbrev Rf := En → Option (Xc × En)
section
variable {X : Cx} {W : WX} {e a b : Expr} {es : List Expr} {f fa fb : Ef} {fr : Rf} {g : Af} {fx : Efx} {p pos : Pos}
end
/-! their rules -/
section
variable {env : En} {f : Ef} {fr : Rf} {fx : Efx} {Q : D → En → Prop} {Y : Xc → En → Prop}
end
/-! ### where nothing is raised, both mirrors agree -/
section
variable {f g : Sf} {fx gx : Sfx} {fe : Ef} {ex : Efx} {a : Af} {i : Nat}
end
end M

namespace M
open PySem PySem.Spec PyProof.Rows L2
/-! ### a list unpacked into names -/
def tTL (n : Nat) (r : List D → En → Option En) : Tf := fun d env => match d with
  | .list ds => if ds.length = n then r ds env else none
  | _ => none
theorem wt_unl {env : En} {n : Nat} {r : List D → En → Option En} {ds : List D} {Q : En → Prop} (hl : ds.length = n) (h : WTs r ds env Q) : WT (tTL n r) (.list ds) env Q := by
  obtain ⟨e, h, q⟩ := h
  exact ⟨e, by unfold tTL; simp [hl, h], q⟩
end M

namespace M
open PySem PySem.Spec PyProof.Rows L2
/-! ### dicts: keys as data -/
section
variable {P : Program} {w : World} {F H : Hp} {h : Heap}
end
def isTK (d : D) : Bool := match nkOf d with
  | some (.tup ks) => decide ((NestedKey.tup ks).depth ≤ 8)
  | _ => false
def isLK : D → Bool
  | .str _ => true
  | .int _ => true
  | _ => false
def kmode (kvs : List (D × D)) (kd : D) : Bool := (isTK kd && kvs.all fun p => isTK p.1) || (isLK kd && kvs.all fun p => isLK p.1)
def dFind (kvs : List (D × D)) (kd : D) : Option D := (kvs.find? fun p => decide (nkOf p.1 = nkOf kd)).map (·.2)
def dPut (kvs : List (D × D)) (kd vd : D) : List (D × D) := if (dFind kvs kd).isSome then kvs.map fun p => if nkOf p.1 = nkOf kd then (p.1, vd) else p else kvs ++ [(kd, vd)]
theorem isTK_some {d : D} (h : isTK d = true) : ∃ ks, nkOf d = some (.tup ks) ∧ (NestedKey.tup ks).depth ≤ 8 := by
  unfold isTK at h
  split at h
  · rename_i ks e
    exact ⟨ks, e, of_decide_eq_true h⟩
  · cases h
theorem tk_ref {F : Hp} {v : V} {d : D} (p : Dt F v d) (h : isTK d = true) : ∃ b, v = .ref b := by
  obtain ⟨ks, e, _⟩ := isTK_some h
  cases p with
  | tup s a => exact ⟨_, rfl⟩
  | lst s a => exact ⟨_, rfl⟩
  | xc s => exact ⟨_, rfl⟩
  | xf s a => exact ⟨_, rfl⟩
  | dic s a b => exact ⟨_, rfl⟩
  | _ => unfold nkOf at e; cases e
/-- entries, data, the kit's entries -/
inductive T3 (F : Hp) (w : World) : List (Int × V × V) → List (D × D) → List (NestedKey × Addr × Value) → Prop
  | nil : T3 F w [] [] []
  | cons {e : Int × V × V} {p : D × D} {x : NestedKey × Addr × Value} {es ps xs} : nkOf p.1 = some x.1 → e.1 = x.1.hash w → e.2.1 = .ref x.2.1 → RelV e.2.2 x.2.2 → Dt F e.2.1 p.1 → Dt F e.2.2 p.2 → T3 F w es ps xs → T3 F w (e :: es) (p :: ps) (x :: xs)
section
variable {F : Hp} {w : World} {es : List (Int × V × V)} {kvs : List (D × D)} {xs : List (NestedKey × Addr × Value)}
theorem T3.len (t : T3 F w es kvs xs) : kvs.length = xs.length := by
  induction t with
  | nil => rfl
  | cons _ _ _ _ _ _ _ ih => simp [ih]
theorem T3.keys (t : T3 F w es kvs xs) : (kvs.map fun p => nkOf p.1) = (xs.map (·.1)).map some := by
  induction t with
  | nil => rfl
  | cons h1 h2 h3 h4 h5 h6 _ ih => rw [List.map_cons, List.map_cons, List.map_cons, ih, h1]
end
/-- what is known of a dict that is looked into -/
structure Look (H : Hp) (w : World) (a : Addr) (y : V) (F : Hp) (es : List (Int × V × V)) (kvs : List (D × D)) (kd : D) : Prop where
  sm : Same F H
  at' : H a = some (DicO a es)
  en : EntsOk F w es kvs
  key : Dt F y kd
  mode : kmode kvs kd = true
section
variable {P : Program} {w : World} {F H : Hp} {h : Heap} {a : Addr} {es : List (Int × V × V)} {kvs : List (D × D)}
end
/-! keys that are texts or numbers -/
def kOf : D → Option Key
  | .int i => some (.inl i)
  | .str x => some (.inr x)
  | _ => none
theorem kOf_nk {d : D} {k : Key} (h : kOf d = some k) : ∃ nk, nkOf d = some nk ∧ (∀ w : World, nk.hash w = keyH w k) ∧ ∀ (e : D) (j : Key), kOf e = some j → (nkOf e = some nk ↔ j = k) := by
  cases d <;> cases h
  · rename_i i
    refine ⟨.num i, by unfold nkOf; rfl, fun w => by unfold NestedKey.hash keyH; rfl, fun e j h => ?_⟩
    cases e <;> cases h
    · unfold nkOf
      exact ⟨fun h => by cases h; rfl, fun h => by cases h; rfl⟩
    · unfold nkOf
      exact ⟨fun h => (by cases h), fun h => (by cases h)⟩
  · rename_i x
    refine ⟨.text x, by unfold nkOf; rfl, fun w => by unfold NestedKey.hash keyH; rfl, fun e j h => ?_⟩
    cases e <;> cases h
    · unfold nkOf
      exact ⟨fun h => (by cases h), fun h => (by cases h)⟩
    · unfold nkOf
      exact ⟨fun h => by cases h; rfl, fun h => by cases h; rfl⟩
inductive L3 (F : Hp) (w : World) : List (Int × V × V) → List (D × D) → List (Key × Value) → Prop
  | nil : L3 F w [] [] []
  | cons {e : Int × V × V} {p : D × D} {x : Key × Value} {es ps xs} : kOf p.1 = some x.1 → e.1 = keyH w x.1 → e.2.1 = kV x.1 → RelV e.2.2 x.2 → Dt F e.2.1 p.1 → Dt F e.2.2 p.2 → L3 F w es ps xs → L3 F w (e :: es) (p :: ps) (x :: xs)
section
variable {F : Hp} {w : World} {es : List (Int × V × V)} {kvs : List (D × D)} {xs : List (Key × Value)}
theorem L3.nd (t : L3 F w es kvs xs) : (xs.map (·.1)).Nodup ↔ (kvs.map fun p => nkOf p.1).Nodup := by
  have mem : ∀ {es : List (Int × V × V)} {kvs : List (D × D)} {xs : List (Key × Value)}, L3 F w es kvs xs → ∀ {p : D} {k : Key}, kOf p = some k → (k ∈ xs.map (·.1) ↔ nkOf p ∈ kvs.map fun p => nkOf p.1) := by
    intro es kvs xs t p k hk
    obtain ⟨nk, n1, _, n3⟩ := kOf_nk hk
    induction t with
    | nil => simp
    | @cons e q x es ps xs h1 h2 h3 h4 h5 h6 _ ih =>
      rw [List.map_cons, List.map_cons, List.mem_cons, List.mem_cons, ih, n1]
      have := n3 q.1 x.1 h1
      constructor
      · rintro (h | h)
        · exact .inl (this.mpr h.symm).symm
        · exact .inr h
      · rintro (h | h)
        · exact .inl (this.mp h.symm).symm
        · exact .inr h
  induction t with
  | nil => simp
  | cons h1 h2 h3 h4 h5 h6 t ih =>
    rw [List.map_cons, List.map_cons, List.nodup_cons, List.nodup_cons]
    exact and_congr (not_congr (mem t h1)) ih
end
section
variable {P : Program} {w : World} {F H : Hp} {h : Heap} {a : Addr} {es : List (Int × V × V)} {kvs : List (D × D)}
end
/-! ### the operations -/
section
variable {X : Cx} {pins : List (Addr × Obj)} {σ : L2.St} {F H : Hp} {s : Shared} {a : Addr} {es : List (Int × V × V)} {kvs : List (D × D)} {kd dd : D} {y z : V} {u r : Value} {A : Around} {E : Value → Shared → Prop}
theorem Look.ref (L : Look H X.w a y F es kvs kd) (h : isTK kd = true) : ∃ b nk, y = .ref b ∧ nkOf kd = some nk ∧ nk.depth ≤ 8 := by
  obtain ⟨b, hb⟩ := tk_ref L.key h
  obtain ⟨ks, q1, q2⟩ := isTK_some h
  exact ⟨b, _, hb, q1, q2⟩
theorem Look.two (L : Look H X.w a y F es kvs kd) : (isTK kd = true ∧ (kvs.all fun p => isTK p.1) = true) ∨ (isLK kd = true ∧ (kvs.all fun p => isLK p.1) = true) := by
  have := L.mode
  unfold kmode at this
  rcases Bool.or_eq_true_iff.mp this with h | h
  · exact .inl (Bool.and_eq_true_iff.mp h)
  · exact .inr (Bool.and_eq_true_iff.mp h)
end
/-! ### readings -/
section
variable {X : Cx} {o i e f : Expr} {pos apos cpos : Pos} {td ty tx : TE}
end
/-! ### slots that hold dicts -/
open Classical in
noncomputable def eDGet2 (w : World) (i : Nat) (fk fx : Ef) : Ef := fun env => if isDct env i = true then (fk env).bind fun r => (fx r.2).bind fun q => match q.2[i]? with
  | some (.dct w' kvs) => if w' = w ∧ kmode kvs r.1 = true then some ((dFind kvs r.1).getD q.1, q.2) else none
  | _ => none
  else none
open Classical in
noncomputable def eDIdx (w : World) (i : Nat) (fk : Ef) : Ef := fun env => if isDct env i = true then (fk env).bind fun r => match r.2[i]? with
  | some (.dct w' kvs) => if w' = w ∧ kmode kvs r.1 = true then (dFind kvs r.1).map fun d => (d, r.2) else none
  | _ => none
  else none
open Classical in
noncomputable def eDIn (w : World) (i : Nat) (fk : Ef) : Ef := fun env => (fk env).bind fun r => match r.2[i]? with
  | some (.dct w' kvs) => if w' = w ∧ kmode kvs r.1 = true then some (.bool (dFind kvs r.1).isSome, r.2) else none
  | _ => none
open Classical in
noncomputable def sDPut (w : World) (i : Nat) (fk fv : Ef) : Sf := fun env => (fv env).bind fun r => if isDct r.2 i = true then (fk r.2).bind fun q => match q.2[i]? with
  | some (.dct w' kvs) => if w' = w ∧ kmode kvs q.1 = true ∧ kvs.length < 1000000 then some (.nx (q.2.set i (.dct w (dPut kvs q.1 r.1)))) else none
  | _ => none
  else none
def sDNew (w : World) (i : Nat) : Sf := fun env => some (.nx (env.set i (.dct w [])))
section
variable {K : Frg} {w : World} {ty tx : TE} {fk fx fv : Ef}
end
section
variable {X : Cx} {x : Str} {p2 p3 pos apos cpos : Pos} {e f ke : Expr} {fk fx fv : Ef}
end
/-! ### to reason about them -/
section
variable {env : En} {w : World} {i : Nat} {fk fx fv : Ef} {kvs : List (D × D)}
theorem we_dget2 {Q : D → En → Prop} {kvs0 : List (D × D)} (h0 : env[i]? = some (.dct w kvs0)) (h : WE fk env fun kd e1 => WE fx e1 fun dd e2 => ∃ kvs, e2[i]? = some (.dct w kvs) ∧ kmode kvs kd = true ∧ Q ((dFind kvs kd).getD dd) e2) : WE (eDGet2 w i fk fx) env Q := by
  obtain ⟨kd, e1, h1, dd, e2, h2, kvs, h3, h4, q⟩ := h
  refine ⟨_, e2, ?_, q⟩
  unfold eDGet2 isDct
  rw [h0]
  simp only [if_true, h1, h2, Option.bind_some, h3, h4, and_self]
theorem we_didx {Q : D → En → Prop} {kvs0 : List (D × D)} (h0 : env[i]? = some (.dct w kvs0)) (h : WE fk env fun kd e1 => ∃ kvs d, e1[i]? = some (.dct w kvs) ∧ kmode kvs kd = true ∧ dFind kvs kd = some d ∧ Q d e1) : WE (eDIdx w i fk) env Q := by
  obtain ⟨kd, e1, h1, kvs, d, h3, h4, h5, q⟩ := h
  refine ⟨d, e1, ?_, q⟩
  unfold eDIdx isDct
  rw [h0]
  simp only [if_true, h1, Option.bind_some, h3, h4, and_self, h5, Option.map_some]
theorem we_din {Q : D → En → Prop} (h : WE fk env fun kd e1 => ∃ kvs, e1[i]? = some (.dct w kvs) ∧ kmode kvs kd = true ∧ Q (.bool (dFind kvs kd).isSome) e1) : WE (eDIn w i fk) env Q := by
  obtain ⟨kd, e1, h1, kvs, h3, h4, q⟩ := h
  refine ⟨_, e1, ?_, q⟩
  unfold eDIn
  simp only [h1, Option.bind_some, h3, h4, and_self, if_true]
theorem ws_dput {N : En → Prop} {R : D → En → Prop} {L : List D → En → Prop} (h : WE fv env fun vd e1 => isDct e1 i = true ∧ WE fk e1 fun kd e2 => ∃ kvs, e2[i]? = some (.dct w kvs) ∧ kmode kvs kd = true ∧ kvs.length < 1000000 ∧ Nrm (e2.set i (.dct w (dPut kvs kd vd))) N) : WS (sDPut w i fk fv) env ⟨N, R, L⟩ := by
  obtain ⟨vd, e1, h1, h0, kd, e2, h2, kvs, h3, h4, h5, q⟩ := h
  refine ⟨.nx _, ?_, q⟩
  unfold sDPut
  simp only [h1, Option.bind_some, h0, if_true, h2, h3, h4, h5, and_self]
theorem ws_dnew {N : En → Prop} {R : D → En → Prop} {L : List D → En → Prop} (q : Nrm (env.set i (.dct w [])) N) : WS (sDNew w i) env ⟨N, R, L⟩ := ⟨.nx _, rfl, q⟩
end
end M

namespace M
open PySem PySem.Spec PyProof.Rows L2
/-! ### own lists as values while an expression runs whose answer holds no list -/
def eBorL (f : Ef) : Ef := fun env => (f (unowns env)).bind fun r => if lfree r.1 then some (r.1, env) else none
section
variable {K : Frg} {G : Gm} {F F' : Hp} {env env' : En} {s : L2.St} {H H' : Hp}
end
theorem we_borL {f : Ef} {env : En} {Q : D → En → Prop} (h : Nrm (unowns env) fun e => WE f e fun d _ => lfree d = true ∧ Q d env) : WE (eBorL f) env Q := by
  obtain ⟨d, e, h1, h2, q⟩ := h
  exact ⟨d, env, by unfold eBorL; rw [h1]; simp [h2], q⟩
end M

namespace M
open PySem PySem.Spec PyProof.Rows L2
/-! ### a new list handed in as the last argument, to be changed and forgotten -/
abbrev Nf := En → Option ((List D × List D) × En)
def nlL (fl : Lf) : Nf := fun env => (fl env).map fun r => (([], r.1), r.2)
def nlV (f : Ef) (g : Nf) : Nf := fun env => (f env).bind fun r => (g r.2).map fun q => ((r.1 :: q.1.1, q.1.2), q.2)
section
variable {X : Cx} {e : Expr} {es : List Expr} {f : Ef} {fl : Lf} {g : Nf}
end
def eCallNL (g : Gf) (fa : Nf) : Ef := fun env => (fa env).bind fun q => (g (q.1.1.map .val ++ [.own false q.1.2])).map fun w => (w.1, q.2)
section
variable {X : Cx} {k : Nat} {fx : Addr} {fd : FuncData} {ps : List Str} {x : Str} {p pos : Pos} {e : Expr} {es : List Expr} {fa : Nf} {g : Gf}
end
def WNl (f : Nf) (env : En) (Q : List D → List D → En → Prop) : Prop := ∃ ds ls e, f env = some ((ds, ls), e) ∧ Q ds ls e
theorem wnl_l {env : En} {fl : Lf} {Q : List D → List D → En → Prop} (h : WL fl env fun ls e => Q [] ls e) : WNl (nlL fl) env Q := by
  obtain ⟨ls, e1, h1, q⟩ := h
  exact ⟨[], ls, e1, by unfold nlL; simp only [h1, Option.map_some], q⟩
theorem wnl_v {env : En} {f : Ef} {g : Nf} {Q : List D → List D → En → Prop} (h : WE f env fun d e => WNl g e fun ds ls e2 => Q (d :: ds) ls e2) : WNl (nlV f g) env Q := by
  obtain ⟨d, e1, h1, ds, ls, e2, h2, q⟩ := h
  exact ⟨_, _, e2, by unfold nlV; simp only [h1, h2, Option.bind_some, Option.map_some], q⟩
theorem we_callNL {env : En} {g : Gf} {fa : Nf} {Q : D → En → Prop} (h : WNl fa env fun ds ls e => WG g (ds.map .val ++ [.own false ls]) fun d _ => Q d e) : WE (eCallNL g fa) env Q := by
  obtain ⟨ds, ls, e1, h1, d, a', h4, q⟩ := h
  exact ⟨d, e1, by unfold eCallNL; simp only [h1, h4, Option.bind_some, Option.map_some], q⟩
end M

namespace L2
open PySem PySem.Spec PyProof.Rows
/-! ### a op1 b op2 c op3 d -/
section
variable {X : Cx} {a b c d : Expr} {ta tb tc td : TE} {pos : Pos}
end
end L2
namespace M
open PySem PySem.Spec PyProof.Rows L2
def eCh3 (g g' g'' : D → D → Option D) (fa fb fc fd : Ef) : Ef := fun env => (fa env).bind fun r => (fb r.2).bind fun q => (g r.1 q.1).bind fun z => match z with
  | .bool true => (fc q.2).bind fun w => (g' q.1 w.1).bind fun z => match z with
    | .bool true => (fd w.2).bind fun u => (g'' w.1 u.1).map fun d => (d, u.2)
    | .bool false => some (.bool false, w.2)
    | _ => none
  | .bool false => some (.bool false, q.2)
  | _ => none
section
variable {X : Cx} {a b c d : Expr} {pos : Pos} {fa fb fc fd : Ef} {r r' r'' : R2} {g g' g'' : D → D → Option D} {op op' op'' : CmpOp}
end
theorem we_chain3 {g g' g'' : D → D → Option D} {fa fb fc fd : Ef} {env : En} {Q : D → En → Prop} (h : WE fa env fun x e => WE fb e fun y e' => WO (g x y) fun z => IsB z fun b => IfB b (WE fc e' fun w e2 => WO (g' y w) fun z => IsB z fun b => IfB b (WE fd e2 fun u e3 => WO (g'' w u) fun z => Q z e3) (Q (.bool false) e2)) (Q (.bool false) e')) : WE (eCh3 g g' g'' fa fb fc fd) env Q := by
  obtain ⟨x, e1, h1, y, e2, h2, z, h3, h⟩ := h
  cases z with
  | bool b =>
    cases b with
    | false => exact ⟨_, e2, by unfold eCh3; simp [h1, h2, h3]; (try rfl), h⟩
    | true =>
      obtain ⟨w, e3, h4, z', h5, h⟩ := (show WE fc e2 _ from h)
      cases z' with
      | bool b =>
        cases b with
        | false => exact ⟨_, e3, by unfold eCh3; simp [h1, h2, h3, h4, h5]; (try rfl), h⟩
        | true =>
          obtain ⟨u, e4, h6, z2, h7, q⟩ := (show WE fd e3 _ from h)
          exact ⟨z2, e4, by unfold eCh3; simp [h1, h2, h3, h4, h5, h6, h7], q⟩
      | _ => exact h.elim
  | _ => exact h.elim
end M

namespace M
open PySem PySem.Spec PyProof.Rows L2

/-! ### refusals made, and kept as values -/
theorem exV_ok {P : Program} {w : World} {H : Hp} {h : Heap} {a C : Addr} {dd : Option Addr} {oe : Obj} {vs : Array Value} (e : h.get? a = some oe) (z : Zc (.ref C) dd oe) (d : oe.data = .fields vs) : ObjOk P w H h a (ExV C dd a) :=
  ⟨⟨oe, vs, e, z, d⟩, ⟨oe, e⟩, fun _ _ ⟨o, v, q, r⟩ k => ⟨o, v, k o q, r⟩⟩
section
variable {X : Cx} {e : Expr} {es : List Expr} {f fe : Ef} {p pos : Pos}
/-- what is made may be kept -/
theorem pe_made {t : L2.St → Hp → XK → Prop} (he : PMk X e t) : PE X e (fun σ H Q => t σ H fun cls d H' => ∃ C : Addr, cls = .ref C ∧ ∀ a, H' a = none → Q (.ref a) (upd H' a (ExV C d a))) := by
  refine ⟨fun pins s σ H Q I h => ?_⟩
  refine wpAny_mono (he pins s σ H _ I h) (fun u s1 hu => ?_) fun _ _ x => x
  obtain ⟨a, oe, vs, sI, H', cls, d, rfl, J, kG, ge, hoe, hz, hd, h1, na, os, bare, T, C, rfl, q⟩ := hu
  have L := J.laidN (t' := sI.toks) (h' := s1.heap) (o := ExV C d a) kG ge na (exV_ok hoe hz hd)
  exact ⟨.ref a, _, ⟨L.ok, os.trans L.os, bare, L.base, L.loc, L.cell, L.free, L.freeC, L.pin, L.hok, L.len⟩, rfl, q a na⟩
/-- X(e), X without an __init__ of its own -/
theorem pe_exV {C : Addr} {bmB : List Value} {B newId initId : String} {x : Str} {ta : TE} (F : ExcBaseFacts B newId initId bmB) (q : PySem.W.excIn X.K C bmB newId = true) (gC : X.mg x = some (.ref C)) (kC : PySem.W.keepIn X.K (.ref C) = true) (hg : Gl X x)
    (he : PE X e ta) (hs : starEach [e] X.env = (false, eval e X.env) :: starEach [] X.env := by rfl) (hdb : (x == ("__debug__" : Str)) = false := by decide) :
    PE X (.Call (.Name x p) [e] [] pos) (fun σ H Q => ta σ H fun _ H1 => ∀ a, H1 a = none → Q (.ref a) (upd H1 a (ExV C none a))) := by
  refine ⟨fun pins s σ H Q I h => ?_⟩
  refine wpAny_Call_Name_kw (ld_glob I hg gC ?_ hdb)
  refine PySem.W.callWith_K (h₀ := X.base) I.ok.mod.kin kC ?_ hs (by rfl)
  rw [hs]
  show wpAny _ _ (spliced ((false, eval e X.env) :: backTo pos (starEach [] X.env))) _ _ s
  refine Calls.spliced_cons (thn (he.run pins s σ H _ I h) fun u s1 ⟨v, H1, I1, r1, q1⟩ => ?_)
  refine Calls.spliced_nil ⟨I1.kIn, ?_⟩
  show wpAny _ _ (call (.ref C) [u]) _ _ _
  obtain ⟨bm, N, nm, qn, bs, hdct, sn, sub, ab, col, dd, k0, k1, k2, k3, k5, mN, hC, hN, hni, T⟩ := exc_obj I1.kIn q
  refine wpAny_call_exc_subT F T hC hN hni (fun h' a hm => ?_) (by show 1 ≤ sizeLine; rw [sizeLine_eq]; omega)
  have hn : H1 a = none := I1.hok.gone hm.new
  obtain ⟨t, ht, _, _⟩ := hm.there
  exact ⟨.ref a, upd H1 a (ExV C none a), I1.laidN hm.keeps hm.new hn (exV_ok ht ⟨rfl, rfl⟩ rfl), rfl, q1 a hn⟩
def eExc0 (C : Addr) (f : Ef) : Ef := fun env => (f env).map fun r => (xD ⟨C, none⟩, r.2)
theorem xe_exc0 {x : Str} {C : Addr} (T : Xo X.K X.mg x C) (he : XE X e fe) (hg : Gl X x := by rfl) (hs : starEach [e] X.env = (false, eval e X.env) :: starEach [] X.env := by rfl) (hdb : (x == ("__debug__" : Str)) = false := by decide) :
    XE X (.Call (.Name x p) [e] [] pos) (eExc0 C fe) := by
  obtain ⟨t, h1, h2⟩ := he.ex
  refine ⟨_, pe_exV PySem.F.excBase_ValueError T.x T.m T.k hg h1 hs hdb, fun G F env s H d env' k e Q q => ?_⟩
  unfold eExc0 at e
  obtain ⟨⟨d1, e1⟩, h3, e⟩ := Option.map_eq_some_iff.mp e
  cases e
  refine h2 G F env s H d1 _ k h3 _ fun F1 H1 v1 k1 s1 p1 a ha => ?_
  obtain ⟨F2, k2, s2, p2⟩ := ok_caught (x := ⟨C, none⟩) (cls := .ref C) (d := none) k1 ⟨rfl, rfl⟩ ha
  exact q F2 _ _ k2 (s1.trans s2) p2
def eExc1 (C : Addr) (f : Str) (fe : Ef) : Ef := fun env => (fe env).bind fun r => match r.1 with
  | .int z => some (xD ⟨C, some (f, z)⟩, r.2)
  | _ => none
theorem xe_exc1 {nm f : Str} {C fI : Addr} {fd : FuncData} {k : Nat} (TC : OexC X.K C) (iC : PySem.W.findIn X.K (.ref C) "__init__" = some (some (.ref fI))) (tI : PySem.W.typeIn X.K (.ref fI) = some (.type "function")) (F1 : FnOk X.prog X.w X.K X.mg X.base CX0 k fI fd ["self", f] (spI C f))
    (hr : Room (k + 1) X.A) (hb : Binds X.K fd ["self", f] []) (hm : X.mg nm = some (.ref C)) (he : XE X e fe) (hg : Gl X nm := by rfl) (hdb : (nm == ("__debug__" : Str)) = false := by decide)
    (hs : starEach [e] X.env = (false, eval e X.env) :: starEach [] X.env := by rfl) (hpl : (backTo pos (starEach [] X.env)).any (·.1) = false := by rfl) :
    XE X (.Call (.Name nm p) [e] [] pos) (eExc1 C f fe) := by
  obtain ⟨t, h1, h2⟩ := he.ex
  refine ⟨_, pe_made (pmk_oex TC iC tI F1 hr hb .nil pass0 hg hm (pa_cons h1 pa_nil hs) hdb hs hpl), fun G F env s H d env' k e Q q => ?_⟩
  unfold eExc1 at e
  obtain ⟨⟨d1, e1⟩, h3, e⟩ := Option.bind_eq_some_iff.mp e
  refine h2 G F env s H d1 e1 k h3 _ fun F1 H1 v k1 s1 p1 => ?_
  cases p1 with
  | int z =>
    cases e
    refine ⟨by simp, fun a ha => ⟨a, .int z, rfl, upd_same, fun dx hdx ne => ?_⟩⟩
    rw [upd_ne ne] at hdx
    refine ⟨rfl, dx, [(f, .int z)], upd_same, by rw [upd_ne ne]; exact upd_same, hdx, C, rfl, fun a2 ha2 => ?_⟩
    have eh : upd (L2.del (upd (upd (upd H1 a (exo a C none)) dx (exd dx [(f, .int z)])) a (exo a C (some dx))) a) dx (.xd [(f, .int z)]) = upd H1 dx (.xd [(f, .int z)]) := by
      funext b
      by_cases hb : b = dx
      · rw [hb, upd_same, upd_same]
      · rw [upd_ne hb, upd_ne hb]
        by_cases hba : b = a
        · rw [hba, L2.del_same, ha]
        · rw [L2.del_ne hba, upd_ne hba, upd_ne hb, upd_ne hba]
    rw [eh] at ha2 ⊢
    have k2 := k1.laid (o := .xd [(f, .int z)]) hdx
    obtain ⟨F2, k3, s2, p2⟩ := ok_caught (x := ⟨C, some (f, z)⟩) (cls := .ref C) (d := some dx) k2 ⟨rfl, dx, rfl, upd_same, k1.fr.free hdx, k1.dom dx hdx⟩ ha2
    exact q F2 _ _ k3 (s1.trans s2) p2
  | _ => cases e
theorem we_exc0 {C : Addr} {env : En} {Q : D → En → Prop} (h : WE fe env fun _ e => Q (xD ⟨C, none⟩) e) : WE (eExc0 C fe) env Q := by
  obtain ⟨d, e, h1, h2⟩ := h
  exact ⟨_, e, by unfold eExc0; rw [h1]; rfl, h2⟩
theorem we_exc1 {C : Addr} {f : Str} {env : En} {Q : D → En → Prop} (h : WE fe env fun d e => IsI d fun z => Q (xD ⟨C, some (f, z)⟩) e) : WE (eExc1 C f fe) env Q := by
  obtain ⟨d, e, h1, h2⟩ := h
  cases d with
  | int z => exact ⟨_, e, by unfold eExc1; rw [h1]; rfl, h2⟩
  | _ => cases h2
end
end M

namespace M
open PySem PySem.Spec PyProof.Rows L2
/-! ### clocks as data -/
abbrev Hd := Int × Int × Str
def hD (h : Hd) : D := .tuple [.int h.1, .int h.2.1, .str h.2.2]
def isLk (x : Str) : Prop := ∃ c : Nat, 97 ≤ c ∧ c ≤ 122 ∧ x = ⟨#[c]⟩
def HandsOk (m : Int) (hs : List Hd) : Prop := ∀ h ∈ hs, 0 ≤ h.1 ∧ h.1 < m ∧ 0 ≤ h.2.1 ∧ h.2.1 < m ∧ isLk h.2.2
/-! shapes -/
def Lay (n : Nat) (d : D) : Prop := d.canLay0 = true ∧ d.depth ≤ n
theorem Lay.shp {n : Nat} {d : D} (h : Lay n d) (hn : n ≤ 64) : M.shp d = true := by
  unfold M.shp SeqAt.shaped
  rw [h.1, decide_eq_true (show d.depth ≤ 64 by have := h.2; omega)]
  rfl
theorem Lay.mono {n m : Nat} {d : D} (h : Lay n d) (hn : n ≤ m) : Lay m d := ⟨h.1, Nat.le_trans h.2 hn⟩
/-! letters -/
def letters : List Nat := [97, 98, 99, 100, 101, 102, 103, 104, 105, 106, 107, 108, 109, 110, 111, 112, 113, 114, 115, 116, 117, 118, 119, 120, 121, 122]
/-! ### swaps -/
/-! readings -/
/-! rows -/
/-! ### rules for tuples of numbers of hands -/
/-! first numbers of the plain rows -/
/-- the greatest number that divides a dial and some numbers -/
structure Gd (m : Int) (ns : List Int) (g : Int) : Prop where
  pos : 0 < g
  dm : g ∣ m
  dn : ∀ n ∈ ns, g ∣ n
  all : ∀ d : Int, d ∣ m → (∀ n ∈ ns, d ∣ n) → d ∣ g
theorem Gd.uniq {m g h : Int} {ns : List Int} (x : Gd m ns g) (y : Gd m ns h) : g = h :=
  Int.dvd_antisymm (by have := x.pos; omega) (by have := y.pos; omega) (y.all g x.dm x.dn) (x.all h y.dm y.dn)
theorem Gd.start {m : Int} (hm : 0 < m) : Gd m [] m := ⟨hm, Int.dvd_refl _, fun n h => (by cases h), fun d h _ => h⟩
theorem Gd.step {m g n g' : Int} {ns : List Int} (x : Gd m ns g) (G : IsG g n g') : Gd m (ns ++ [n]) g' := by
  have hp := G.symm.ne x.pos
  refine ⟨hp, Int.dvd_trans G.da x.dm, fun y hy => ?_, fun d d1 d2 => G.all d (x.all d d1 fun y hy => d2 y (List.mem_append_left _ hy)) (d2 n (by simp))⟩
  rcases List.mem_append.mp hy with hy | hy
  · exact Int.dvd_trans G.da (x.dn y hy)
  · rw [List.mem_singleton] at hy; subst hy; exact G.db
theorem HandsOk.mono {m n : Int} {hs : List Hd} (h : HandsOk m hs) (hn : m ≤ n) : HandsOk n hs := fun x hx => by
  obtain ⟨h1, h2, h3, h4, h5⟩ := h x hx
  exact ⟨h1, by omega, h3, by omega, h5⟩
/-! ### what a reading takes for a tick -/
end M

namespace Lw
open PySem PySem.Spec PyProof.Rows L2 M
def topS (i : Nat) : Stmt := PySem.Challenge.pw_dialdoubt_k01_refusals_stand_alone.main.body.getD i (.Pass ⟨0, 0, 0, 0⟩)
abbrev s__law_at : Stmt := topS 12
abbrev N__law_at : List Str := ["script", "k"]
theorem sc__law_at : FnScope N__law_at ["script", "k"] (defScope s__law_at) := ⟨rfl, rfl, rfl, by decide +kernel, rfl, by decide +kernel, by decide +kernel⟩
abbrev s__law_all : Stmt := topS 13
abbrev N__law_all : List Str := ["text", "number", "found"]
theorem sc__law_all : FnScope N__law_all ["text", "number"] (defScope s__law_all) := ⟨rfl, rfl, rfl, by decide +kernel, rfl, by decide +kernel, by decide +kernel⟩
abbrev s__law_kinds : Stmt := topS 14
abbrev N__law_kinds : List Str := ["one"]
theorem sc__law_kinds : FnScope N__law_kinds ["one"] (defScope s__law_kinds) := ⟨rfl, rfl, rfl, by decide +kernel, rfl, by decide +kernel, by decide +kernel⟩
abbrev s_law : Stmt := topS 15
abbrev N_law : List Str := ["script", "number", "all_of", "k", "kinds", "place"]
theorem sc_law : FnScope N_law ["script"] (defScope s_law) := ⟨rfl, rfl, rfl, by decide +kernel, rfl, by decide +kernel, by decide +kernel⟩
abbrev s_init_Coarse : Stmt := inCls (topS 9) 0
theorem sc_init_Coarse : FnScope ["self", "step"] ["self", "step"] (defScope s_init_Coarse) := ⟨rfl, rfl, rfl, by decide +kernel, rfl, by decide +kernel, by decide +kernel⟩
abbrev s_init_NoText : Stmt := inCls (topS 10) 0
theorem sc_init_NoText : FnScope ["self", "row"] ["self", "row"] (defScope s_init_NoText) := ⟨rfl, rfl, rfl, by decide +kernel, rfl, by decide +kernel, by decide +kernel⟩
abbrev C_BadClock : Addr := 37
abbrev C_Coarse : Addr := 128
abbrev C_DoubtError : Addr := 24
abbrev C_NoBack : Addr := 109
abbrev C_NoHand : Addr := 61
abbrev C_NoMark : Addr := 85
abbrev C_NoRow : Addr := 97
abbrev C_NoSuch : Addr := 73
abbrev C_NoText : Addr := 147
abbrev C_TooAlike : Addr := 49
def tab_BadClock : List (Addr × Bool) := [(C_BadClock, true), (C_Coarse, false), (C_NoBack, false), (C_NoHand, false), (C_NoMark, false), (C_NoRow, false), (C_NoSuch, false), (C_NoText, false), (C_TooAlike, false)]
def tab_Coarse : List (Addr × Bool) := [(C_BadClock, false), (C_Coarse, true), (C_NoBack, false), (C_NoHand, false), (C_NoMark, false), (C_NoRow, false), (C_NoSuch, false), (C_NoText, false), (C_TooAlike, false)]
def tab_DoubtError : List (Addr × Bool) := [(C_BadClock, true), (C_Coarse, true), (C_NoBack, true), (C_NoHand, true), (C_NoMark, true), (C_NoRow, true), (C_NoSuch, true), (C_NoText, true), (C_TooAlike, true)]
def tab_NoBack : List (Addr × Bool) := [(C_BadClock, false), (C_Coarse, false), (C_NoBack, true), (C_NoHand, false), (C_NoMark, false), (C_NoRow, false), (C_NoSuch, false), (C_NoText, false), (C_TooAlike, false)]
def tab_NoHand : List (Addr × Bool) := [(C_BadClock, false), (C_Coarse, false), (C_NoBack, false), (C_NoHand, true), (C_NoMark, false), (C_NoRow, false), (C_NoSuch, false), (C_NoText, false), (C_TooAlike, false)]
def tab_NoMark : List (Addr × Bool) := [(C_BadClock, false), (C_Coarse, false), (C_NoBack, false), (C_NoHand, false), (C_NoMark, true), (C_NoRow, false), (C_NoSuch, false), (C_NoText, false), (C_TooAlike, false)]
def tab_NoRow : List (Addr × Bool) := [(C_BadClock, false), (C_Coarse, false), (C_NoBack, false), (C_NoHand, false), (C_NoMark, false), (C_NoRow, true), (C_NoSuch, false), (C_NoText, false), (C_TooAlike, false)]
def tab_NoSuch : List (Addr × Bool) := [(C_BadClock, false), (C_Coarse, false), (C_NoBack, false), (C_NoHand, false), (C_NoMark, false), (C_NoRow, false), (C_NoSuch, true), (C_NoText, false), (C_TooAlike, false)]
def tab_NoText : List (Addr × Bool) := [(C_BadClock, false), (C_Coarse, false), (C_NoBack, false), (C_NoHand, false), (C_NoMark, false), (C_NoRow, false), (C_NoSuch, false), (C_NoText, true), (C_TooAlike, false)]
def tab_TooAlike : List (Addr × Bool) := [(C_BadClock, false), (C_Coarse, false), (C_NoBack, false), (C_NoHand, false), (C_NoMark, false), (C_NoRow, false), (C_NoSuch, false), (C_NoText, false), (C_TooAlike, true)]
def tab_ValueError : List (Addr × Bool) := [(C_BadClock, true), (C_Coarse, true), (C_NoBack, true), (C_NoHand, true), (C_NoMark, true), (C_NoRow, true), (C_NoSuch, true), (C_NoText, true), (C_TooAlike, true)]
/-! ### the mirrors -/
noncomputable section
def b__law_at : Sf :=
  (sSeq (sIf (bV (eBin gLt (eV 1) (eUn gLen (eO 0))))
  (sRet (eBinV gIdx 0 (eV 1)))
  sNil)
  (sRet (eC (.int 0))))
def g__law_at : Gf := fnRun 2 2 b__law_at
def b__law_all : Sf :=
  (sSeq (sSet 2 (eFz (lLst (lCons (eExc0 C_BadClock (eV 0)) (lCons (eExc0 C_TooAlike (eV 0)) (lCons (eExc0 C_NoHand (eV 0)) (lCons (eExc0 C_NoSuch (eV 0)) (lCons (eExc0 C_NoMark (eV 0)) (lCons (eExc0 C_NoRow (eV 0)) (lCons (eExc0 C_NoBack (eV 0)) lNil))))))))))
  (sRet (eBin gAdd (eV 2) (eFz (lLst (lCons (eExc1 C_Coarse "step" (eV 1)) (lCons (eExc1 C_NoText "row" (eV 1)) lNil)))))))
def g__law_all : Gf := fnRun 3 2 b__law_all
def b__law_kinds : Sf :=
  (sRet (eFz (lLst (lCons (eUn (gIsO tab_BadClock) (eV 0)) (lCons (eUn (gIsO tab_TooAlike) (eV 0)) (lCons (eUn (gIsO tab_NoHand) (eV 0)) (lCons (eUn (gIsO tab_NoSuch) (eV 0)) (lCons (eUn (gIsO tab_NoMark) (eV 0)) (lCons (eUn (gIsO tab_NoRow) (eV 0)) (lCons (eUn (gIsO tab_NoBack) (eV 0)) (lCons (eUn (gIsO tab_Coarse) (eV 0)) (lCons (eUn (gIsO tab_NoText) (eV 0)) lNil))))))))))))
def g__law_kinds : Gf := fnRun 1 1 b__law_kinds
def b_law : Sf :=
  (sSeq (sSet 1 (eBin gMod (eUn gAbs (eCall g__law_at (aO 0 (aV (eC (.int 0)) aNil)))) (eBin gPow (eC (.int 10)) (eC (.int 61)))))
  (sSeq (sSet 2 (eCall g__law_all (aV (eBin gAdd (eC (.str "a text ")) (eUn gStr (eBin gMod (eV 1) (eC (.int 1000))))) (aV (eV 1) aNil))))
  (sSeq (sFor (lRng1 (eC (.int 9))) (tN 3)
  (sSeq (sSet 4 (eCall g__law_kinds (aV (eBin gIdx (eV 2) (eV 3)) aNil)))
  (sSeq (sIf (bV (eBin gNe (eFz (lComp (lRng1 (eC (.int 9))) [5] (tN 5) (bV (eBin gIdx (eV 4) (eV 5))) (eV 5))) (eFz (lLst (lCons (eV 3) lNil)))))
  (sRet (eC (.bool false)))
  sNil)
  (sIf (bOr (bNot (bV (eUn (gIsO tab_DoubtError) (eBin gIdx (eV 2) (eV 3))))) (bNot (bV (eUn (gIsO tab_ValueError) (eBin gIdx (eV 2) (eV 3))))))
  (sRet (eC (.bool false)))
  sNil))))
  (sRet (eAnd (eBin gEq (eUn (gAttr C_Coarse "step") (eBin gIdx (eV 2) (eC (.int 7)))) (eV 1)) (eBin gEq (eUn (gAttr C_NoText "row") (eBin gIdx (eV 2) (eC (.int 8)))) (eV 1)))))))
def g_law : Gf := fnRun 6 1 b_law
end
/-! ### what the top has left -/
structure Tx (K : Frg) (mg : Str → Option Value) where
  f__law_at : Addr
  d__law_at : FuncData
  F__law_at : Fun K "_law_at" "_law_at" s__law_at f__law_at d__law_at
  m__law_at : mg "_law_at" = some (.ref f__law_at)
  b__law_at : Binds K d__law_at ["script", "k"] []
  f__law_all : Addr
  d__law_all : FuncData
  F__law_all : Fun K "_law_all" "_law_all" s__law_all f__law_all d__law_all
  m__law_all : mg "_law_all" = some (.ref f__law_all)
  b__law_all : Binds K d__law_all ["text", "number"] []
  f__law_kinds : Addr
  d__law_kinds : FuncData
  F__law_kinds : Fun K "_law_kinds" "_law_kinds" s__law_kinds f__law_kinds d__law_kinds
  m__law_kinds : mg "_law_kinds" = some (.ref f__law_kinds)
  b__law_kinds : Binds K d__law_kinds ["one"] []
  f_law : Addr
  d_law : FuncData
  F_law : Fun K "law" "law" s_law f_law d_law
  m_law : mg "law" = some (.ref f_law)
  b_law : Binds K d_law ["script"] []
  z_ValueError : mg "ValueError" = none
  z_abs : mg "abs" = none
  z_isinstance : mg "isinstance" = none
  z_len : mg "len" = none
  z_range : mg "range" = none
  z_str : mg "str" = none
  m_BadClock : mg "BadClock" = some (.ref C_BadClock)
  m_Coarse : mg "Coarse" = some (.ref C_Coarse)
  m_DoubtError : mg "DoubtError" = some (.ref C_DoubtError)
  m_NoBack : mg "NoBack" = some (.ref C_NoBack)
  m_NoHand : mg "NoHand" = some (.ref C_NoHand)
  m_NoMark : mg "NoMark" = some (.ref C_NoMark)
  m_NoRow : mg "NoRow" = some (.ref C_NoRow)
  m_NoSuch : mg "NoSuch" = some (.ref C_NoSuch)
  m_NoText : mg "NoText" = some (.ref C_NoText)
  m_TooAlike : mg "TooAlike" = some (.ref C_TooAlike)
  fi_Coarse : Addr
  di_Coarse : FuncData
  Fi_Coarse : Fun K "__init__" "Coarse.__init__" s_init_Coarse fi_Coarse di_Coarse
  bi_Coarse : Binds K di_Coarse ["self", "step"] []
  oex_Coarse : OexC K C_Coarse
  ii_Coarse : PySem.W.findIn K (.ref C_Coarse) "__init__" = some (some (.ref fi_Coarse))
  ity_Coarse : PySem.W.typeIn K (.ref fi_Coarse) = some (.type "function")
  xd_Coarse : Xd K C_DoubtError
  fi_NoText : Addr
  di_NoText : FuncData
  Fi_NoText : Fun K "__init__" "NoText.__init__" s_init_NoText fi_NoText di_NoText
  bi_NoText : Binds K di_NoText ["self", "row"] []
  oex_NoText : OexC K C_NoText
  ii_NoText : PySem.W.findIn K (.ref C_NoText) "__init__" = some (some (.ref fi_NoText))
  ity_NoText : PySem.W.typeIn K (.ref fi_NoText) = some (.type "function")
  xd_NoText : Xd K C_DoubtError
  o_BadClock : Xo K mg "BadClock" C_BadClock
  o_NoBack : Xo K mg "NoBack" C_NoBack
  o_NoHand : Xo K mg "NoHand" C_NoHand
  o_NoMark : Xo K mg "NoMark" C_NoMark
  o_NoRow : Xo K mg "NoRow" C_NoRow
  o_NoSuch : Xo K mg "NoSuch" C_NoSuch
  o_TooAlike : Xo K mg "TooAlike" C_TooAlike
  i_BadClock : TabOk K tab_BadClock (.ref C_BadClock)
  i_Coarse : TabOk K tab_Coarse (.ref C_Coarse)
  i_DoubtError : TabOk K tab_DoubtError (.ref C_DoubtError)
  i_NoBack : TabOk K tab_NoBack (.ref C_NoBack)
  i_NoHand : TabOk K tab_NoHand (.ref C_NoHand)
  i_NoMark : TabOk K tab_NoMark (.ref C_NoMark)
  i_NoRow : TabOk K tab_NoRow (.ref C_NoRow)
  i_NoSuch : TabOk K tab_NoSuch (.ref C_NoSuch)
  i_NoText : TabOk K tab_NoText (.ref C_NoText)
  i_TooAlike : TabOk K tab_TooAlike (.ref C_TooAlike)
  i_ValueError : TabOk K tab_ValueError (.type "ValueError")
  f_Coarse_step : XfOk K C_Coarse "step"
  f_NoText_row : XfOk K C_NoText "row"
section
variable {P : Program} {w : World} {K : Frg} {mg : Str → Option Value} {base : Heap} (T : Tx K mg)
include T
theorem ok_init_Coarse : FnOk P w K mg base CX0 1 T.fi_Coarse T.di_Coarse ["self", "step"] (spI C_Coarse "step") :=
  fn_init (k := 0) (m := "a coarse clock") T.Fi_Coarse sc_init_Coarse T.oex_Coarse T.f_Coarse_step.no fun cdv A outer s H E =>
    pss_cons (ps_expr (pe_ocinit T.xd_Coarse T.m_DoubtError (pa_cons (pv 0) (pa_cons pe_str pa_nil)))) (pss_one (ps_ost (pv 0) (pv 1)))
theorem ok_init_NoText : FnOk P w K mg base CX0 1 T.fi_NoText T.di_NoText ["self", "row"] (spI C_NoText "row") :=
  fn_init (k := 0) (m := "no text") T.Fi_NoText sc_init_NoText T.oex_NoText T.f_NoText_row.no fun cdv A outer s H E =>
    pss_cons (ps_expr (pe_ocinit T.xd_NoText T.m_DoubtError (pa_cons (pv 0) (pa_cons pe_str pa_nil)))) (pss_one (ps_ost (pv 0) (pv 1)))
theorem ok__law_at : FnOk P w K mg base CX0 1 T.f__law_at T.d__law_at ["script", "k"] (spF K g__law_at) :=
  fn_okE (k := 0) b__law_at 2 2 T.F__law_at sc__law_at rfl rfl rfl fun cdv A outer s H E hr =>
  (xss_cons (xs_if (xb_cmp op_lt gq_lt (xv 1) (xe_len T.z_len (xvo 0)) (nomark _))
  (xss_one (xs_ret (xe_idxV 0 (xv 1))))
  xss_nil)
  (xss_one (xs_ret xe_int)))
theorem ok__law_all : FnOk P w K mg base CX0 3 T.f__law_all T.d__law_all ["text", "number"] (spF K g__law_all) :=
  fn_okE (k := 2) b__law_all 3 2 T.F__law_all sc__law_all rfl rfl rfl fun cdv A outer s H E hr =>
  (xss_cons (xs_set 2 (XN.xe (xn_lst (xl_cons (xe_exc0 T.o_BadClock (xv 0)) (xl_cons (xe_exc0 T.o_TooAlike (xv 0)) (xl_cons (xe_exc0 T.o_NoHand (xv 0)) (xl_cons (xe_exc0 T.o_NoSuch (xv 0)) (xl_cons (xe_exc0 T.o_NoMark (xv 0)) (xl_cons (xe_exc0 T.o_NoRow (xv 0)) (xl_cons (xe_exc0 T.o_NoBack (xv 0)) xl_nil))))))))) sc__law_all.nd)
  (xss_one (xs_ret (xe_add (xv 2) (XN.xe (xn_lst (xl_cons (xe_exc1 T.oex_Coarse T.ii_Coarse T.ity_Coarse (ok_init_Coarse T) (hr.mono (by decide)) T.bi_Coarse T.m_Coarse (xv 1)) (xl_cons (xe_exc1 T.oex_NoText T.ii_NoText T.ity_NoText (ok_init_NoText T) (hr.mono (by decide)) T.bi_NoText T.m_NoText (xv 1)) xl_nil))))))))
theorem ok__law_kinds : FnOk P w K mg base CX0 1 T.f__law_kinds T.d__law_kinds ["one"] (spF K g__law_kinds) :=
  fn_okE (k := 0) b__law_kinds 1 1 T.F__law_kinds sc__law_kinds rfl rfl rfl fun cdv A outer s H E hr =>
  (xss_one (xs_ret (XN.xe (xn_lst (xl_cons (xe_isO tab_BadClock T.i_BadClock T.m_BadClock T.z_isinstance (xv 0)) (xl_cons (xe_isO tab_TooAlike T.i_TooAlike T.m_TooAlike T.z_isinstance (xv 0)) (xl_cons (xe_isO tab_NoHand T.i_NoHand T.m_NoHand T.z_isinstance (xv 0)) (xl_cons (xe_isO tab_NoSuch T.i_NoSuch T.m_NoSuch T.z_isinstance (xv 0)) (xl_cons (xe_isO tab_NoMark T.i_NoMark T.m_NoMark T.z_isinstance (xv 0)) (xl_cons (xe_isO tab_NoRow T.i_NoRow T.m_NoRow T.z_isinstance (xv 0)) (xl_cons (xe_isO tab_NoBack T.i_NoBack T.m_NoBack T.z_isinstance (xv 0)) (xl_cons (xe_isO tab_Coarse T.i_Coarse T.m_Coarse T.z_isinstance (xv 0)) (xl_cons (xe_isO tab_NoText T.i_NoText T.m_NoText T.z_isinstance (xv 0)) xl_nil)))))))))))))
theorem ok_law : FnOk P w K mg base CX0 4 T.f_law T.d_law ["script"] (spF K g_law) :=
  fn_okE (k := 3) b_law 6 1 T.F_law sc_law rfl rfl rfl fun cdv A outer s H E hr =>
  (xss_cons (xs_set 1 (xe_mod (xe_abs T.z_abs (XE.xo (xe_call ((ok__law_at T).mono (by decide)) hr T.m__law_at T.F__law_at.kp T.b__law_at (xa_o 0 (xa_v xe_int xa_nil))))) (xe_pow xe_int xe_int)) sc_law.nd)
  (xss_cons (xs_set 2 (xe_call ((ok__law_all T).mono (by decide)) hr T.m__law_all T.F__law_all.kp T.b__law_all (xa_v (xe_add xe_str (xe_str1 T.z_str (XE.xo (xe_mod (xv 1) xe_int)))) (xa_v (xv 1) xa_nil))) sc_law.nd)
  (xss_cons (xs_for PassesOwn.never (xi_rng1 xe_int T.z_range) (xg_name 3 sc_law.nd)
  (xss_cons (xs_set 4 (xe_call ((ok__law_kinds T).mono (by decide)) hr T.m__law_kinds T.F__law_kinds.kp T.b__law_kinds (xa_v (xe_idx (xv 2) (xv 3)) xa_nil)) sc_law.nd)
  (xss_cons (xs_if (xb_cmp (op_neD hr.units) gq_ne (XN.xe (xn_comp (own := [("place", 5)]) (xi_rng1 xe_int T.z_range) sc_law.nd (blkOk_by (N := N_law) (sc := defScope s_law) (by decide +kernel)) (fun _ _ _ _ _ => (xg_name 5 sc_law.nd)) (fun _ _ _ _ _ => (xts_one (xb_val (xe_idx (xv 4) (xv 5))))) (fun _ _ _ _ _ => (xv 5)))) (XN.xe (xn_lst (xl_cons (xv 3) xl_nil))) (nomark _))
  (xss_one (xs_ret xe_bl))
  xss_nil)
  (xss_one (xs_if (xb_w (xw_or (xb_not (xb_val (xe_isO tab_DoubtError T.i_DoubtError T.m_DoubtError T.z_isinstance (xe_idx (xv 2) (xv 3))))) (xw_or1 (xb_not (xb_val (xe_isVE tab_ValueError T.i_ValueError T.z_ValueError T.z_isinstance (xe_idx (xv 2) (xv 3))))))))
  (xss_one (xs_ret xe_bl))
  xss_nil)))))
  (xss_one (xs_ret (xe_and (xe_cmp (op_eqD hr.units) gq_eq (xe_attr T.f_Coarse_step (xe_idx (xv 2) xe_int)) (xv 1) (nomark _)) (xe_one (xe_cmp (op_eqD hr.units) gq_eq (xe_attr T.f_NoText_row (xe_idx (xv 2) xe_int)) (xv 1) (nomark _)))))))))
end
end Lw

namespace Lw
open PySem PySem.Spec PyProof.Rows L2 M
theorem tx_mk {K : Frg} {h : Heap} {mg : Str → Option Value} (X : K.In h) (G : h.Ns mainGlobals mg)
    {od0 an0 : Option Addr} {sl0 : Array (Option Value)} {oc0 kV0 dc0 pm0 cd0 ct0 : Value} {f0 : Addr}
    (a0 : PySem.W.nsIn K mainGlobals "_law_at" = some (some (.ref f0))) (l0 : K.lookup f0 = some ⟨oc0, od0, .func (PySem.W.fnOf "_law_at" "_law_at" (defArgs s__law_at) (defBody s__law_at) (defScope s__law_at) .none kV0 dc0 pm0 an0 cd0 ct0), sl0⟩) (c0 : PySem.W.codeIn K cd0 "_law_at" = true) (k0 : PySem.W.keepIn K (.ref f0) = true)
    {od1 an1 : Option Addr} {sl1 : Array (Option Value)} {oc1 kV1 dc1 pm1 cd1 ct1 : Value} {f1 : Addr}
    (a1 : PySem.W.nsIn K mainGlobals "_law_all" = some (some (.ref f1))) (l1 : K.lookup f1 = some ⟨oc1, od1, .func (PySem.W.fnOf "_law_all" "_law_all" (defArgs s__law_all) (defBody s__law_all) (defScope s__law_all) .none kV1 dc1 pm1 an1 cd1 ct1), sl1⟩) (c1 : PySem.W.codeIn K cd1 "_law_all" = true) (k1 : PySem.W.keepIn K (.ref f1) = true)
    {od2 an2 : Option Addr} {sl2 : Array (Option Value)} {oc2 kV2 dc2 pm2 cd2 ct2 : Value} {f2 : Addr}
    (a2 : PySem.W.nsIn K mainGlobals "_law_kinds" = some (some (.ref f2))) (l2 : K.lookup f2 = some ⟨oc2, od2, .func (PySem.W.fnOf "_law_kinds" "_law_kinds" (defArgs s__law_kinds) (defBody s__law_kinds) (defScope s__law_kinds) .none kV2 dc2 pm2 an2 cd2 ct2), sl2⟩) (c2 : PySem.W.codeIn K cd2 "_law_kinds" = true) (k2 : PySem.W.keepIn K (.ref f2) = true)
    {od3 an3 : Option Addr} {sl3 : Array (Option Value)} {oc3 kV3 dc3 pm3 cd3 ct3 : Value} {f3 : Addr}
    (a3 : PySem.W.nsIn K mainGlobals "law" = some (some (.ref f3))) (l3 : K.lookup f3 = some ⟨oc3, od3, .func (PySem.W.fnOf "law" "law" (defArgs s_law) (defBody s_law) (defScope s_law) .none kV3 dc3 pm3 an3 cd3 ct3), sl3⟩) (c3 : PySem.W.codeIn K cd3 "law" = true) (k3 : PySem.W.keepIn K (.ref f3) = true)
    (z0 : PySem.W.nsIn K mainGlobals "ValueError" = some none)
    (z1 : PySem.W.nsIn K mainGlobals "abs" = some none)
    (z2 : PySem.W.nsIn K mainGlobals "isinstance" = some none)
    (z3 : PySem.W.nsIn K mainGlobals "len" = some none)
    (z4 : PySem.W.nsIn K mainGlobals "range" = some none)
    (z5 : PySem.W.nsIn K mainGlobals "str" = some none)
    {nm_Coarse q_Coarse : Str} {N_Coarse : Addr} {bs_Coarse : List Value} {sn_Coarse : List Str} {sub_Coarse : List Value} {ab_Coarse : Bool} {col_Coarse : Option Bool} {dd_Coarse : Option Addr} {k0_Coarse k1_Coarse k2_Coarse k3_Coarse k5_Coarse : Option Value} {fi_Coarse : Addr} {od_Coarse an_Coarse : Option Addr} {sl_Coarse : Array (Option Value)} {oc_Coarse kV_Coarse dc_Coarse pm_Coarse cd_Coarse ct_Coarse : Value}
    {nm_NoText q_NoText : Str} {N_NoText : Addr} {bs_NoText : List Value} {sn_NoText : List Str} {sub_NoText : List Value} {ab_NoText : Bool} {col_NoText : Option Bool} {dd_NoText : Option Addr} {k0_NoText k1_NoText k2_NoText k3_NoText k5_NoText : Option Value} {fi_NoText : Addr} {od_NoText an_NoText : Option Addr} {sl_NoText : Array (Option Value)} {oc_NoText kV_NoText dc_NoText pm_NoText cd_NoText ct_NoText : Value}
    (X_m_BadClock : PySem.W.nsIn K mainGlobals "BadClock" = some (some (.ref C_BadClock)))
    (X_m_Coarse : PySem.W.nsIn K mainGlobals "Coarse" = some (some (.ref C_Coarse)))
    (X_m_DoubtError : PySem.W.nsIn K mainGlobals "DoubtError" = some (some (.ref C_DoubtError)))
    (X_m_NoBack : PySem.W.nsIn K mainGlobals "NoBack" = some (some (.ref C_NoBack)))
    (X_m_NoHand : PySem.W.nsIn K mainGlobals "NoHand" = some (some (.ref C_NoHand)))
    (X_m_NoMark : PySem.W.nsIn K mainGlobals "NoMark" = some (some (.ref C_NoMark)))
    (X_m_NoRow : PySem.W.nsIn K mainGlobals "NoRow" = some (some (.ref C_NoRow)))
    (X_m_NoSuch : PySem.W.nsIn K mainGlobals "NoSuch" = some (some (.ref C_NoSuch)))
    (X_m_NoText : PySem.W.nsIn K mainGlobals "NoText" = some (some (.ref C_NoText)))
    (X_m_TooAlike : PySem.W.nsIn K mainGlobals "TooAlike" = some (some (.ref C_TooAlike)))
    (X_x_BadClock : PySem.W.excIn K C_BadClock [.type "ValueError", .type "Exception", .type "BaseException", .type "object"] "ValueError.__new__" = true)
    (X_k_BadClock : PySem.W.keepIn K (.ref C_BadClock) = true)
    (X_hg_BadClock : PySem.W.findIn K (.ref C_BadClock) "__getattribute__" = some (some (.builtin "BaseException.__getattribute__")))
    (X_hk_BadClock : PySem.W.findIn K (.ref C_BadClock) "__getattr__" = some none)
    (X_ha_BadClock : PySem.W.findIn K (.ref C_BadClock) "__class__" = some (some (.builtin "object.__class__")))
    (X_hm_BadClock : PySem.W.mroIn K C_BadClock (.type "object") = some true)
    (X_k_Coarse : PySem.W.keepIn K (.ref C_Coarse) = true)
    (X_hg_Coarse : PySem.W.findIn K (.ref C_Coarse) "__getattribute__" = some (some (.builtin "BaseException.__getattribute__")))
    (X_hk_Coarse : PySem.W.findIn K (.ref C_Coarse) "__getattr__" = some none)
    (X_ha_Coarse : PySem.W.findIn K (.ref C_Coarse) "__class__" = some (some (.builtin "object.__class__")))
    (X_hm_Coarse : PySem.W.mroIn K C_Coarse (.type "object") = some true)
    (X_x_NoBack : PySem.W.excIn K C_NoBack [.type "ValueError", .type "Exception", .type "BaseException", .type "object"] "ValueError.__new__" = true)
    (X_k_NoBack : PySem.W.keepIn K (.ref C_NoBack) = true)
    (X_hg_NoBack : PySem.W.findIn K (.ref C_NoBack) "__getattribute__" = some (some (.builtin "BaseException.__getattribute__")))
    (X_hk_NoBack : PySem.W.findIn K (.ref C_NoBack) "__getattr__" = some none)
    (X_ha_NoBack : PySem.W.findIn K (.ref C_NoBack) "__class__" = some (some (.builtin "object.__class__")))
    (X_hm_NoBack : PySem.W.mroIn K C_NoBack (.type "object") = some true)
    (X_x_NoHand : PySem.W.excIn K C_NoHand [.type "ValueError", .type "Exception", .type "BaseException", .type "object"] "ValueError.__new__" = true)
    (X_k_NoHand : PySem.W.keepIn K (.ref C_NoHand) = true)
    (X_hg_NoHand : PySem.W.findIn K (.ref C_NoHand) "__getattribute__" = some (some (.builtin "BaseException.__getattribute__")))
    (X_hk_NoHand : PySem.W.findIn K (.ref C_NoHand) "__getattr__" = some none)
    (X_ha_NoHand : PySem.W.findIn K (.ref C_NoHand) "__class__" = some (some (.builtin "object.__class__")))
    (X_hm_NoHand : PySem.W.mroIn K C_NoHand (.type "object") = some true)
    (X_x_NoMark : PySem.W.excIn K C_NoMark [.type "ValueError", .type "Exception", .type "BaseException", .type "object"] "ValueError.__new__" = true)
    (X_k_NoMark : PySem.W.keepIn K (.ref C_NoMark) = true)
    (X_hg_NoMark : PySem.W.findIn K (.ref C_NoMark) "__getattribute__" = some (some (.builtin "BaseException.__getattribute__")))
    (X_hk_NoMark : PySem.W.findIn K (.ref C_NoMark) "__getattr__" = some none)
    (X_ha_NoMark : PySem.W.findIn K (.ref C_NoMark) "__class__" = some (some (.builtin "object.__class__")))
    (X_hm_NoMark : PySem.W.mroIn K C_NoMark (.type "object") = some true)
    (X_x_NoRow : PySem.W.excIn K C_NoRow [.type "ValueError", .type "Exception", .type "BaseException", .type "object"] "ValueError.__new__" = true)
    (X_k_NoRow : PySem.W.keepIn K (.ref C_NoRow) = true)
    (X_hg_NoRow : PySem.W.findIn K (.ref C_NoRow) "__getattribute__" = some (some (.builtin "BaseException.__getattribute__")))
    (X_hk_NoRow : PySem.W.findIn K (.ref C_NoRow) "__getattr__" = some none)
    (X_ha_NoRow : PySem.W.findIn K (.ref C_NoRow) "__class__" = some (some (.builtin "object.__class__")))
    (X_hm_NoRow : PySem.W.mroIn K C_NoRow (.type "object") = some true)
    (X_x_NoSuch : PySem.W.excIn K C_NoSuch [.type "ValueError", .type "Exception", .type "BaseException", .type "object"] "ValueError.__new__" = true)
    (X_k_NoSuch : PySem.W.keepIn K (.ref C_NoSuch) = true)
    (X_hg_NoSuch : PySem.W.findIn K (.ref C_NoSuch) "__getattribute__" = some (some (.builtin "BaseException.__getattribute__")))
    (X_hk_NoSuch : PySem.W.findIn K (.ref C_NoSuch) "__getattr__" = some none)
    (X_ha_NoSuch : PySem.W.findIn K (.ref C_NoSuch) "__class__" = some (some (.builtin "object.__class__")))
    (X_hm_NoSuch : PySem.W.mroIn K C_NoSuch (.type "object") = some true)
    (X_k_NoText : PySem.W.keepIn K (.ref C_NoText) = true)
    (X_hg_NoText : PySem.W.findIn K (.ref C_NoText) "__getattribute__" = some (some (.builtin "BaseException.__getattribute__")))
    (X_hk_NoText : PySem.W.findIn K (.ref C_NoText) "__getattr__" = some none)
    (X_ha_NoText : PySem.W.findIn K (.ref C_NoText) "__class__" = some (some (.builtin "object.__class__")))
    (X_hm_NoText : PySem.W.mroIn K C_NoText (.type "object") = some true)
    (X_x_TooAlike : PySem.W.excIn K C_TooAlike [.type "ValueError", .type "Exception", .type "BaseException", .type "object"] "ValueError.__new__" = true)
    (X_k_TooAlike : PySem.W.keepIn K (.ref C_TooAlike) = true)
    (X_hg_TooAlike : PySem.W.findIn K (.ref C_TooAlike) "__getattribute__" = some (some (.builtin "BaseException.__getattribute__")))
    (X_hk_TooAlike : PySem.W.findIn K (.ref C_TooAlike) "__getattr__" = some none)
    (X_ha_TooAlike : PySem.W.findIn K (.ref C_TooAlike) "__class__" = some (some (.builtin "object.__class__")))
    (X_hm_TooAlike : PySem.W.mroIn K C_TooAlike (.type "object") = some true)
    (X_hn_ : PySem.W.specialIn K (.builtin "object.__class__") "__get__" = some (some (.builtin "getset_descriptor.__get__")))
    (X_ht_ : PySem.W.takesIn K (.builtin "object.__class__") = some true)
    (X_b_BadClock : PySem.W.subIn K (.ref C_BadClock) (.type "BaseException") = some true)
    (X_hd_BadClock : PySem.W.hasDictIn K C_BadClock = true)
    (X_b_Coarse : PySem.W.subIn K (.ref C_Coarse) (.type "BaseException") = some true)
    (X_hd_Coarse : PySem.W.hasDictIn K C_Coarse = true)
    (X_b_NoBack : PySem.W.subIn K (.ref C_NoBack) (.type "BaseException") = some true)
    (X_hd_NoBack : PySem.W.hasDictIn K C_NoBack = true)
    (X_b_NoHand : PySem.W.subIn K (.ref C_NoHand) (.type "BaseException") = some true)
    (X_hd_NoHand : PySem.W.hasDictIn K C_NoHand = true)
    (X_b_NoMark : PySem.W.subIn K (.ref C_NoMark) (.type "BaseException") = some true)
    (X_hd_NoMark : PySem.W.hasDictIn K C_NoMark = true)
    (X_b_NoRow : PySem.W.subIn K (.ref C_NoRow) (.type "BaseException") = some true)
    (X_hd_NoRow : PySem.W.hasDictIn K C_NoRow = true)
    (X_b_NoSuch : PySem.W.subIn K (.ref C_NoSuch) (.type "BaseException") = some true)
    (X_hd_NoSuch : PySem.W.hasDictIn K C_NoSuch = true)
    (X_b_NoText : PySem.W.subIn K (.ref C_NoText) (.type "BaseException") = some true)
    (X_hd_NoText : PySem.W.hasDictIn K C_NoText = true)
    (X_b_TooAlike : PySem.W.subIn K (.ref C_TooAlike) (.type "BaseException") = some true)
    (X_hd_TooAlike : PySem.W.hasDictIn K C_TooAlike = true)
    (X_ty_BadClock : PySem.W.typeIn K (.ref C_BadClock) = some (.type "type"))
    (X_ty_Coarse : PySem.W.typeIn K (.ref C_Coarse) = some (.type "type"))
    (X_ty_DoubtError : PySem.W.typeIn K (.ref C_DoubtError) = some (.type "type"))
    (X_ty_NoBack : PySem.W.typeIn K (.ref C_NoBack) = some (.type "type"))
    (X_ty_NoHand : PySem.W.typeIn K (.ref C_NoHand) = some (.type "type"))
    (X_ty_NoMark : PySem.W.typeIn K (.ref C_NoMark) = some (.type "type"))
    (X_ty_NoRow : PySem.W.typeIn K (.ref C_NoRow) = some (.type "type"))
    (X_ty_NoSuch : PySem.W.typeIn K (.ref C_NoSuch) = some (.type "type"))
    (X_ty_NoText : PySem.W.typeIn K (.ref C_NoText) = some (.type "type"))
    (X_ty_TooAlike : PySem.W.typeIn K (.ref C_TooAlike) = some (.type "type"))
    (X_ic_BadClock : PySem.W.isClsIn K C_BadClock = true)
    (X_sn_BadClock : PySem.W.subIn K (.type "NoneType") (.ref C_BadClock) = some false)
    (X_ic_Coarse : PySem.W.isClsIn K C_Coarse = true)
    (X_sn_Coarse : PySem.W.subIn K (.type "NoneType") (.ref C_Coarse) = some false)
    (X_ic_DoubtError : PySem.W.isClsIn K C_DoubtError = true)
    (X_sn_DoubtError : PySem.W.subIn K (.type "NoneType") (.ref C_DoubtError) = some false)
    (X_ic_NoBack : PySem.W.isClsIn K C_NoBack = true)
    (X_sn_NoBack : PySem.W.subIn K (.type "NoneType") (.ref C_NoBack) = some false)
    (X_ic_NoHand : PySem.W.isClsIn K C_NoHand = true)
    (X_sn_NoHand : PySem.W.subIn K (.type "NoneType") (.ref C_NoHand) = some false)
    (X_ic_NoMark : PySem.W.isClsIn K C_NoMark = true)
    (X_sn_NoMark : PySem.W.subIn K (.type "NoneType") (.ref C_NoMark) = some false)
    (X_ic_NoRow : PySem.W.isClsIn K C_NoRow = true)
    (X_sn_NoRow : PySem.W.subIn K (.type "NoneType") (.ref C_NoRow) = some false)
    (X_ic_NoSuch : PySem.W.isClsIn K C_NoSuch = true)
    (X_sn_NoSuch : PySem.W.subIn K (.type "NoneType") (.ref C_NoSuch) = some false)
    (X_ic_NoText : PySem.W.isClsIn K C_NoText = true)
    (X_sn_NoText : PySem.W.subIn K (.type "NoneType") (.ref C_NoText) = some false)
    (X_ic_TooAlike : PySem.W.isClsIn K C_TooAlike = true)
    (X_sn_TooAlike : PySem.W.subIn K (.type "NoneType") (.ref C_TooAlike) = some false)
    (X_sn_ValueError : PySem.W.subIn K (.type "NoneType") (.type "ValueError") = some false)
    (X_s_BadClock_Coarse : PySem.W.subIn K (.ref C_BadClock) (.ref C_Coarse) = some false)
    (X_s_BadClock_DoubtError : PySem.W.subIn K (.ref C_BadClock) (.ref C_DoubtError) = some true)
    (X_s_BadClock_NoBack : PySem.W.subIn K (.ref C_BadClock) (.ref C_NoBack) = some false)
    (X_s_BadClock_NoHand : PySem.W.subIn K (.ref C_BadClock) (.ref C_NoHand) = some false)
    (X_s_BadClock_NoMark : PySem.W.subIn K (.ref C_BadClock) (.ref C_NoMark) = some false)
    (X_s_BadClock_NoRow : PySem.W.subIn K (.ref C_BadClock) (.ref C_NoRow) = some false)
    (X_s_BadClock_NoSuch : PySem.W.subIn K (.ref C_BadClock) (.ref C_NoSuch) = some false)
    (X_s_BadClock_NoText : PySem.W.subIn K (.ref C_BadClock) (.ref C_NoText) = some false)
    (X_s_BadClock_TooAlike : PySem.W.subIn K (.ref C_BadClock) (.ref C_TooAlike) = some false)
    (X_s_BadClock_ValueError : PySem.W.subIn K (.ref C_BadClock) (.type "ValueError") = some true)
    (X_s_Coarse_BadClock : PySem.W.subIn K (.ref C_Coarse) (.ref C_BadClock) = some false)
    (X_s_Coarse_DoubtError : PySem.W.subIn K (.ref C_Coarse) (.ref C_DoubtError) = some true)
    (X_s_Coarse_NoBack : PySem.W.subIn K (.ref C_Coarse) (.ref C_NoBack) = some false)
    (X_s_Coarse_NoHand : PySem.W.subIn K (.ref C_Coarse) (.ref C_NoHand) = some false)
    (X_s_Coarse_NoMark : PySem.W.subIn K (.ref C_Coarse) (.ref C_NoMark) = some false)
    (X_s_Coarse_NoRow : PySem.W.subIn K (.ref C_Coarse) (.ref C_NoRow) = some false)
    (X_s_Coarse_NoSuch : PySem.W.subIn K (.ref C_Coarse) (.ref C_NoSuch) = some false)
    (X_s_Coarse_NoText : PySem.W.subIn K (.ref C_Coarse) (.ref C_NoText) = some false)
    (X_s_Coarse_TooAlike : PySem.W.subIn K (.ref C_Coarse) (.ref C_TooAlike) = some false)
    (X_s_Coarse_ValueError : PySem.W.subIn K (.ref C_Coarse) (.type "ValueError") = some true)
    (X_s_NoBack_BadClock : PySem.W.subIn K (.ref C_NoBack) (.ref C_BadClock) = some false)
    (X_s_NoBack_Coarse : PySem.W.subIn K (.ref C_NoBack) (.ref C_Coarse) = some false)
    (X_s_NoBack_DoubtError : PySem.W.subIn K (.ref C_NoBack) (.ref C_DoubtError) = some true)
    (X_s_NoBack_NoHand : PySem.W.subIn K (.ref C_NoBack) (.ref C_NoHand) = some false)
    (X_s_NoBack_NoMark : PySem.W.subIn K (.ref C_NoBack) (.ref C_NoMark) = some false)
    (X_s_NoBack_NoRow : PySem.W.subIn K (.ref C_NoBack) (.ref C_NoRow) = some false)
    (X_s_NoBack_NoSuch : PySem.W.subIn K (.ref C_NoBack) (.ref C_NoSuch) = some false)
    (X_s_NoBack_NoText : PySem.W.subIn K (.ref C_NoBack) (.ref C_NoText) = some false)
    (X_s_NoBack_TooAlike : PySem.W.subIn K (.ref C_NoBack) (.ref C_TooAlike) = some false)
    (X_s_NoBack_ValueError : PySem.W.subIn K (.ref C_NoBack) (.type "ValueError") = some true)
    (X_s_NoHand_BadClock : PySem.W.subIn K (.ref C_NoHand) (.ref C_BadClock) = some false)
    (X_s_NoHand_Coarse : PySem.W.subIn K (.ref C_NoHand) (.ref C_Coarse) = some false)
    (X_s_NoHand_DoubtError : PySem.W.subIn K (.ref C_NoHand) (.ref C_DoubtError) = some true)
    (X_s_NoHand_NoBack : PySem.W.subIn K (.ref C_NoHand) (.ref C_NoBack) = some false)
    (X_s_NoHand_NoMark : PySem.W.subIn K (.ref C_NoHand) (.ref C_NoMark) = some false)
    (X_s_NoHand_NoRow : PySem.W.subIn K (.ref C_NoHand) (.ref C_NoRow) = some false)
    (X_s_NoHand_NoSuch : PySem.W.subIn K (.ref C_NoHand) (.ref C_NoSuch) = some false)
    (X_s_NoHand_NoText : PySem.W.subIn K (.ref C_NoHand) (.ref C_NoText) = some false)
    (X_s_NoHand_TooAlike : PySem.W.subIn K (.ref C_NoHand) (.ref C_TooAlike) = some false)
    (X_s_NoHand_ValueError : PySem.W.subIn K (.ref C_NoHand) (.type "ValueError") = some true)
    (X_s_NoMark_BadClock : PySem.W.subIn K (.ref C_NoMark) (.ref C_BadClock) = some false)
    (X_s_NoMark_Coarse : PySem.W.subIn K (.ref C_NoMark) (.ref C_Coarse) = some false)
    (X_s_NoMark_DoubtError : PySem.W.subIn K (.ref C_NoMark) (.ref C_DoubtError) = some true)
    (X_s_NoMark_NoBack : PySem.W.subIn K (.ref C_NoMark) (.ref C_NoBack) = some false)
    (X_s_NoMark_NoHand : PySem.W.subIn K (.ref C_NoMark) (.ref C_NoHand) = some false)
    (X_s_NoMark_NoRow : PySem.W.subIn K (.ref C_NoMark) (.ref C_NoRow) = some false)
    (X_s_NoMark_NoSuch : PySem.W.subIn K (.ref C_NoMark) (.ref C_NoSuch) = some false)
    (X_s_NoMark_NoText : PySem.W.subIn K (.ref C_NoMark) (.ref C_NoText) = some false)
    (X_s_NoMark_TooAlike : PySem.W.subIn K (.ref C_NoMark) (.ref C_TooAlike) = some false)
    (X_s_NoMark_ValueError : PySem.W.subIn K (.ref C_NoMark) (.type "ValueError") = some true)
    (X_s_NoRow_BadClock : PySem.W.subIn K (.ref C_NoRow) (.ref C_BadClock) = some false)
    (X_s_NoRow_Coarse : PySem.W.subIn K (.ref C_NoRow) (.ref C_Coarse) = some false)
    (X_s_NoRow_DoubtError : PySem.W.subIn K (.ref C_NoRow) (.ref C_DoubtError) = some true)
    (X_s_NoRow_NoBack : PySem.W.subIn K (.ref C_NoRow) (.ref C_NoBack) = some false)
    (X_s_NoRow_NoHand : PySem.W.subIn K (.ref C_NoRow) (.ref C_NoHand) = some false)
    (X_s_NoRow_NoMark : PySem.W.subIn K (.ref C_NoRow) (.ref C_NoMark) = some false)
    (X_s_NoRow_NoSuch : PySem.W.subIn K (.ref C_NoRow) (.ref C_NoSuch) = some false)
    (X_s_NoRow_NoText : PySem.W.subIn K (.ref C_NoRow) (.ref C_NoText) = some false)
    (X_s_NoRow_TooAlike : PySem.W.subIn K (.ref C_NoRow) (.ref C_TooAlike) = some false)
    (X_s_NoRow_ValueError : PySem.W.subIn K (.ref C_NoRow) (.type "ValueError") = some true)
    (X_s_NoSuch_BadClock : PySem.W.subIn K (.ref C_NoSuch) (.ref C_BadClock) = some false)
    (X_s_NoSuch_Coarse : PySem.W.subIn K (.ref C_NoSuch) (.ref C_Coarse) = some false)
    (X_s_NoSuch_DoubtError : PySem.W.subIn K (.ref C_NoSuch) (.ref C_DoubtError) = some true)
    (X_s_NoSuch_NoBack : PySem.W.subIn K (.ref C_NoSuch) (.ref C_NoBack) = some false)
    (X_s_NoSuch_NoHand : PySem.W.subIn K (.ref C_NoSuch) (.ref C_NoHand) = some false)
    (X_s_NoSuch_NoMark : PySem.W.subIn K (.ref C_NoSuch) (.ref C_NoMark) = some false)
    (X_s_NoSuch_NoRow : PySem.W.subIn K (.ref C_NoSuch) (.ref C_NoRow) = some false)
    (X_s_NoSuch_NoText : PySem.W.subIn K (.ref C_NoSuch) (.ref C_NoText) = some false)
    (X_s_NoSuch_TooAlike : PySem.W.subIn K (.ref C_NoSuch) (.ref C_TooAlike) = some false)
    (X_s_NoSuch_ValueError : PySem.W.subIn K (.ref C_NoSuch) (.type "ValueError") = some true)
    (X_s_NoText_BadClock : PySem.W.subIn K (.ref C_NoText) (.ref C_BadClock) = some false)
    (X_s_NoText_Coarse : PySem.W.subIn K (.ref C_NoText) (.ref C_Coarse) = some false)
    (X_s_NoText_DoubtError : PySem.W.subIn K (.ref C_NoText) (.ref C_DoubtError) = some true)
    (X_s_NoText_NoBack : PySem.W.subIn K (.ref C_NoText) (.ref C_NoBack) = some false)
    (X_s_NoText_NoHand : PySem.W.subIn K (.ref C_NoText) (.ref C_NoHand) = some false)
    (X_s_NoText_NoMark : PySem.W.subIn K (.ref C_NoText) (.ref C_NoMark) = some false)
    (X_s_NoText_NoRow : PySem.W.subIn K (.ref C_NoText) (.ref C_NoRow) = some false)
    (X_s_NoText_NoSuch : PySem.W.subIn K (.ref C_NoText) (.ref C_NoSuch) = some false)
    (X_s_NoText_TooAlike : PySem.W.subIn K (.ref C_NoText) (.ref C_TooAlike) = some false)
    (X_s_NoText_ValueError : PySem.W.subIn K (.ref C_NoText) (.type "ValueError") = some true)
    (X_s_TooAlike_BadClock : PySem.W.subIn K (.ref C_TooAlike) (.ref C_BadClock) = some false)
    (X_s_TooAlike_Coarse : PySem.W.subIn K (.ref C_TooAlike) (.ref C_Coarse) = some false)
    (X_s_TooAlike_DoubtError : PySem.W.subIn K (.ref C_TooAlike) (.ref C_DoubtError) = some true)
    (X_s_TooAlike_NoBack : PySem.W.subIn K (.ref C_TooAlike) (.ref C_NoBack) = some false)
    (X_s_TooAlike_NoHand : PySem.W.subIn K (.ref C_TooAlike) (.ref C_NoHand) = some false)
    (X_s_TooAlike_NoMark : PySem.W.subIn K (.ref C_TooAlike) (.ref C_NoMark) = some false)
    (X_s_TooAlike_NoRow : PySem.W.subIn K (.ref C_TooAlike) (.ref C_NoRow) = some false)
    (X_s_TooAlike_NoSuch : PySem.W.subIn K (.ref C_TooAlike) (.ref C_NoSuch) = some false)
    (X_s_TooAlike_NoText : PySem.W.subIn K (.ref C_TooAlike) (.ref C_NoText) = some false)
    (X_s_TooAlike_ValueError : PySem.W.subIn K (.ref C_TooAlike) (.type "ValueError") = some true)
    (X_no_Coarse_step : PySem.W.findIn K (.ref C_Coarse) "step" = some none)
    (X_no_NoText_row : PySem.W.findIn K (.ref C_NoText) "row" = some none)
    (X_xl_Coarse : K.lookup C_Coarse = some (excClassObj nm_Coarse q_Coarse C_Coarse N_Coarse bs_Coarse [.ref C_DoubtError, .type "ValueError", .type "Exception", .type "BaseException", .type "object"] true sn_Coarse sub_Coarse ab_Coarse col_Coarse dd_Coarse k0_Coarse k1_Coarse k2_Coarse k3_Coarse k5_Coarse "ValueError.__new__"))
    (X_sa_Coarse : PySem.W.findIn K (.ref C_Coarse) "__setattr__" = some (some (.builtin "object.__setattr__")))
    (X_ii_Coarse : PySem.W.findIn K (.ref C_Coarse) "__init__" = some (some (.ref fi_Coarse)))
    (X_it_Coarse : PySem.W.typeIn K (.ref fi_Coarse) = some (.type "function"))
    (X_fl_Coarse : K.lookup fi_Coarse = some ⟨oc_Coarse, od_Coarse, .func (PySem.W.fnOf "__init__" "Coarse.__init__" (defArgs s_init_Coarse) (defBody s_init_Coarse) (defScope s_init_Coarse) .none kV_Coarse dc_Coarse pm_Coarse an_Coarse cd_Coarse ct_Coarse), sl_Coarse⟩)
    (X_fc_Coarse : PySem.W.codeIn K cd_Coarse "Coarse.__init__" = true)
    (X_fk_Coarse : PySem.W.keepIn K (.ref fi_Coarse) = true)
    (X_sg_Coarse : PySem.W.specialIn K (.ref C_DoubtError) "__getattribute__" = some (some (.builtin "type.__getattribute__")))
    (X_rd_Coarse : PySem.W.readsIn K C_DoubtError (.type "type") = true)
    (X_fx_Coarse : PySem.W.findCls K (.ref C_DoubtError) (.type "type") "__init__" = some (.val (.builtin "ValueError.__init__")))
    (X_xl_NoText : K.lookup C_NoText = some (excClassObj nm_NoText q_NoText C_NoText N_NoText bs_NoText [.ref C_DoubtError, .type "ValueError", .type "Exception", .type "BaseException", .type "object"] true sn_NoText sub_NoText ab_NoText col_NoText dd_NoText k0_NoText k1_NoText k2_NoText k3_NoText k5_NoText "ValueError.__new__"))
    (X_sa_NoText : PySem.W.findIn K (.ref C_NoText) "__setattr__" = some (some (.builtin "object.__setattr__")))
    (X_ii_NoText : PySem.W.findIn K (.ref C_NoText) "__init__" = some (some (.ref fi_NoText)))
    (X_it_NoText : PySem.W.typeIn K (.ref fi_NoText) = some (.type "function"))
    (X_fl_NoText : K.lookup fi_NoText = some ⟨oc_NoText, od_NoText, .func (PySem.W.fnOf "__init__" "NoText.__init__" (defArgs s_init_NoText) (defBody s_init_NoText) (defScope s_init_NoText) .none kV_NoText dc_NoText pm_NoText an_NoText cd_NoText ct_NoText), sl_NoText⟩)
    (X_fc_NoText : PySem.W.codeIn K cd_NoText "NoText.__init__" = true)
    (X_fk_NoText : PySem.W.keepIn K (.ref fi_NoText) = true)
    (X_sg_NoText : PySem.W.specialIn K (.ref C_DoubtError) "__getattribute__" = some (some (.builtin "type.__getattribute__")))
    (X_rd_NoText : PySem.W.readsIn K C_DoubtError (.type "type") = true)
    (X_fx_NoText : PySem.W.findCls K (.ref C_DoubtError) (.type "type") "__init__" = some (.val (.builtin "ValueError.__init__"))) :
    ∃ T : Tx K mg, T.f_law = f3 ∧ T.d_law = PySem.W.fnOf "law" "law" (defArgs s_law) (defBody s_law) (defScope s_law) .none kV3 dc3 pm3 an3 cd3 ct3 := by
  have F0 := fun_mk (st := s__law_at) l0 c0 k0
  have B0 := F0.binds (ps := ["script", "k"]) fun _ _ _ _ _ _ us hl => match us, hl with | [_, _], _ => rfl
  have F1 := fun_mk (st := s__law_all) l1 c1 k1
  have B1 := F1.binds (ps := ["text", "number"]) fun _ _ _ _ _ _ us hl => match us, hl with | [_, _], _ => rfl
  have F2 := fun_mk (st := s__law_kinds) l2 c2 k2
  have B2 := F2.binds (ps := ["one"]) fun _ _ _ _ _ _ us hl => match us, hl with | [_], _ => rfl
  have F3 := fun_mk (st := s_law) l3 c3 k3
  have B3 := F3.binds (ps := ["script"]) fun _ _ _ _ _ _ us hl => match us, hl with | [_], _ => rfl
  have Fi_Coarse := fun_mk (st := s_init_Coarse) X_fl_Coarse X_fc_Coarse X_fk_Coarse
  have Bi_Coarse := Fi_Coarse.binds (ps := ["self", "step"]) fun _ _ _ _ _ _ us hl => match us, hl with | [_, _], _ => rfl
  have Fi_NoText := fun_mk (st := s_init_NoText) X_fl_NoText X_fc_NoText X_fk_NoText
  have Bi_NoText := Fi_NoText.binds (ps := ["self", "row"]) fun _ _ _ _ _ _ us hl => match us, hl with | [_, _], _ => rfl
  exact ⟨{ f__law_at := _, d__law_at := _, F__law_at := F0, m__law_at := PySem.W.mg_of X G a0, b__law_at := B0, f__law_all := _, d__law_all := _, F__law_all := F1, m__law_all := PySem.W.mg_of X G a1, b__law_all := B1, f__law_kinds := _, d__law_kinds := _, F__law_kinds := F2, m__law_kinds := PySem.W.mg_of X G a2, b__law_kinds := B2, f_law := _, d_law := _, F_law := F3, m_law := PySem.W.mg_of X G a3, b_law := B3, z_ValueError := PySem.W.mg_none_of X G z0, z_abs := PySem.W.mg_none_of X G z1, z_isinstance := PySem.W.mg_none_of X G z2, z_len := PySem.W.mg_none_of X G z3, z_range := PySem.W.mg_none_of X G z4, z_str := PySem.W.mg_none_of X G z5, m_BadClock := PySem.W.mg_of X G X_m_BadClock, m_Coarse := PySem.W.mg_of X G X_m_Coarse, m_DoubtError := PySem.W.mg_of X G X_m_DoubtError, m_NoBack := PySem.W.mg_of X G X_m_NoBack, m_NoHand := PySem.W.mg_of X G X_m_NoHand, m_NoMark := PySem.W.mg_of X G X_m_NoMark, m_NoRow := PySem.W.mg_of X G X_m_NoRow, m_NoSuch := PySem.W.mg_of X G X_m_NoSuch, m_NoText := PySem.W.mg_of X G X_m_NoText, m_TooAlike := PySem.W.mg_of X G X_m_TooAlike, o_BadClock := ⟨PySem.W.mg_of X G X_m_BadClock, X_x_BadClock, X_k_BadClock, X_b_BadClock, X_ty_BadClock⟩, o_NoBack := ⟨PySem.W.mg_of X G X_m_NoBack, X_x_NoBack, X_k_NoBack, X_b_NoBack, X_ty_NoBack⟩, o_NoHand := ⟨PySem.W.mg_of X G X_m_NoHand, X_x_NoHand, X_k_NoHand, X_b_NoHand, X_ty_NoHand⟩, o_NoMark := ⟨PySem.W.mg_of X G X_m_NoMark, X_x_NoMark, X_k_NoMark, X_b_NoMark, X_ty_NoMark⟩, o_NoRow := ⟨PySem.W.mg_of X G X_m_NoRow, X_x_NoRow, X_k_NoRow, X_b_NoRow, X_ty_NoRow⟩, o_NoSuch := ⟨PySem.W.mg_of X G X_m_NoSuch, X_x_NoSuch, X_k_NoSuch, X_b_NoSuch, X_ty_NoSuch⟩, o_TooAlike := ⟨PySem.W.mg_of X G X_m_TooAlike, X_x_TooAlike, X_k_TooAlike, X_b_TooAlike, X_ty_TooAlike⟩, fi_Coarse := _, di_Coarse := _, Fi_Coarse := Fi_Coarse, bi_Coarse := Bi_Coarse, oex_Coarse := ⟨⟨_, _, _, _, _, _, _, _, _, _, _, _, _, _, _, X_xl_Coarse, by decide +kernel⟩, X_sa_Coarse, X_b_Coarse, X_ty_Coarse, X_k_Coarse⟩, ii_Coarse := X_ii_Coarse, ity_Coarse := X_it_Coarse, xd_Coarse := ⟨X_sg_Coarse, X_rd_Coarse, X_fx_Coarse⟩, fi_NoText := _, di_NoText := _, Fi_NoText := Fi_NoText, bi_NoText := Bi_NoText, oex_NoText := ⟨⟨_, _, _, _, _, _, _, _, _, _, _, _, _, _, _, X_xl_NoText, by decide +kernel⟩, X_sa_NoText, X_b_NoText, X_ty_NoText, X_k_NoText⟩, ii_NoText := X_ii_NoText, ity_NoText := X_it_NoText, xd_NoText := ⟨X_sg_NoText, X_rd_NoText, X_fx_NoText⟩, i_BadClock := (.add ⟨X_hg_BadClock, X_hk_BadClock, X_b_BadClock, X_hd_BadClock, X_ha_BadClock, X_hn_, X_ht_, X_hm_BadClock⟩ kit_self (.add ⟨X_hg_Coarse, X_hk_Coarse, X_b_Coarse, X_hd_Coarse, X_ha_Coarse, X_hn_, X_ht_, X_hm_Coarse⟩ (kit_own X_s_Coarse_BadClock X_ic_BadClock X_ty_BadClock (by decide)) (.add ⟨X_hg_NoBack, X_hk_NoBack, X_b_NoBack, X_hd_NoBack, X_ha_NoBack, X_hn_, X_ht_, X_hm_NoBack⟩ (kit_own X_s_NoBack_BadClock X_ic_BadClock X_ty_BadClock (by decide)) (.add ⟨X_hg_NoHand, X_hk_NoHand, X_b_NoHand, X_hd_NoHand, X_ha_NoHand, X_hn_, X_ht_, X_hm_NoHand⟩ (kit_own X_s_NoHand_BadClock X_ic_BadClock X_ty_BadClock (by decide)) (.add ⟨X_hg_NoMark, X_hk_NoMark, X_b_NoMark, X_hd_NoMark, X_ha_NoMark, X_hn_, X_ht_, X_hm_NoMark⟩ (kit_own X_s_NoMark_BadClock X_ic_BadClock X_ty_BadClock (by decide)) (.add ⟨X_hg_NoRow, X_hk_NoRow, X_b_NoRow, X_hd_NoRow, X_ha_NoRow, X_hn_, X_ht_, X_hm_NoRow⟩ (kit_own X_s_NoRow_BadClock X_ic_BadClock X_ty_BadClock (by decide)) (.add ⟨X_hg_NoSuch, X_hk_NoSuch, X_b_NoSuch, X_hd_NoSuch, X_ha_NoSuch, X_hn_, X_ht_, X_hm_NoSuch⟩ (kit_own X_s_NoSuch_BadClock X_ic_BadClock X_ty_BadClock (by decide)) (.add ⟨X_hg_NoText, X_hk_NoText, X_b_NoText, X_hd_NoText, X_ha_NoText, X_hn_, X_ht_, X_hm_NoText⟩ (kit_own X_s_NoText_BadClock X_ic_BadClock X_ty_BadClock (by decide)) (.add ⟨X_hg_TooAlike, X_hk_TooAlike, X_b_TooAlike, X_hd_TooAlike, X_ha_TooAlike, X_hn_, X_ht_, X_hm_TooAlike⟩ (kit_own X_s_TooAlike_BadClock X_ic_BadClock X_ty_BadClock (by decide)) (.nil (kit_own X_sn_BadClock X_ic_BadClock X_ty_BadClock (by decide)))))))))))), i_Coarse := (.add ⟨X_hg_BadClock, X_hk_BadClock, X_b_BadClock, X_hd_BadClock, X_ha_BadClock, X_hn_, X_ht_, X_hm_BadClock⟩ (kit_own X_s_BadClock_Coarse X_ic_Coarse X_ty_Coarse (by decide)) (.add ⟨X_hg_Coarse, X_hk_Coarse, X_b_Coarse, X_hd_Coarse, X_ha_Coarse, X_hn_, X_ht_, X_hm_Coarse⟩ kit_self (.add ⟨X_hg_NoBack, X_hk_NoBack, X_b_NoBack, X_hd_NoBack, X_ha_NoBack, X_hn_, X_ht_, X_hm_NoBack⟩ (kit_own X_s_NoBack_Coarse X_ic_Coarse X_ty_Coarse (by decide)) (.add ⟨X_hg_NoHand, X_hk_NoHand, X_b_NoHand, X_hd_NoHand, X_ha_NoHand, X_hn_, X_ht_, X_hm_NoHand⟩ (kit_own X_s_NoHand_Coarse X_ic_Coarse X_ty_Coarse (by decide)) (.add ⟨X_hg_NoMark, X_hk_NoMark, X_b_NoMark, X_hd_NoMark, X_ha_NoMark, X_hn_, X_ht_, X_hm_NoMark⟩ (kit_own X_s_NoMark_Coarse X_ic_Coarse X_ty_Coarse (by decide)) (.add ⟨X_hg_NoRow, X_hk_NoRow, X_b_NoRow, X_hd_NoRow, X_ha_NoRow, X_hn_, X_ht_, X_hm_NoRow⟩ (kit_own X_s_NoRow_Coarse X_ic_Coarse X_ty_Coarse (by decide)) (.add ⟨X_hg_NoSuch, X_hk_NoSuch, X_b_NoSuch, X_hd_NoSuch, X_ha_NoSuch, X_hn_, X_ht_, X_hm_NoSuch⟩ (kit_own X_s_NoSuch_Coarse X_ic_Coarse X_ty_Coarse (by decide)) (.add ⟨X_hg_NoText, X_hk_NoText, X_b_NoText, X_hd_NoText, X_ha_NoText, X_hn_, X_ht_, X_hm_NoText⟩ (kit_own X_s_NoText_Coarse X_ic_Coarse X_ty_Coarse (by decide)) (.add ⟨X_hg_TooAlike, X_hk_TooAlike, X_b_TooAlike, X_hd_TooAlike, X_ha_TooAlike, X_hn_, X_ht_, X_hm_TooAlike⟩ (kit_own X_s_TooAlike_Coarse X_ic_Coarse X_ty_Coarse (by decide)) (.nil (kit_own X_sn_Coarse X_ic_Coarse X_ty_Coarse (by decide)))))))))))), i_DoubtError := (.add ⟨X_hg_BadClock, X_hk_BadClock, X_b_BadClock, X_hd_BadClock, X_ha_BadClock, X_hn_, X_ht_, X_hm_BadClock⟩ (kit_own X_s_BadClock_DoubtError X_ic_DoubtError X_ty_DoubtError (by decide)) (.add ⟨X_hg_Coarse, X_hk_Coarse, X_b_Coarse, X_hd_Coarse, X_ha_Coarse, X_hn_, X_ht_, X_hm_Coarse⟩ (kit_own X_s_Coarse_DoubtError X_ic_DoubtError X_ty_DoubtError (by decide)) (.add ⟨X_hg_NoBack, X_hk_NoBack, X_b_NoBack, X_hd_NoBack, X_ha_NoBack, X_hn_, X_ht_, X_hm_NoBack⟩ (kit_own X_s_NoBack_DoubtError X_ic_DoubtError X_ty_DoubtError (by decide)) (.add ⟨X_hg_NoHand, X_hk_NoHand, X_b_NoHand, X_hd_NoHand, X_ha_NoHand, X_hn_, X_ht_, X_hm_NoHand⟩ (kit_own X_s_NoHand_DoubtError X_ic_DoubtError X_ty_DoubtError (by decide)) (.add ⟨X_hg_NoMark, X_hk_NoMark, X_b_NoMark, X_hd_NoMark, X_ha_NoMark, X_hn_, X_ht_, X_hm_NoMark⟩ (kit_own X_s_NoMark_DoubtError X_ic_DoubtError X_ty_DoubtError (by decide)) (.add ⟨X_hg_NoRow, X_hk_NoRow, X_b_NoRow, X_hd_NoRow, X_ha_NoRow, X_hn_, X_ht_, X_hm_NoRow⟩ (kit_own X_s_NoRow_DoubtError X_ic_DoubtError X_ty_DoubtError (by decide)) (.add ⟨X_hg_NoSuch, X_hk_NoSuch, X_b_NoSuch, X_hd_NoSuch, X_ha_NoSuch, X_hn_, X_ht_, X_hm_NoSuch⟩ (kit_own X_s_NoSuch_DoubtError X_ic_DoubtError X_ty_DoubtError (by decide)) (.add ⟨X_hg_NoText, X_hk_NoText, X_b_NoText, X_hd_NoText, X_ha_NoText, X_hn_, X_ht_, X_hm_NoText⟩ (kit_own X_s_NoText_DoubtError X_ic_DoubtError X_ty_DoubtError (by decide)) (.add ⟨X_hg_TooAlike, X_hk_TooAlike, X_b_TooAlike, X_hd_TooAlike, X_ha_TooAlike, X_hn_, X_ht_, X_hm_TooAlike⟩ (kit_own X_s_TooAlike_DoubtError X_ic_DoubtError X_ty_DoubtError (by decide)) (.nil (kit_own X_sn_DoubtError X_ic_DoubtError X_ty_DoubtError (by decide)))))))))))), i_NoBack := (.add ⟨X_hg_BadClock, X_hk_BadClock, X_b_BadClock, X_hd_BadClock, X_ha_BadClock, X_hn_, X_ht_, X_hm_BadClock⟩ (kit_own X_s_BadClock_NoBack X_ic_NoBack X_ty_NoBack (by decide)) (.add ⟨X_hg_Coarse, X_hk_Coarse, X_b_Coarse, X_hd_Coarse, X_ha_Coarse, X_hn_, X_ht_, X_hm_Coarse⟩ (kit_own X_s_Coarse_NoBack X_ic_NoBack X_ty_NoBack (by decide)) (.add ⟨X_hg_NoBack, X_hk_NoBack, X_b_NoBack, X_hd_NoBack, X_ha_NoBack, X_hn_, X_ht_, X_hm_NoBack⟩ kit_self (.add ⟨X_hg_NoHand, X_hk_NoHand, X_b_NoHand, X_hd_NoHand, X_ha_NoHand, X_hn_, X_ht_, X_hm_NoHand⟩ (kit_own X_s_NoHand_NoBack X_ic_NoBack X_ty_NoBack (by decide)) (.add ⟨X_hg_NoMark, X_hk_NoMark, X_b_NoMark, X_hd_NoMark, X_ha_NoMark, X_hn_, X_ht_, X_hm_NoMark⟩ (kit_own X_s_NoMark_NoBack X_ic_NoBack X_ty_NoBack (by decide)) (.add ⟨X_hg_NoRow, X_hk_NoRow, X_b_NoRow, X_hd_NoRow, X_ha_NoRow, X_hn_, X_ht_, X_hm_NoRow⟩ (kit_own X_s_NoRow_NoBack X_ic_NoBack X_ty_NoBack (by decide)) (.add ⟨X_hg_NoSuch, X_hk_NoSuch, X_b_NoSuch, X_hd_NoSuch, X_ha_NoSuch, X_hn_, X_ht_, X_hm_NoSuch⟩ (kit_own X_s_NoSuch_NoBack X_ic_NoBack X_ty_NoBack (by decide)) (.add ⟨X_hg_NoText, X_hk_NoText, X_b_NoText, X_hd_NoText, X_ha_NoText, X_hn_, X_ht_, X_hm_NoText⟩ (kit_own X_s_NoText_NoBack X_ic_NoBack X_ty_NoBack (by decide)) (.add ⟨X_hg_TooAlike, X_hk_TooAlike, X_b_TooAlike, X_hd_TooAlike, X_ha_TooAlike, X_hn_, X_ht_, X_hm_TooAlike⟩ (kit_own X_s_TooAlike_NoBack X_ic_NoBack X_ty_NoBack (by decide)) (.nil (kit_own X_sn_NoBack X_ic_NoBack X_ty_NoBack (by decide)))))))))))), i_NoHand := (.add ⟨X_hg_BadClock, X_hk_BadClock, X_b_BadClock, X_hd_BadClock, X_ha_BadClock, X_hn_, X_ht_, X_hm_BadClock⟩ (kit_own X_s_BadClock_NoHand X_ic_NoHand X_ty_NoHand (by decide)) (.add ⟨X_hg_Coarse, X_hk_Coarse, X_b_Coarse, X_hd_Coarse, X_ha_Coarse, X_hn_, X_ht_, X_hm_Coarse⟩ (kit_own X_s_Coarse_NoHand X_ic_NoHand X_ty_NoHand (by decide)) (.add ⟨X_hg_NoBack, X_hk_NoBack, X_b_NoBack, X_hd_NoBack, X_ha_NoBack, X_hn_, X_ht_, X_hm_NoBack⟩ (kit_own X_s_NoBack_NoHand X_ic_NoHand X_ty_NoHand (by decide)) (.add ⟨X_hg_NoHand, X_hk_NoHand, X_b_NoHand, X_hd_NoHand, X_ha_NoHand, X_hn_, X_ht_, X_hm_NoHand⟩ kit_self (.add ⟨X_hg_NoMark, X_hk_NoMark, X_b_NoMark, X_hd_NoMark, X_ha_NoMark, X_hn_, X_ht_, X_hm_NoMark⟩ (kit_own X_s_NoMark_NoHand X_ic_NoHand X_ty_NoHand (by decide)) (.add ⟨X_hg_NoRow, X_hk_NoRow, X_b_NoRow, X_hd_NoRow, X_ha_NoRow, X_hn_, X_ht_, X_hm_NoRow⟩ (kit_own X_s_NoRow_NoHand X_ic_NoHand X_ty_NoHand (by decide)) (.add ⟨X_hg_NoSuch, X_hk_NoSuch, X_b_NoSuch, X_hd_NoSuch, X_ha_NoSuch, X_hn_, X_ht_, X_hm_NoSuch⟩ (kit_own X_s_NoSuch_NoHand X_ic_NoHand X_ty_NoHand (by decide)) (.add ⟨X_hg_NoText, X_hk_NoText, X_b_NoText, X_hd_NoText, X_ha_NoText, X_hn_, X_ht_, X_hm_NoText⟩ (kit_own X_s_NoText_NoHand X_ic_NoHand X_ty_NoHand (by decide)) (.add ⟨X_hg_TooAlike, X_hk_TooAlike, X_b_TooAlike, X_hd_TooAlike, X_ha_TooAlike, X_hn_, X_ht_, X_hm_TooAlike⟩ (kit_own X_s_TooAlike_NoHand X_ic_NoHand X_ty_NoHand (by decide)) (.nil (kit_own X_sn_NoHand X_ic_NoHand X_ty_NoHand (by decide)))))))))))), i_NoMark := (.add ⟨X_hg_BadClock, X_hk_BadClock, X_b_BadClock, X_hd_BadClock, X_ha_BadClock, X_hn_, X_ht_, X_hm_BadClock⟩ (kit_own X_s_BadClock_NoMark X_ic_NoMark X_ty_NoMark (by decide)) (.add ⟨X_hg_Coarse, X_hk_Coarse, X_b_Coarse, X_hd_Coarse, X_ha_Coarse, X_hn_, X_ht_, X_hm_Coarse⟩ (kit_own X_s_Coarse_NoMark X_ic_NoMark X_ty_NoMark (by decide)) (.add ⟨X_hg_NoBack, X_hk_NoBack, X_b_NoBack, X_hd_NoBack, X_ha_NoBack, X_hn_, X_ht_, X_hm_NoBack⟩ (kit_own X_s_NoBack_NoMark X_ic_NoMark X_ty_NoMark (by decide)) (.add ⟨X_hg_NoHand, X_hk_NoHand, X_b_NoHand, X_hd_NoHand, X_ha_NoHand, X_hn_, X_ht_, X_hm_NoHand⟩ (kit_own X_s_NoHand_NoMark X_ic_NoMark X_ty_NoMark (by decide)) (.add ⟨X_hg_NoMark, X_hk_NoMark, X_b_NoMark, X_hd_NoMark, X_ha_NoMark, X_hn_, X_ht_, X_hm_NoMark⟩ kit_self (.add ⟨X_hg_NoRow, X_hk_NoRow, X_b_NoRow, X_hd_NoRow, X_ha_NoRow, X_hn_, X_ht_, X_hm_NoRow⟩ (kit_own X_s_NoRow_NoMark X_ic_NoMark X_ty_NoMark (by decide)) (.add ⟨X_hg_NoSuch, X_hk_NoSuch, X_b_NoSuch, X_hd_NoSuch, X_ha_NoSuch, X_hn_, X_ht_, X_hm_NoSuch⟩ (kit_own X_s_NoSuch_NoMark X_ic_NoMark X_ty_NoMark (by decide)) (.add ⟨X_hg_NoText, X_hk_NoText, X_b_NoText, X_hd_NoText, X_ha_NoText, X_hn_, X_ht_, X_hm_NoText⟩ (kit_own X_s_NoText_NoMark X_ic_NoMark X_ty_NoMark (by decide)) (.add ⟨X_hg_TooAlike, X_hk_TooAlike, X_b_TooAlike, X_hd_TooAlike, X_ha_TooAlike, X_hn_, X_ht_, X_hm_TooAlike⟩ (kit_own X_s_TooAlike_NoMark X_ic_NoMark X_ty_NoMark (by decide)) (.nil (kit_own X_sn_NoMark X_ic_NoMark X_ty_NoMark (by decide)))))))))))), i_NoRow := (.add ⟨X_hg_BadClock, X_hk_BadClock, X_b_BadClock, X_hd_BadClock, X_ha_BadClock, X_hn_, X_ht_, X_hm_BadClock⟩ (kit_own X_s_BadClock_NoRow X_ic_NoRow X_ty_NoRow (by decide)) (.add ⟨X_hg_Coarse, X_hk_Coarse, X_b_Coarse, X_hd_Coarse, X_ha_Coarse, X_hn_, X_ht_, X_hm_Coarse⟩ (kit_own X_s_Coarse_NoRow X_ic_NoRow X_ty_NoRow (by decide)) (.add ⟨X_hg_NoBack, X_hk_NoBack, X_b_NoBack, X_hd_NoBack, X_ha_NoBack, X_hn_, X_ht_, X_hm_NoBack⟩ (kit_own X_s_NoBack_NoRow X_ic_NoRow X_ty_NoRow (by decide)) (.add ⟨X_hg_NoHand, X_hk_NoHand, X_b_NoHand, X_hd_NoHand, X_ha_NoHand, X_hn_, X_ht_, X_hm_NoHand⟩ (kit_own X_s_NoHand_NoRow X_ic_NoRow X_ty_NoRow (by decide)) (.add ⟨X_hg_NoMark, X_hk_NoMark, X_b_NoMark, X_hd_NoMark, X_ha_NoMark, X_hn_, X_ht_, X_hm_NoMark⟩ (kit_own X_s_NoMark_NoRow X_ic_NoRow X_ty_NoRow (by decide)) (.add ⟨X_hg_NoRow, X_hk_NoRow, X_b_NoRow, X_hd_NoRow, X_ha_NoRow, X_hn_, X_ht_, X_hm_NoRow⟩ kit_self (.add ⟨X_hg_NoSuch, X_hk_NoSuch, X_b_NoSuch, X_hd_NoSuch, X_ha_NoSuch, X_hn_, X_ht_, X_hm_NoSuch⟩ (kit_own X_s_NoSuch_NoRow X_ic_NoRow X_ty_NoRow (by decide)) (.add ⟨X_hg_NoText, X_hk_NoText, X_b_NoText, X_hd_NoText, X_ha_NoText, X_hn_, X_ht_, X_hm_NoText⟩ (kit_own X_s_NoText_NoRow X_ic_NoRow X_ty_NoRow (by decide)) (.add ⟨X_hg_TooAlike, X_hk_TooAlike, X_b_TooAlike, X_hd_TooAlike, X_ha_TooAlike, X_hn_, X_ht_, X_hm_TooAlike⟩ (kit_own X_s_TooAlike_NoRow X_ic_NoRow X_ty_NoRow (by decide)) (.nil (kit_own X_sn_NoRow X_ic_NoRow X_ty_NoRow (by decide)))))))))))), i_NoSuch := (.add ⟨X_hg_BadClock, X_hk_BadClock, X_b_BadClock, X_hd_BadClock, X_ha_BadClock, X_hn_, X_ht_, X_hm_BadClock⟩ (kit_own X_s_BadClock_NoSuch X_ic_NoSuch X_ty_NoSuch (by decide)) (.add ⟨X_hg_Coarse, X_hk_Coarse, X_b_Coarse, X_hd_Coarse, X_ha_Coarse, X_hn_, X_ht_, X_hm_Coarse⟩ (kit_own X_s_Coarse_NoSuch X_ic_NoSuch X_ty_NoSuch (by decide)) (.add ⟨X_hg_NoBack, X_hk_NoBack, X_b_NoBack, X_hd_NoBack, X_ha_NoBack, X_hn_, X_ht_, X_hm_NoBack⟩ (kit_own X_s_NoBack_NoSuch X_ic_NoSuch X_ty_NoSuch (by decide)) (.add ⟨X_hg_NoHand, X_hk_NoHand, X_b_NoHand, X_hd_NoHand, X_ha_NoHand, X_hn_, X_ht_, X_hm_NoHand⟩ (kit_own X_s_NoHand_NoSuch X_ic_NoSuch X_ty_NoSuch (by decide)) (.add ⟨X_hg_NoMark, X_hk_NoMark, X_b_NoMark, X_hd_NoMark, X_ha_NoMark, X_hn_, X_ht_, X_hm_NoMark⟩ (kit_own X_s_NoMark_NoSuch X_ic_NoSuch X_ty_NoSuch (by decide)) (.add ⟨X_hg_NoRow, X_hk_NoRow, X_b_NoRow, X_hd_NoRow, X_ha_NoRow, X_hn_, X_ht_, X_hm_NoRow⟩ (kit_own X_s_NoRow_NoSuch X_ic_NoSuch X_ty_NoSuch (by decide)) (.add ⟨X_hg_NoSuch, X_hk_NoSuch, X_b_NoSuch, X_hd_NoSuch, X_ha_NoSuch, X_hn_, X_ht_, X_hm_NoSuch⟩ kit_self (.add ⟨X_hg_NoText, X_hk_NoText, X_b_NoText, X_hd_NoText, X_ha_NoText, X_hn_, X_ht_, X_hm_NoText⟩ (kit_own X_s_NoText_NoSuch X_ic_NoSuch X_ty_NoSuch (by decide)) (.add ⟨X_hg_TooAlike, X_hk_TooAlike, X_b_TooAlike, X_hd_TooAlike, X_ha_TooAlike, X_hn_, X_ht_, X_hm_TooAlike⟩ (kit_own X_s_TooAlike_NoSuch X_ic_NoSuch X_ty_NoSuch (by decide)) (.nil (kit_own X_sn_NoSuch X_ic_NoSuch X_ty_NoSuch (by decide)))))))))))), i_NoText := (.add ⟨X_hg_BadClock, X_hk_BadClock, X_b_BadClock, X_hd_BadClock, X_ha_BadClock, X_hn_, X_ht_, X_hm_BadClock⟩ (kit_own X_s_BadClock_NoText X_ic_NoText X_ty_NoText (by decide)) (.add ⟨X_hg_Coarse, X_hk_Coarse, X_b_Coarse, X_hd_Coarse, X_ha_Coarse, X_hn_, X_ht_, X_hm_Coarse⟩ (kit_own X_s_Coarse_NoText X_ic_NoText X_ty_NoText (by decide)) (.add ⟨X_hg_NoBack, X_hk_NoBack, X_b_NoBack, X_hd_NoBack, X_ha_NoBack, X_hn_, X_ht_, X_hm_NoBack⟩ (kit_own X_s_NoBack_NoText X_ic_NoText X_ty_NoText (by decide)) (.add ⟨X_hg_NoHand, X_hk_NoHand, X_b_NoHand, X_hd_NoHand, X_ha_NoHand, X_hn_, X_ht_, X_hm_NoHand⟩ (kit_own X_s_NoHand_NoText X_ic_NoText X_ty_NoText (by decide)) (.add ⟨X_hg_NoMark, X_hk_NoMark, X_b_NoMark, X_hd_NoMark, X_ha_NoMark, X_hn_, X_ht_, X_hm_NoMark⟩ (kit_own X_s_NoMark_NoText X_ic_NoText X_ty_NoText (by decide)) (.add ⟨X_hg_NoRow, X_hk_NoRow, X_b_NoRow, X_hd_NoRow, X_ha_NoRow, X_hn_, X_ht_, X_hm_NoRow⟩ (kit_own X_s_NoRow_NoText X_ic_NoText X_ty_NoText (by decide)) (.add ⟨X_hg_NoSuch, X_hk_NoSuch, X_b_NoSuch, X_hd_NoSuch, X_ha_NoSuch, X_hn_, X_ht_, X_hm_NoSuch⟩ (kit_own X_s_NoSuch_NoText X_ic_NoText X_ty_NoText (by decide)) (.add ⟨X_hg_NoText, X_hk_NoText, X_b_NoText, X_hd_NoText, X_ha_NoText, X_hn_, X_ht_, X_hm_NoText⟩ kit_self (.add ⟨X_hg_TooAlike, X_hk_TooAlike, X_b_TooAlike, X_hd_TooAlike, X_ha_TooAlike, X_hn_, X_ht_, X_hm_TooAlike⟩ (kit_own X_s_TooAlike_NoText X_ic_NoText X_ty_NoText (by decide)) (.nil (kit_own X_sn_NoText X_ic_NoText X_ty_NoText (by decide)))))))))))), i_TooAlike := (.add ⟨X_hg_BadClock, X_hk_BadClock, X_b_BadClock, X_hd_BadClock, X_ha_BadClock, X_hn_, X_ht_, X_hm_BadClock⟩ (kit_own X_s_BadClock_TooAlike X_ic_TooAlike X_ty_TooAlike (by decide)) (.add ⟨X_hg_Coarse, X_hk_Coarse, X_b_Coarse, X_hd_Coarse, X_ha_Coarse, X_hn_, X_ht_, X_hm_Coarse⟩ (kit_own X_s_Coarse_TooAlike X_ic_TooAlike X_ty_TooAlike (by decide)) (.add ⟨X_hg_NoBack, X_hk_NoBack, X_b_NoBack, X_hd_NoBack, X_ha_NoBack, X_hn_, X_ht_, X_hm_NoBack⟩ (kit_own X_s_NoBack_TooAlike X_ic_TooAlike X_ty_TooAlike (by decide)) (.add ⟨X_hg_NoHand, X_hk_NoHand, X_b_NoHand, X_hd_NoHand, X_ha_NoHand, X_hn_, X_ht_, X_hm_NoHand⟩ (kit_own X_s_NoHand_TooAlike X_ic_TooAlike X_ty_TooAlike (by decide)) (.add ⟨X_hg_NoMark, X_hk_NoMark, X_b_NoMark, X_hd_NoMark, X_ha_NoMark, X_hn_, X_ht_, X_hm_NoMark⟩ (kit_own X_s_NoMark_TooAlike X_ic_TooAlike X_ty_TooAlike (by decide)) (.add ⟨X_hg_NoRow, X_hk_NoRow, X_b_NoRow, X_hd_NoRow, X_ha_NoRow, X_hn_, X_ht_, X_hm_NoRow⟩ (kit_own X_s_NoRow_TooAlike X_ic_TooAlike X_ty_TooAlike (by decide)) (.add ⟨X_hg_NoSuch, X_hk_NoSuch, X_b_NoSuch, X_hd_NoSuch, X_ha_NoSuch, X_hn_, X_ht_, X_hm_NoSuch⟩ (kit_own X_s_NoSuch_TooAlike X_ic_TooAlike X_ty_TooAlike (by decide)) (.add ⟨X_hg_NoText, X_hk_NoText, X_b_NoText, X_hd_NoText, X_ha_NoText, X_hn_, X_ht_, X_hm_NoText⟩ (kit_own X_s_NoText_TooAlike X_ic_TooAlike X_ty_TooAlike (by decide)) (.add ⟨X_hg_TooAlike, X_hk_TooAlike, X_b_TooAlike, X_hd_TooAlike, X_ha_TooAlike, X_hn_, X_ht_, X_hm_TooAlike⟩ kit_self (.nil (kit_own X_sn_TooAlike X_ic_TooAlike X_ty_TooAlike (by decide)))))))))))), i_ValueError := (.add ⟨X_hg_BadClock, X_hk_BadClock, X_b_BadClock, X_hd_BadClock, X_ha_BadClock, X_hn_, X_ht_, X_hm_BadClock⟩ (kit_blt X_s_BadClock_ValueError (by decide +kernel) (by decide)) (.add ⟨X_hg_Coarse, X_hk_Coarse, X_b_Coarse, X_hd_Coarse, X_ha_Coarse, X_hn_, X_ht_, X_hm_Coarse⟩ (kit_blt X_s_Coarse_ValueError (by decide +kernel) (by decide)) (.add ⟨X_hg_NoBack, X_hk_NoBack, X_b_NoBack, X_hd_NoBack, X_ha_NoBack, X_hn_, X_ht_, X_hm_NoBack⟩ (kit_blt X_s_NoBack_ValueError (by decide +kernel) (by decide)) (.add ⟨X_hg_NoHand, X_hk_NoHand, X_b_NoHand, X_hd_NoHand, X_ha_NoHand, X_hn_, X_ht_, X_hm_NoHand⟩ (kit_blt X_s_NoHand_ValueError (by decide +kernel) (by decide)) (.add ⟨X_hg_NoMark, X_hk_NoMark, X_b_NoMark, X_hd_NoMark, X_ha_NoMark, X_hn_, X_ht_, X_hm_NoMark⟩ (kit_blt X_s_NoMark_ValueError (by decide +kernel) (by decide)) (.add ⟨X_hg_NoRow, X_hk_NoRow, X_b_NoRow, X_hd_NoRow, X_ha_NoRow, X_hn_, X_ht_, X_hm_NoRow⟩ (kit_blt X_s_NoRow_ValueError (by decide +kernel) (by decide)) (.add ⟨X_hg_NoSuch, X_hk_NoSuch, X_b_NoSuch, X_hd_NoSuch, X_ha_NoSuch, X_hn_, X_ht_, X_hm_NoSuch⟩ (kit_blt X_s_NoSuch_ValueError (by decide +kernel) (by decide)) (.add ⟨X_hg_NoText, X_hk_NoText, X_b_NoText, X_hd_NoText, X_ha_NoText, X_hn_, X_ht_, X_hm_NoText⟩ (kit_blt X_s_NoText_ValueError (by decide +kernel) (by decide)) (.add ⟨X_hg_TooAlike, X_hk_TooAlike, X_b_TooAlike, X_hd_TooAlike, X_ha_TooAlike, X_hn_, X_ht_, X_hm_TooAlike⟩ (kit_blt X_s_TooAlike_ValueError (by decide +kernel) (by decide)) (.nil (kit_blt X_sn_ValueError (by decide +kernel) (by decide)))))))))))), f_Coarse_step := ⟨X_hg_Coarse, X_hk_Coarse, X_b_Coarse, X_hd_Coarse, X_no_Coarse_step⟩, f_NoText_row := ⟨X_hg_NoText, X_hk_NoText, X_b_NoText, X_hd_NoText, X_no_NoText_row⟩ }, rfl, rfl⟩
theorem all_mk {l : PySem.W.OpenLaw} {w : World} {K : Frg} {h : Heap} {mg : Str → Option Value} {fa : Addr} (X : K.In h) (G : h.Ns mainGlobals mg) (hfa : mg "law" = some (.ref fa))
    {od0 an0 : Option Addr} {sl0 : Array (Option Value)} {oc0 kV0 dc0 pm0 cd0 ct0 : Value} {f0 : Addr}
    (a0 : PySem.W.nsIn K mainGlobals "_law_at" = some (some (.ref f0))) (l0 : K.lookup f0 = some ⟨oc0, od0, .func (PySem.W.fnOf "_law_at" "_law_at" (defArgs s__law_at) (defBody s__law_at) (defScope s__law_at) .none kV0 dc0 pm0 an0 cd0 ct0), sl0⟩) (c0 : PySem.W.codeIn K cd0 "_law_at" = true) (k0 : PySem.W.keepIn K (.ref f0) = true)
    {od1 an1 : Option Addr} {sl1 : Array (Option Value)} {oc1 kV1 dc1 pm1 cd1 ct1 : Value} {f1 : Addr}
    (a1 : PySem.W.nsIn K mainGlobals "_law_all" = some (some (.ref f1))) (l1 : K.lookup f1 = some ⟨oc1, od1, .func (PySem.W.fnOf "_law_all" "_law_all" (defArgs s__law_all) (defBody s__law_all) (defScope s__law_all) .none kV1 dc1 pm1 an1 cd1 ct1), sl1⟩) (c1 : PySem.W.codeIn K cd1 "_law_all" = true) (k1 : PySem.W.keepIn K (.ref f1) = true)
    {od2 an2 : Option Addr} {sl2 : Array (Option Value)} {oc2 kV2 dc2 pm2 cd2 ct2 : Value} {f2 : Addr}
    (a2 : PySem.W.nsIn K mainGlobals "_law_kinds" = some (some (.ref f2))) (l2 : K.lookup f2 = some ⟨oc2, od2, .func (PySem.W.fnOf "_law_kinds" "_law_kinds" (defArgs s__law_kinds) (defBody s__law_kinds) (defScope s__law_kinds) .none kV2 dc2 pm2 an2 cd2 ct2), sl2⟩) (c2 : PySem.W.codeIn K cd2 "_law_kinds" = true) (k2 : PySem.W.keepIn K (.ref f2) = true)
    {od3 an3 : Option Addr} {sl3 : Array (Option Value)} {oc3 kV3 dc3 pm3 cd3 ct3 : Value} {f3 : Addr}
    (a3 : PySem.W.nsIn K mainGlobals "law" = some (some (.ref f3))) (l3 : K.lookup f3 = some ⟨oc3, od3, .func (PySem.W.fnOf "law" "law" (defArgs s_law) (defBody s_law) (defScope s_law) .none kV3 dc3 pm3 an3 cd3 ct3), sl3⟩) (c3 : PySem.W.codeIn K cd3 "law" = true) (k3 : PySem.W.keepIn K (.ref f3) = true)
    (z0 : PySem.W.nsIn K mainGlobals "ValueError" = some none)
    (z1 : PySem.W.nsIn K mainGlobals "abs" = some none)
    (z2 : PySem.W.nsIn K mainGlobals "isinstance" = some none)
    (z3 : PySem.W.nsIn K mainGlobals "len" = some none)
    (z4 : PySem.W.nsIn K mainGlobals "range" = some none)
    (z5 : PySem.W.nsIn K mainGlobals "str" = some none)
    {nm_Coarse q_Coarse : Str} {N_Coarse : Addr} {bs_Coarse : List Value} {sn_Coarse : List Str} {sub_Coarse : List Value} {ab_Coarse : Bool} {col_Coarse : Option Bool} {dd_Coarse : Option Addr} {k0_Coarse k1_Coarse k2_Coarse k3_Coarse k5_Coarse : Option Value} {fi_Coarse : Addr} {od_Coarse an_Coarse : Option Addr} {sl_Coarse : Array (Option Value)} {oc_Coarse kV_Coarse dc_Coarse pm_Coarse cd_Coarse ct_Coarse : Value}
    {nm_NoText q_NoText : Str} {N_NoText : Addr} {bs_NoText : List Value} {sn_NoText : List Str} {sub_NoText : List Value} {ab_NoText : Bool} {col_NoText : Option Bool} {dd_NoText : Option Addr} {k0_NoText k1_NoText k2_NoText k3_NoText k5_NoText : Option Value} {fi_NoText : Addr} {od_NoText an_NoText : Option Addr} {sl_NoText : Array (Option Value)} {oc_NoText kV_NoText dc_NoText pm_NoText cd_NoText ct_NoText : Value}
    (X_m_BadClock : PySem.W.nsIn K mainGlobals "BadClock" = some (some (.ref C_BadClock)))
    (X_m_Coarse : PySem.W.nsIn K mainGlobals "Coarse" = some (some (.ref C_Coarse)))
    (X_m_DoubtError : PySem.W.nsIn K mainGlobals "DoubtError" = some (some (.ref C_DoubtError)))
    (X_m_NoBack : PySem.W.nsIn K mainGlobals "NoBack" = some (some (.ref C_NoBack)))
    (X_m_NoHand : PySem.W.nsIn K mainGlobals "NoHand" = some (some (.ref C_NoHand)))
    (X_m_NoMark : PySem.W.nsIn K mainGlobals "NoMark" = some (some (.ref C_NoMark)))
    (X_m_NoRow : PySem.W.nsIn K mainGlobals "NoRow" = some (some (.ref C_NoRow)))
    (X_m_NoSuch : PySem.W.nsIn K mainGlobals "NoSuch" = some (some (.ref C_NoSuch)))
    (X_m_NoText : PySem.W.nsIn K mainGlobals "NoText" = some (some (.ref C_NoText)))
    (X_m_TooAlike : PySem.W.nsIn K mainGlobals "TooAlike" = some (some (.ref C_TooAlike)))
    (X_x_BadClock : PySem.W.excIn K C_BadClock [.type "ValueError", .type "Exception", .type "BaseException", .type "object"] "ValueError.__new__" = true)
    (X_k_BadClock : PySem.W.keepIn K (.ref C_BadClock) = true)
    (X_hg_BadClock : PySem.W.findIn K (.ref C_BadClock) "__getattribute__" = some (some (.builtin "BaseException.__getattribute__")))
    (X_hk_BadClock : PySem.W.findIn K (.ref C_BadClock) "__getattr__" = some none)
    (X_ha_BadClock : PySem.W.findIn K (.ref C_BadClock) "__class__" = some (some (.builtin "object.__class__")))
    (X_hm_BadClock : PySem.W.mroIn K C_BadClock (.type "object") = some true)
    (X_k_Coarse : PySem.W.keepIn K (.ref C_Coarse) = true)
    (X_hg_Coarse : PySem.W.findIn K (.ref C_Coarse) "__getattribute__" = some (some (.builtin "BaseException.__getattribute__")))
    (X_hk_Coarse : PySem.W.findIn K (.ref C_Coarse) "__getattr__" = some none)
    (X_ha_Coarse : PySem.W.findIn K (.ref C_Coarse) "__class__" = some (some (.builtin "object.__class__")))
    (X_hm_Coarse : PySem.W.mroIn K C_Coarse (.type "object") = some true)
    (X_x_NoBack : PySem.W.excIn K C_NoBack [.type "ValueError", .type "Exception", .type "BaseException", .type "object"] "ValueError.__new__" = true)
    (X_k_NoBack : PySem.W.keepIn K (.ref C_NoBack) = true)
    (X_hg_NoBack : PySem.W.findIn K (.ref C_NoBack) "__getattribute__" = some (some (.builtin "BaseException.__getattribute__")))
    (X_hk_NoBack : PySem.W.findIn K (.ref C_NoBack) "__getattr__" = some none)
    (X_ha_NoBack : PySem.W.findIn K (.ref C_NoBack) "__class__" = some (some (.builtin "object.__class__")))
    (X_hm_NoBack : PySem.W.mroIn K C_NoBack (.type "object") = some true)
    (X_x_NoHand : PySem.W.excIn K C_NoHand [.type "ValueError", .type "Exception", .type "BaseException", .type "object"] "ValueError.__new__" = true)
    (X_k_NoHand : PySem.W.keepIn K (.ref C_NoHand) = true)
    (X_hg_NoHand : PySem.W.findIn K (.ref C_NoHand) "__getattribute__" = some (some (.builtin "BaseException.__getattribute__")))
    (X_hk_NoHand : PySem.W.findIn K (.ref C_NoHand) "__getattr__" = some none)
    (X_ha_NoHand : PySem.W.findIn K (.ref C_NoHand) "__class__" = some (some (.builtin "object.__class__")))
    (X_hm_NoHand : PySem.W.mroIn K C_NoHand (.type "object") = some true)
    (X_x_NoMark : PySem.W.excIn K C_NoMark [.type "ValueError", .type "Exception", .type "BaseException", .type "object"] "ValueError.__new__" = true)
    (X_k_NoMark : PySem.W.keepIn K (.ref C_NoMark) = true)
    (X_hg_NoMark : PySem.W.findIn K (.ref C_NoMark) "__getattribute__" = some (some (.builtin "BaseException.__getattribute__")))
    (X_hk_NoMark : PySem.W.findIn K (.ref C_NoMark) "__getattr__" = some none)
    (X_ha_NoMark : PySem.W.findIn K (.ref C_NoMark) "__class__" = some (some (.builtin "object.__class__")))
    (X_hm_NoMark : PySem.W.mroIn K C_NoMark (.type "object") = some true)
    (X_x_NoRow : PySem.W.excIn K C_NoRow [.type "ValueError", .type "Exception", .type "BaseException", .type "object"] "ValueError.__new__" = true)
    (X_k_NoRow : PySem.W.keepIn K (.ref C_NoRow) = true)
    (X_hg_NoRow : PySem.W.findIn K (.ref C_NoRow) "__getattribute__" = some (some (.builtin "BaseException.__getattribute__")))
    (X_hk_NoRow : PySem.W.findIn K (.ref C_NoRow) "__getattr__" = some none)
    (X_ha_NoRow : PySem.W.findIn K (.ref C_NoRow) "__class__" = some (some (.builtin "object.__class__")))
    (X_hm_NoRow : PySem.W.mroIn K C_NoRow (.type "object") = some true)
    (X_x_NoSuch : PySem.W.excIn K C_NoSuch [.type "ValueError", .type "Exception", .type "BaseException", .type "object"] "ValueError.__new__" = true)
    (X_k_NoSuch : PySem.W.keepIn K (.ref C_NoSuch) = true)
    (X_hg_NoSuch : PySem.W.findIn K (.ref C_NoSuch) "__getattribute__" = some (some (.builtin "BaseException.__getattribute__")))
    (X_hk_NoSuch : PySem.W.findIn K (.ref C_NoSuch) "__getattr__" = some none)
    (X_ha_NoSuch : PySem.W.findIn K (.ref C_NoSuch) "__class__" = some (some (.builtin "object.__class__")))
    (X_hm_NoSuch : PySem.W.mroIn K C_NoSuch (.type "object") = some true)
    (X_k_NoText : PySem.W.keepIn K (.ref C_NoText) = true)
    (X_hg_NoText : PySem.W.findIn K (.ref C_NoText) "__getattribute__" = some (some (.builtin "BaseException.__getattribute__")))
    (X_hk_NoText : PySem.W.findIn K (.ref C_NoText) "__getattr__" = some none)
    (X_ha_NoText : PySem.W.findIn K (.ref C_NoText) "__class__" = some (some (.builtin "object.__class__")))
    (X_hm_NoText : PySem.W.mroIn K C_NoText (.type "object") = some true)
    (X_x_TooAlike : PySem.W.excIn K C_TooAlike [.type "ValueError", .type "Exception", .type "BaseException", .type "object"] "ValueError.__new__" = true)
    (X_k_TooAlike : PySem.W.keepIn K (.ref C_TooAlike) = true)
    (X_hg_TooAlike : PySem.W.findIn K (.ref C_TooAlike) "__getattribute__" = some (some (.builtin "BaseException.__getattribute__")))
    (X_hk_TooAlike : PySem.W.findIn K (.ref C_TooAlike) "__getattr__" = some none)
    (X_ha_TooAlike : PySem.W.findIn K (.ref C_TooAlike) "__class__" = some (some (.builtin "object.__class__")))
    (X_hm_TooAlike : PySem.W.mroIn K C_TooAlike (.type "object") = some true)
    (X_hn_ : PySem.W.specialIn K (.builtin "object.__class__") "__get__" = some (some (.builtin "getset_descriptor.__get__")))
    (X_ht_ : PySem.W.takesIn K (.builtin "object.__class__") = some true)
    (X_b_BadClock : PySem.W.subIn K (.ref C_BadClock) (.type "BaseException") = some true)
    (X_hd_BadClock : PySem.W.hasDictIn K C_BadClock = true)
    (X_b_Coarse : PySem.W.subIn K (.ref C_Coarse) (.type "BaseException") = some true)
    (X_hd_Coarse : PySem.W.hasDictIn K C_Coarse = true)
    (X_b_NoBack : PySem.W.subIn K (.ref C_NoBack) (.type "BaseException") = some true)
    (X_hd_NoBack : PySem.W.hasDictIn K C_NoBack = true)
    (X_b_NoHand : PySem.W.subIn K (.ref C_NoHand) (.type "BaseException") = some true)
    (X_hd_NoHand : PySem.W.hasDictIn K C_NoHand = true)
    (X_b_NoMark : PySem.W.subIn K (.ref C_NoMark) (.type "BaseException") = some true)
    (X_hd_NoMark : PySem.W.hasDictIn K C_NoMark = true)
    (X_b_NoRow : PySem.W.subIn K (.ref C_NoRow) (.type "BaseException") = some true)
    (X_hd_NoRow : PySem.W.hasDictIn K C_NoRow = true)
    (X_b_NoSuch : PySem.W.subIn K (.ref C_NoSuch) (.type "BaseException") = some true)
    (X_hd_NoSuch : PySem.W.hasDictIn K C_NoSuch = true)
    (X_b_NoText : PySem.W.subIn K (.ref C_NoText) (.type "BaseException") = some true)
    (X_hd_NoText : PySem.W.hasDictIn K C_NoText = true)
    (X_b_TooAlike : PySem.W.subIn K (.ref C_TooAlike) (.type "BaseException") = some true)
    (X_hd_TooAlike : PySem.W.hasDictIn K C_TooAlike = true)
    (X_ty_BadClock : PySem.W.typeIn K (.ref C_BadClock) = some (.type "type"))
    (X_ty_Coarse : PySem.W.typeIn K (.ref C_Coarse) = some (.type "type"))
    (X_ty_DoubtError : PySem.W.typeIn K (.ref C_DoubtError) = some (.type "type"))
    (X_ty_NoBack : PySem.W.typeIn K (.ref C_NoBack) = some (.type "type"))
    (X_ty_NoHand : PySem.W.typeIn K (.ref C_NoHand) = some (.type "type"))
    (X_ty_NoMark : PySem.W.typeIn K (.ref C_NoMark) = some (.type "type"))
    (X_ty_NoRow : PySem.W.typeIn K (.ref C_NoRow) = some (.type "type"))
    (X_ty_NoSuch : PySem.W.typeIn K (.ref C_NoSuch) = some (.type "type"))
    (X_ty_NoText : PySem.W.typeIn K (.ref C_NoText) = some (.type "type"))
    (X_ty_TooAlike : PySem.W.typeIn K (.ref C_TooAlike) = some (.type "type"))
    (X_ic_BadClock : PySem.W.isClsIn K C_BadClock = true)
    (X_sn_BadClock : PySem.W.subIn K (.type "NoneType") (.ref C_BadClock) = some false)
    (X_ic_Coarse : PySem.W.isClsIn K C_Coarse = true)
    (X_sn_Coarse : PySem.W.subIn K (.type "NoneType") (.ref C_Coarse) = some false)
    (X_ic_DoubtError : PySem.W.isClsIn K C_DoubtError = true)
    (X_sn_DoubtError : PySem.W.subIn K (.type "NoneType") (.ref C_DoubtError) = some false)
    (X_ic_NoBack : PySem.W.isClsIn K C_NoBack = true)
    (X_sn_NoBack : PySem.W.subIn K (.type "NoneType") (.ref C_NoBack) = some false)
    (X_ic_NoHand : PySem.W.isClsIn K C_NoHand = true)
    (X_sn_NoHand : PySem.W.subIn K (.type "NoneType") (.ref C_NoHand) = some false)
    (X_ic_NoMark : PySem.W.isClsIn K C_NoMark = true)
    (X_sn_NoMark : PySem.W.subIn K (.type "NoneType") (.ref C_NoMark) = some false)
    (X_ic_NoRow : PySem.W.isClsIn K C_NoRow = true)
    (X_sn_NoRow : PySem.W.subIn K (.type "NoneType") (.ref C_NoRow) = some false)
    (X_ic_NoSuch : PySem.W.isClsIn K C_NoSuch = true)
    (X_sn_NoSuch : PySem.W.subIn K (.type "NoneType") (.ref C_NoSuch) = some false)
    (X_ic_NoText : PySem.W.isClsIn K C_NoText = true)
    (X_sn_NoText : PySem.W.subIn K (.type "NoneType") (.ref C_NoText) = some false)
    (X_ic_TooAlike : PySem.W.isClsIn K C_TooAlike = true)
    (X_sn_TooAlike : PySem.W.subIn K (.type "NoneType") (.ref C_TooAlike) = some false)
    (X_sn_ValueError : PySem.W.subIn K (.type "NoneType") (.type "ValueError") = some false)
    (X_s_BadClock_Coarse : PySem.W.subIn K (.ref C_BadClock) (.ref C_Coarse) = some false)
    (X_s_BadClock_DoubtError : PySem.W.subIn K (.ref C_BadClock) (.ref C_DoubtError) = some true)
    (X_s_BadClock_NoBack : PySem.W.subIn K (.ref C_BadClock) (.ref C_NoBack) = some false)
    (X_s_BadClock_NoHand : PySem.W.subIn K (.ref C_BadClock) (.ref C_NoHand) = some false)
    (X_s_BadClock_NoMark : PySem.W.subIn K (.ref C_BadClock) (.ref C_NoMark) = some false)
    (X_s_BadClock_NoRow : PySem.W.subIn K (.ref C_BadClock) (.ref C_NoRow) = some false)
    (X_s_BadClock_NoSuch : PySem.W.subIn K (.ref C_BadClock) (.ref C_NoSuch) = some false)
    (X_s_BadClock_NoText : PySem.W.subIn K (.ref C_BadClock) (.ref C_NoText) = some false)
    (X_s_BadClock_TooAlike : PySem.W.subIn K (.ref C_BadClock) (.ref C_TooAlike) = some false)
    (X_s_BadClock_ValueError : PySem.W.subIn K (.ref C_BadClock) (.type "ValueError") = some true)
    (X_s_Coarse_BadClock : PySem.W.subIn K (.ref C_Coarse) (.ref C_BadClock) = some false)
    (X_s_Coarse_DoubtError : PySem.W.subIn K (.ref C_Coarse) (.ref C_DoubtError) = some true)
    (X_s_Coarse_NoBack : PySem.W.subIn K (.ref C_Coarse) (.ref C_NoBack) = some false)
    (X_s_Coarse_NoHand : PySem.W.subIn K (.ref C_Coarse) (.ref C_NoHand) = some false)
    (X_s_Coarse_NoMark : PySem.W.subIn K (.ref C_Coarse) (.ref C_NoMark) = some false)
    (X_s_Coarse_NoRow : PySem.W.subIn K (.ref C_Coarse) (.ref C_NoRow) = some false)
    (X_s_Coarse_NoSuch : PySem.W.subIn K (.ref C_Coarse) (.ref C_NoSuch) = some false)
    (X_s_Coarse_NoText : PySem.W.subIn K (.ref C_Coarse) (.ref C_NoText) = some false)
    (X_s_Coarse_TooAlike : PySem.W.subIn K (.ref C_Coarse) (.ref C_TooAlike) = some false)
    (X_s_Coarse_ValueError : PySem.W.subIn K (.ref C_Coarse) (.type "ValueError") = some true)
    (X_s_NoBack_BadClock : PySem.W.subIn K (.ref C_NoBack) (.ref C_BadClock) = some false)
    (X_s_NoBack_Coarse : PySem.W.subIn K (.ref C_NoBack) (.ref C_Coarse) = some false)
    (X_s_NoBack_DoubtError : PySem.W.subIn K (.ref C_NoBack) (.ref C_DoubtError) = some true)
    (X_s_NoBack_NoHand : PySem.W.subIn K (.ref C_NoBack) (.ref C_NoHand) = some false)
    (X_s_NoBack_NoMark : PySem.W.subIn K (.ref C_NoBack) (.ref C_NoMark) = some false)
    (X_s_NoBack_NoRow : PySem.W.subIn K (.ref C_NoBack) (.ref C_NoRow) = some false)
    (X_s_NoBack_NoSuch : PySem.W.subIn K (.ref C_NoBack) (.ref C_NoSuch) = some false)
    (X_s_NoBack_NoText : PySem.W.subIn K (.ref C_NoBack) (.ref C_NoText) = some false)
    (X_s_NoBack_TooAlike : PySem.W.subIn K (.ref C_NoBack) (.ref C_TooAlike) = some false)
    (X_s_NoBack_ValueError : PySem.W.subIn K (.ref C_NoBack) (.type "ValueError") = some true)
    (X_s_NoHand_BadClock : PySem.W.subIn K (.ref C_NoHand) (.ref C_BadClock) = some false)
    (X_s_NoHand_Coarse : PySem.W.subIn K (.ref C_NoHand) (.ref C_Coarse) = some false)
    (X_s_NoHand_DoubtError : PySem.W.subIn K (.ref C_NoHand) (.ref C_DoubtError) = some true)
    (X_s_NoHand_NoBack : PySem.W.subIn K (.ref C_NoHand) (.ref C_NoBack) = some false)
    (X_s_NoHand_NoMark : PySem.W.subIn K (.ref C_NoHand) (.ref C_NoMark) = some false)
    (X_s_NoHand_NoRow : PySem.W.subIn K (.ref C_NoHand) (.ref C_NoRow) = some false)
    (X_s_NoHand_NoSuch : PySem.W.subIn K (.ref C_NoHand) (.ref C_NoSuch) = some false)
    (X_s_NoHand_NoText : PySem.W.subIn K (.ref C_NoHand) (.ref C_NoText) = some false)
    (X_s_NoHand_TooAlike : PySem.W.subIn K (.ref C_NoHand) (.ref C_TooAlike) = some false)
    (X_s_NoHand_ValueError : PySem.W.subIn K (.ref C_NoHand) (.type "ValueError") = some true)
    (X_s_NoMark_BadClock : PySem.W.subIn K (.ref C_NoMark) (.ref C_BadClock) = some false)
    (X_s_NoMark_Coarse : PySem.W.subIn K (.ref C_NoMark) (.ref C_Coarse) = some false)
    (X_s_NoMark_DoubtError : PySem.W.subIn K (.ref C_NoMark) (.ref C_DoubtError) = some true)
    (X_s_NoMark_NoBack : PySem.W.subIn K (.ref C_NoMark) (.ref C_NoBack) = some false)
    (X_s_NoMark_NoHand : PySem.W.subIn K (.ref C_NoMark) (.ref C_NoHand) = some false)
    (X_s_NoMark_NoRow : PySem.W.subIn K (.ref C_NoMark) (.ref C_NoRow) = some false)
    (X_s_NoMark_NoSuch : PySem.W.subIn K (.ref C_NoMark) (.ref C_NoSuch) = some false)
    (X_s_NoMark_NoText : PySem.W.subIn K (.ref C_NoMark) (.ref C_NoText) = some false)
    (X_s_NoMark_TooAlike : PySem.W.subIn K (.ref C_NoMark) (.ref C_TooAlike) = some false)
    (X_s_NoMark_ValueError : PySem.W.subIn K (.ref C_NoMark) (.type "ValueError") = some true)
    (X_s_NoRow_BadClock : PySem.W.subIn K (.ref C_NoRow) (.ref C_BadClock) = some false)
    (X_s_NoRow_Coarse : PySem.W.subIn K (.ref C_NoRow) (.ref C_Coarse) = some false)
    (X_s_NoRow_DoubtError : PySem.W.subIn K (.ref C_NoRow) (.ref C_DoubtError) = some true)
    (X_s_NoRow_NoBack : PySem.W.subIn K (.ref C_NoRow) (.ref C_NoBack) = some false)
    (X_s_NoRow_NoHand : PySem.W.subIn K (.ref C_NoRow) (.ref C_NoHand) = some false)
    (X_s_NoRow_NoMark : PySem.W.subIn K (.ref C_NoRow) (.ref C_NoMark) = some false)
    (X_s_NoRow_NoSuch : PySem.W.subIn K (.ref C_NoRow) (.ref C_NoSuch) = some false)
    (X_s_NoRow_NoText : PySem.W.subIn K (.ref C_NoRow) (.ref C_NoText) = some false)
    (X_s_NoRow_TooAlike : PySem.W.subIn K (.ref C_NoRow) (.ref C_TooAlike) = some false)
    (X_s_NoRow_ValueError : PySem.W.subIn K (.ref C_NoRow) (.type "ValueError") = some true)
    (X_s_NoSuch_BadClock : PySem.W.subIn K (.ref C_NoSuch) (.ref C_BadClock) = some false)
    (X_s_NoSuch_Coarse : PySem.W.subIn K (.ref C_NoSuch) (.ref C_Coarse) = some false)
    (X_s_NoSuch_DoubtError : PySem.W.subIn K (.ref C_NoSuch) (.ref C_DoubtError) = some true)
    (X_s_NoSuch_NoBack : PySem.W.subIn K (.ref C_NoSuch) (.ref C_NoBack) = some false)
    (X_s_NoSuch_NoHand : PySem.W.subIn K (.ref C_NoSuch) (.ref C_NoHand) = some false)
    (X_s_NoSuch_NoMark : PySem.W.subIn K (.ref C_NoSuch) (.ref C_NoMark) = some false)
    (X_s_NoSuch_NoRow : PySem.W.subIn K (.ref C_NoSuch) (.ref C_NoRow) = some false)
    (X_s_NoSuch_NoText : PySem.W.subIn K (.ref C_NoSuch) (.ref C_NoText) = some false)
    (X_s_NoSuch_TooAlike : PySem.W.subIn K (.ref C_NoSuch) (.ref C_TooAlike) = some false)
    (X_s_NoSuch_ValueError : PySem.W.subIn K (.ref C_NoSuch) (.type "ValueError") = some true)
    (X_s_NoText_BadClock : PySem.W.subIn K (.ref C_NoText) (.ref C_BadClock) = some false)
    (X_s_NoText_Coarse : PySem.W.subIn K (.ref C_NoText) (.ref C_Coarse) = some false)
    (X_s_NoText_DoubtError : PySem.W.subIn K (.ref C_NoText) (.ref C_DoubtError) = some true)
    (X_s_NoText_NoBack : PySem.W.subIn K (.ref C_NoText) (.ref C_NoBack) = some false)
    (X_s_NoText_NoHand : PySem.W.subIn K (.ref C_NoText) (.ref C_NoHand) = some false)
    (X_s_NoText_NoMark : PySem.W.subIn K (.ref C_NoText) (.ref C_NoMark) = some false)
    (X_s_NoText_NoRow : PySem.W.subIn K (.ref C_NoText) (.ref C_NoRow) = some false)
    (X_s_NoText_NoSuch : PySem.W.subIn K (.ref C_NoText) (.ref C_NoSuch) = some false)
    (X_s_NoText_TooAlike : PySem.W.subIn K (.ref C_NoText) (.ref C_TooAlike) = some false)
    (X_s_NoText_ValueError : PySem.W.subIn K (.ref C_NoText) (.type "ValueError") = some true)
    (X_s_TooAlike_BadClock : PySem.W.subIn K (.ref C_TooAlike) (.ref C_BadClock) = some false)
    (X_s_TooAlike_Coarse : PySem.W.subIn K (.ref C_TooAlike) (.ref C_Coarse) = some false)
    (X_s_TooAlike_DoubtError : PySem.W.subIn K (.ref C_TooAlike) (.ref C_DoubtError) = some true)
    (X_s_TooAlike_NoBack : PySem.W.subIn K (.ref C_TooAlike) (.ref C_NoBack) = some false)
    (X_s_TooAlike_NoHand : PySem.W.subIn K (.ref C_TooAlike) (.ref C_NoHand) = some false)
    (X_s_TooAlike_NoMark : PySem.W.subIn K (.ref C_TooAlike) (.ref C_NoMark) = some false)
    (X_s_TooAlike_NoRow : PySem.W.subIn K (.ref C_TooAlike) (.ref C_NoRow) = some false)
    (X_s_TooAlike_NoSuch : PySem.W.subIn K (.ref C_TooAlike) (.ref C_NoSuch) = some false)
    (X_s_TooAlike_NoText : PySem.W.subIn K (.ref C_TooAlike) (.ref C_NoText) = some false)
    (X_s_TooAlike_ValueError : PySem.W.subIn K (.ref C_TooAlike) (.type "ValueError") = some true)
    (X_no_Coarse_step : PySem.W.findIn K (.ref C_Coarse) "step" = some none)
    (X_no_NoText_row : PySem.W.findIn K (.ref C_NoText) "row" = some none)
    (X_xl_Coarse : K.lookup C_Coarse = some (excClassObj nm_Coarse q_Coarse C_Coarse N_Coarse bs_Coarse [.ref C_DoubtError, .type "ValueError", .type "Exception", .type "BaseException", .type "object"] true sn_Coarse sub_Coarse ab_Coarse col_Coarse dd_Coarse k0_Coarse k1_Coarse k2_Coarse k3_Coarse k5_Coarse "ValueError.__new__"))
    (X_sa_Coarse : PySem.W.findIn K (.ref C_Coarse) "__setattr__" = some (some (.builtin "object.__setattr__")))
    (X_ii_Coarse : PySem.W.findIn K (.ref C_Coarse) "__init__" = some (some (.ref fi_Coarse)))
    (X_it_Coarse : PySem.W.typeIn K (.ref fi_Coarse) = some (.type "function"))
    (X_fl_Coarse : K.lookup fi_Coarse = some ⟨oc_Coarse, od_Coarse, .func (PySem.W.fnOf "__init__" "Coarse.__init__" (defArgs s_init_Coarse) (defBody s_init_Coarse) (defScope s_init_Coarse) .none kV_Coarse dc_Coarse pm_Coarse an_Coarse cd_Coarse ct_Coarse), sl_Coarse⟩)
    (X_fc_Coarse : PySem.W.codeIn K cd_Coarse "Coarse.__init__" = true)
    (X_fk_Coarse : PySem.W.keepIn K (.ref fi_Coarse) = true)
    (X_sg_Coarse : PySem.W.specialIn K (.ref C_DoubtError) "__getattribute__" = some (some (.builtin "type.__getattribute__")))
    (X_rd_Coarse : PySem.W.readsIn K C_DoubtError (.type "type") = true)
    (X_fx_Coarse : PySem.W.findCls K (.ref C_DoubtError) (.type "type") "__init__" = some (.val (.builtin "ValueError.__init__")))
    (X_xl_NoText : K.lookup C_NoText = some (excClassObj nm_NoText q_NoText C_NoText N_NoText bs_NoText [.ref C_DoubtError, .type "ValueError", .type "Exception", .type "BaseException", .type "object"] true sn_NoText sub_NoText ab_NoText col_NoText dd_NoText k0_NoText k1_NoText k2_NoText k3_NoText k5_NoText "ValueError.__new__"))
    (X_sa_NoText : PySem.W.findIn K (.ref C_NoText) "__setattr__" = some (some (.builtin "object.__setattr__")))
    (X_ii_NoText : PySem.W.findIn K (.ref C_NoText) "__init__" = some (some (.ref fi_NoText)))
    (X_it_NoText : PySem.W.typeIn K (.ref fi_NoText) = some (.type "function"))
    (X_fl_NoText : K.lookup fi_NoText = some ⟨oc_NoText, od_NoText, .func (PySem.W.fnOf "__init__" "NoText.__init__" (defArgs s_init_NoText) (defBody s_init_NoText) (defScope s_init_NoText) .none kV_NoText dc_NoText pm_NoText an_NoText cd_NoText ct_NoText), sl_NoText⟩)
    (X_fc_NoText : PySem.W.codeIn K cd_NoText "NoText.__init__" = true)
    (X_fk_NoText : PySem.W.keepIn K (.ref fi_NoText) = true)
    (X_sg_NoText : PySem.W.specialIn K (.ref C_DoubtError) "__getattribute__" = some (some (.builtin "type.__getattribute__")))
    (X_rd_NoText : PySem.W.readsIn K C_DoubtError (.type "type") = true)
    (X_fx_NoText : PySem.W.findCls K (.ref C_DoubtError) (.type "type") "__init__" = some (.val (.builtin "ValueError.__init__"))) :
    ∃ fd : FuncData, (∀ (s : Shared) (v : Value), BindsTo s fd ⟨[v], []⟩ [("script", v)]) ∧ ∀ base : Heap, K.In base → base.Ns mainGlobals mg → FnOk l.prog w K mg base CX0 4 fa fd ["script"] (spF K g_law) := by
  have e := hfa.symm.trans (PySem.W.mg_of X G a3)
  cases e
  obtain ⟨T, e1, e2⟩ := tx_mk X G a0 l0 c0 k0 a1 l1 c1 k1 a2 l2 c2 k2 a3 l3 c3 k3  z0 z1 z2 z3 z4 z5 X_m_BadClock X_m_Coarse X_m_DoubtError X_m_NoBack X_m_NoHand X_m_NoMark X_m_NoRow X_m_NoSuch X_m_NoText X_m_TooAlike X_x_BadClock X_k_BadClock X_hg_BadClock X_hk_BadClock X_ha_BadClock X_hm_BadClock X_k_Coarse X_hg_Coarse X_hk_Coarse X_ha_Coarse X_hm_Coarse X_x_NoBack X_k_NoBack X_hg_NoBack X_hk_NoBack X_ha_NoBack X_hm_NoBack X_x_NoHand X_k_NoHand X_hg_NoHand X_hk_NoHand X_ha_NoHand X_hm_NoHand X_x_NoMark X_k_NoMark X_hg_NoMark X_hk_NoMark X_ha_NoMark X_hm_NoMark X_x_NoRow X_k_NoRow X_hg_NoRow X_hk_NoRow X_ha_NoRow X_hm_NoRow X_x_NoSuch X_k_NoSuch X_hg_NoSuch X_hk_NoSuch X_ha_NoSuch X_hm_NoSuch X_k_NoText X_hg_NoText X_hk_NoText X_ha_NoText X_hm_NoText X_x_TooAlike X_k_TooAlike X_hg_TooAlike X_hk_TooAlike X_ha_TooAlike X_hm_TooAlike X_hn_ X_ht_ X_b_BadClock X_hd_BadClock X_b_Coarse X_hd_Coarse X_b_NoBack X_hd_NoBack X_b_NoHand X_hd_NoHand X_b_NoMark X_hd_NoMark X_b_NoRow X_hd_NoRow X_b_NoSuch X_hd_NoSuch X_b_NoText X_hd_NoText X_b_TooAlike X_hd_TooAlike X_ty_BadClock X_ty_Coarse X_ty_DoubtError X_ty_NoBack X_ty_NoHand X_ty_NoMark X_ty_NoRow X_ty_NoSuch X_ty_NoText X_ty_TooAlike X_ic_BadClock X_sn_BadClock X_ic_Coarse X_sn_Coarse X_ic_DoubtError X_sn_DoubtError X_ic_NoBack X_sn_NoBack X_ic_NoHand X_sn_NoHand X_ic_NoMark X_sn_NoMark X_ic_NoRow X_sn_NoRow X_ic_NoSuch X_sn_NoSuch X_ic_NoText X_sn_NoText X_ic_TooAlike X_sn_TooAlike X_sn_ValueError X_s_BadClock_Coarse X_s_BadClock_DoubtError X_s_BadClock_NoBack X_s_BadClock_NoHand X_s_BadClock_NoMark X_s_BadClock_NoRow X_s_BadClock_NoSuch X_s_BadClock_NoText X_s_BadClock_TooAlike X_s_BadClock_ValueError X_s_Coarse_BadClock X_s_Coarse_DoubtError X_s_Coarse_NoBack X_s_Coarse_NoHand X_s_Coarse_NoMark X_s_Coarse_NoRow X_s_Coarse_NoSuch X_s_Coarse_NoText X_s_Coarse_TooAlike X_s_Coarse_ValueError X_s_NoBack_BadClock X_s_NoBack_Coarse X_s_NoBack_DoubtError X_s_NoBack_NoHand X_s_NoBack_NoMark X_s_NoBack_NoRow X_s_NoBack_NoSuch X_s_NoBack_NoText X_s_NoBack_TooAlike X_s_NoBack_ValueError X_s_NoHand_BadClock X_s_NoHand_Coarse X_s_NoHand_DoubtError X_s_NoHand_NoBack X_s_NoHand_NoMark X_s_NoHand_NoRow X_s_NoHand_NoSuch X_s_NoHand_NoText X_s_NoHand_TooAlike X_s_NoHand_ValueError X_s_NoMark_BadClock X_s_NoMark_Coarse X_s_NoMark_DoubtError X_s_NoMark_NoBack X_s_NoMark_NoHand X_s_NoMark_NoRow X_s_NoMark_NoSuch X_s_NoMark_NoText X_s_NoMark_TooAlike X_s_NoMark_ValueError X_s_NoRow_BadClock X_s_NoRow_Coarse X_s_NoRow_DoubtError X_s_NoRow_NoBack X_s_NoRow_NoHand X_s_NoRow_NoMark X_s_NoRow_NoSuch X_s_NoRow_NoText X_s_NoRow_TooAlike X_s_NoRow_ValueError X_s_NoSuch_BadClock X_s_NoSuch_Coarse X_s_NoSuch_DoubtError X_s_NoSuch_NoBack X_s_NoSuch_NoHand X_s_NoSuch_NoMark X_s_NoSuch_NoRow X_s_NoSuch_NoText X_s_NoSuch_TooAlike X_s_NoSuch_ValueError X_s_NoText_BadClock X_s_NoText_Coarse X_s_NoText_DoubtError X_s_NoText_NoBack X_s_NoText_NoHand X_s_NoText_NoMark X_s_NoText_NoRow X_s_NoText_NoSuch X_s_NoText_TooAlike X_s_NoText_ValueError X_s_TooAlike_BadClock X_s_TooAlike_Coarse X_s_TooAlike_DoubtError X_s_TooAlike_NoBack X_s_TooAlike_NoHand X_s_TooAlike_NoMark X_s_TooAlike_NoRow X_s_TooAlike_NoSuch X_s_TooAlike_NoText X_s_TooAlike_ValueError X_no_Coarse_step X_no_NoText_row X_xl_Coarse X_sa_Coarse X_ii_Coarse X_it_Coarse X_fl_Coarse X_fc_Coarse X_fk_Coarse X_sg_Coarse X_rd_Coarse X_fx_Coarse X_xl_NoText X_sa_NoText X_ii_NoText X_it_NoText X_fl_NoText X_fc_NoText X_fk_NoText X_sg_NoText X_rd_NoText X_fx_NoText
  refine ⟨T.d_law, fun s v => ?_, fun base _ _ => ?_⟩
  · rw [e2]; exact .of_eq rfl
  · have := ok_law (P := l.prog) (w := w) (base := base) T
    rw [e1] at this
    exact this
end Lw

section
open PySem PySem.W PyProof.Rows
set_option maxHeartbeats 0 in
theorem Lw.walked (hlaw : ∀ ns : List Int, ns.length ≤ 63 → ∃ args', Lw.g_law [.ro (ns.map .int)] = some (.bool true, args')) : PySem.Challenge.rw_dialdoubt_k01_refusals_stand_alone.Holds := by
  w_on
  refine Lw.wrap ?_
  k_fill
  refine L2.walk_of (l := PySem.Challenge.rw_dialdoubt_k01_refusals_stand_alone) (n := 63) (k := 4) (x := "script") (CX := fun _ => L2.CX0) (sp := fun w => M.spF _ Lw.g_law) rfl (by decide) rfl ⟨rfl, by decide, by decide⟩ (fun w h Y => PySem.W.kIn_of Y) ?F (fun _ _ a ns hl _ hS => M.law_sp hS (hlaw ns hl)) (fun _ _ _ _ _ h => h)
  case F =>
    intro w mg fa h KX G hmg
    refine' Lw.all_mk KX G hmg ?a0 ?l0 ?c0 ?k0 ?a1 ?l1 ?c1 ?k1 ?a2 ?l2 ?c2 ?k2 ?a3 ?l3 ?c3 ?k3 ?z0 ?z1 ?z2 ?z3 ?z4 ?z5 ?X_m_BadClock ?X_m_Coarse ?X_m_DoubtError ?X_m_NoBack ?X_m_NoHand ?X_m_NoMark ?X_m_NoRow ?X_m_NoSuch ?X_m_NoText ?X_m_TooAlike ?X_x_BadClock ?X_k_BadClock ?X_hg_BadClock ?X_hk_BadClock ?X_ha_BadClock ?X_hm_BadClock ?X_k_Coarse ?X_hg_Coarse ?X_hk_Coarse ?X_ha_Coarse ?X_hm_Coarse ?X_x_NoBack ?X_k_NoBack ?X_hg_NoBack ?X_hk_NoBack ?X_ha_NoBack ?X_hm_NoBack ?X_x_NoHand ?X_k_NoHand ?X_hg_NoHand ?X_hk_NoHand ?X_ha_NoHand ?X_hm_NoHand ?X_x_NoMark ?X_k_NoMark ?X_hg_NoMark ?X_hk_NoMark ?X_ha_NoMark ?X_hm_NoMark ?X_x_NoRow ?X_k_NoRow ?X_hg_NoRow ?X_hk_NoRow ?X_ha_NoRow ?X_hm_NoRow ?X_x_NoSuch ?X_k_NoSuch ?X_hg_NoSuch ?X_hk_NoSuch ?X_ha_NoSuch ?X_hm_NoSuch ?X_k_NoText ?X_hg_NoText ?X_hk_NoText ?X_ha_NoText ?X_hm_NoText ?X_x_TooAlike ?X_k_TooAlike ?X_hg_TooAlike ?X_hk_TooAlike ?X_ha_TooAlike ?X_hm_TooAlike ?X_hn_ ?X_ht_ ?X_b_BadClock ?X_hd_BadClock ?X_b_Coarse ?X_hd_Coarse ?X_b_NoBack ?X_hd_NoBack ?X_b_NoHand ?X_hd_NoHand ?X_b_NoMark ?X_hd_NoMark ?X_b_NoRow ?X_hd_NoRow ?X_b_NoSuch ?X_hd_NoSuch ?X_b_NoText ?X_hd_NoText ?X_b_TooAlike ?X_hd_TooAlike ?X_ty_BadClock ?X_ty_Coarse ?X_ty_DoubtError ?X_ty_NoBack ?X_ty_NoHand ?X_ty_NoMark ?X_ty_NoRow ?X_ty_NoSuch ?X_ty_NoText ?X_ty_TooAlike ?X_ic_BadClock ?X_sn_BadClock ?X_ic_Coarse ?X_sn_Coarse ?X_ic_DoubtError ?X_sn_DoubtError ?X_ic_NoBack ?X_sn_NoBack ?X_ic_NoHand ?X_sn_NoHand ?X_ic_NoMark ?X_sn_NoMark ?X_ic_NoRow ?X_sn_NoRow ?X_ic_NoSuch ?X_sn_NoSuch ?X_ic_NoText ?X_sn_NoText ?X_ic_TooAlike ?X_sn_TooAlike ?X_sn_ValueError ?X_s_BadClock_Coarse ?X_s_BadClock_DoubtError ?X_s_BadClock_NoBack ?X_s_BadClock_NoHand ?X_s_BadClock_NoMark ?X_s_BadClock_NoRow ?X_s_BadClock_NoSuch ?X_s_BadClock_NoText ?X_s_BadClock_TooAlike ?X_s_BadClock_ValueError ?X_s_Coarse_BadClock ?X_s_Coarse_DoubtError ?X_s_Coarse_NoBack ?X_s_Coarse_NoHand ?X_s_Coarse_NoMark ?X_s_Coarse_NoRow ?X_s_Coarse_NoSuch ?X_s_Coarse_NoText ?X_s_Coarse_TooAlike ?X_s_Coarse_ValueError ?X_s_NoBack_BadClock ?X_s_NoBack_Coarse ?X_s_NoBack_DoubtError ?X_s_NoBack_NoHand ?X_s_NoBack_NoMark ?X_s_NoBack_NoRow ?X_s_NoBack_NoSuch ?X_s_NoBack_NoText ?X_s_NoBack_TooAlike ?X_s_NoBack_ValueError ?X_s_NoHand_BadClock ?X_s_NoHand_Coarse ?X_s_NoHand_DoubtError ?X_s_NoHand_NoBack ?X_s_NoHand_NoMark ?X_s_NoHand_NoRow ?X_s_NoHand_NoSuch ?X_s_NoHand_NoText ?X_s_NoHand_TooAlike ?X_s_NoHand_ValueError ?X_s_NoMark_BadClock ?X_s_NoMark_Coarse ?X_s_NoMark_DoubtError ?X_s_NoMark_NoBack ?X_s_NoMark_NoHand ?X_s_NoMark_NoRow ?X_s_NoMark_NoSuch ?X_s_NoMark_NoText ?X_s_NoMark_TooAlike ?X_s_NoMark_ValueError ?X_s_NoRow_BadClock ?X_s_NoRow_Coarse ?X_s_NoRow_DoubtError ?X_s_NoRow_NoBack ?X_s_NoRow_NoHand ?X_s_NoRow_NoMark ?X_s_NoRow_NoSuch ?X_s_NoRow_NoText ?X_s_NoRow_TooAlike ?X_s_NoRow_ValueError ?X_s_NoSuch_BadClock ?X_s_NoSuch_Coarse ?X_s_NoSuch_DoubtError ?X_s_NoSuch_NoBack ?X_s_NoSuch_NoHand ?X_s_NoSuch_NoMark ?X_s_NoSuch_NoRow ?X_s_NoSuch_NoText ?X_s_NoSuch_TooAlike ?X_s_NoSuch_ValueError ?X_s_NoText_BadClock ?X_s_NoText_Coarse ?X_s_NoText_DoubtError ?X_s_NoText_NoBack ?X_s_NoText_NoHand ?X_s_NoText_NoMark ?X_s_NoText_NoRow ?X_s_NoText_NoSuch ?X_s_NoText_TooAlike ?X_s_NoText_ValueError ?X_s_TooAlike_BadClock ?X_s_TooAlike_Coarse ?X_s_TooAlike_DoubtError ?X_s_TooAlike_NoBack ?X_s_TooAlike_NoHand ?X_s_TooAlike_NoMark ?X_s_TooAlike_NoRow ?X_s_TooAlike_NoSuch ?X_s_TooAlike_NoText ?X_s_TooAlike_ValueError ?X_no_Coarse_step ?X_no_NoText_row ?X_xl_Coarse ?X_sa_Coarse ?X_ii_Coarse ?X_it_Coarse ?X_fl_Coarse ?X_fc_Coarse ?X_fk_Coarse ?X_sg_Coarse ?X_rd_Coarse ?X_fx_Coarse ?X_xl_NoText ?X_sa_NoText ?X_ii_NoText ?X_it_NoText ?X_fl_NoText ?X_fc_NoText ?X_fk_NoText ?X_sg_NoText ?X_rd_NoText ?X_fx_NoText
    (case a0 => k_is); (case l0 => k_is); (case c0 => k_is); (case k0 => k_is); (case a1 => k_is); (case l1 => k_is); (case c1 => k_is); (case k1 => k_is); (case a2 => k_is); (case l2 => k_is); (case c2 => k_is); (case k2 => k_is); (case a3 => k_is); (case l3 => k_is); (case c3 => k_is); (case k3 => k_is); (case z0 => k_is); (case z1 => k_is); (case z2 => k_is); (case z3 => k_is); (case z4 => k_is); (case z5 => k_is); (case X_m_BadClock => k_is); (case X_m_Coarse => k_is); (case X_m_DoubtError => k_is); (case X_m_NoBack => k_is); (case X_m_NoHand => k_is); (case X_m_NoMark => k_is); (case X_m_NoRow => k_is); (case X_m_NoSuch => k_is); (case X_m_NoText => k_is); (case X_m_TooAlike => k_is); (case X_x_BadClock => k_exc); (case X_k_BadClock => k_is); (case X_hg_BadClock => k_is); (case X_hk_BadClock => k_is); (case X_ha_BadClock => k_is); (case X_hm_BadClock => k_is); (case X_k_Coarse => k_is); (case X_hg_Coarse => k_is); (case X_hk_Coarse => k_is); (case X_ha_Coarse => k_is); (case X_hm_Coarse => k_is); (case X_x_NoBack => k_exc); (case X_k_NoBack => k_is); (case X_hg_NoBack => k_is); (case X_hk_NoBack => k_is); (case X_ha_NoBack => k_is); (case X_hm_NoBack => k_is); (case X_x_NoHand => k_exc); (case X_k_NoHand => k_is); (case X_hg_NoHand => k_is); (case X_hk_NoHand => k_is); (case X_ha_NoHand => k_is); (case X_hm_NoHand => k_is); (case X_x_NoMark => k_exc); (case X_k_NoMark => k_is); (case X_hg_NoMark => k_is); (case X_hk_NoMark => k_is); (case X_ha_NoMark => k_is); (case X_hm_NoMark => k_is); (case X_x_NoRow => k_exc); (case X_k_NoRow => k_is); (case X_hg_NoRow => k_is); (case X_hk_NoRow => k_is); (case X_ha_NoRow => k_is); (case X_hm_NoRow => k_is); (case X_x_NoSuch => k_exc); (case X_k_NoSuch => k_is); (case X_hg_NoSuch => k_is); (case X_hk_NoSuch => k_is); (case X_ha_NoSuch => k_is); (case X_hm_NoSuch => k_is); (case X_k_NoText => k_is); (case X_hg_NoText => k_is); (case X_hk_NoText => k_is); (case X_ha_NoText => k_is); (case X_hm_NoText => k_is); (case X_x_TooAlike => k_exc); (case X_k_TooAlike => k_is); (case X_hg_TooAlike => k_is); (case X_hk_TooAlike => k_is); (case X_ha_TooAlike => k_is); (case X_hm_TooAlike => k_is); (case X_hn_ => k_is); (case X_ht_ => k_is); (case X_b_BadClock => k_is); (case X_hd_BadClock => k_is); (case X_b_Coarse => k_is); (case X_hd_Coarse => k_is); (case X_b_NoBack => k_is); (case X_hd_NoBack => k_is); (case X_b_NoHand => k_is); (case X_hd_NoHand => k_is); (case X_b_NoMark => k_is); (case X_hd_NoMark => k_is); (case X_b_NoRow => k_is); (case X_hd_NoRow => k_is); (case X_b_NoSuch => k_is); (case X_hd_NoSuch => k_is); (case X_b_NoText => k_is); (case X_hd_NoText => k_is); (case X_b_TooAlike => k_is); (case X_hd_TooAlike => k_is); (case X_ty_BadClock => k_is); (case X_ty_Coarse => k_is); (case X_ty_DoubtError => k_is); (case X_ty_NoBack => k_is); (case X_ty_NoHand => k_is); (case X_ty_NoMark => k_is); (case X_ty_NoRow => k_is); (case X_ty_NoSuch => k_is); (case X_ty_NoText => k_is); (case X_ty_TooAlike => k_is); (case X_ic_BadClock => k_is); (case X_sn_BadClock => k_is); (case X_ic_Coarse => k_is); (case X_sn_Coarse => k_is); (case X_ic_DoubtError => k_is); (case X_sn_DoubtError => k_is); (case X_ic_NoBack => k_is); (case X_sn_NoBack => k_is); (case X_ic_NoHand => k_is); (case X_sn_NoHand => k_is); (case X_ic_NoMark => k_is); (case X_sn_NoMark => k_is); (case X_ic_NoRow => k_is); (case X_sn_NoRow => k_is); (case X_ic_NoSuch => k_is); (case X_sn_NoSuch => k_is); (case X_ic_NoText => k_is); (case X_sn_NoText => k_is); (case X_ic_TooAlike => k_is); (case X_sn_TooAlike => k_is); (case X_sn_ValueError => k_is); (case X_s_BadClock_Coarse => k_is); (case X_s_BadClock_DoubtError => k_is); (case X_s_BadClock_NoBack => k_is); (case X_s_BadClock_NoHand => k_is); (case X_s_BadClock_NoMark => k_is); (case X_s_BadClock_NoRow => k_is); (case X_s_BadClock_NoSuch => k_is); (case X_s_BadClock_NoText => k_is); (case X_s_BadClock_TooAlike => k_is); (case X_s_BadClock_ValueError => k_is); (case X_s_Coarse_BadClock => k_is); (case X_s_Coarse_DoubtError => k_is); (case X_s_Coarse_NoBack => k_is); (case X_s_Coarse_NoHand => k_is); (case X_s_Coarse_NoMark => k_is); (case X_s_Coarse_NoRow => k_is); (case X_s_Coarse_NoSuch => k_is); (case X_s_Coarse_NoText => k_is); (case X_s_Coarse_TooAlike => k_is); (case X_s_Coarse_ValueError => k_is); (case X_s_NoBack_BadClock => k_is); (case X_s_NoBack_Coarse => k_is); (case X_s_NoBack_DoubtError => k_is); (case X_s_NoBack_NoHand => k_is); (case X_s_NoBack_NoMark => k_is); (case X_s_NoBack_NoRow => k_is); (case X_s_NoBack_NoSuch => k_is); (case X_s_NoBack_NoText => k_is); (case X_s_NoBack_TooAlike => k_is); (case X_s_NoBack_ValueError => k_is); (case X_s_NoHand_BadClock => k_is); (case X_s_NoHand_Coarse => k_is); (case X_s_NoHand_DoubtError => k_is); (case X_s_NoHand_NoBack => k_is); (case X_s_NoHand_NoMark => k_is); (case X_s_NoHand_NoRow => k_is); (case X_s_NoHand_NoSuch => k_is); (case X_s_NoHand_NoText => k_is); (case X_s_NoHand_TooAlike => k_is); (case X_s_NoHand_ValueError => k_is); (case X_s_NoMark_BadClock => k_is); (case X_s_NoMark_Coarse => k_is); (case X_s_NoMark_DoubtError => k_is); (case X_s_NoMark_NoBack => k_is); (case X_s_NoMark_NoHand => k_is); (case X_s_NoMark_NoRow => k_is); (case X_s_NoMark_NoSuch => k_is); (case X_s_NoMark_NoText => k_is); (case X_s_NoMark_TooAlike => k_is); (case X_s_NoMark_ValueError => k_is); (case X_s_NoRow_BadClock => k_is); (case X_s_NoRow_Coarse => k_is); (case X_s_NoRow_DoubtError => k_is); (case X_s_NoRow_NoBack => k_is); (case X_s_NoRow_NoHand => k_is); (case X_s_NoRow_NoMark => k_is); (case X_s_NoRow_NoSuch => k_is); (case X_s_NoRow_NoText => k_is); (case X_s_NoRow_TooAlike => k_is); (case X_s_NoRow_ValueError => k_is); (case X_s_NoSuch_BadClock => k_is); (case X_s_NoSuch_Coarse => k_is); (case X_s_NoSuch_DoubtError => k_is); (case X_s_NoSuch_NoBack => k_is); (case X_s_NoSuch_NoHand => k_is); (case X_s_NoSuch_NoMark => k_is); (case X_s_NoSuch_NoRow => k_is); (case X_s_NoSuch_NoText => k_is); (case X_s_NoSuch_TooAlike => k_is); (case X_s_NoSuch_ValueError => k_is); (case X_s_NoText_BadClock => k_is); (case X_s_NoText_Coarse => k_is); (case X_s_NoText_DoubtError => k_is); (case X_s_NoText_NoBack => k_is); (case X_s_NoText_NoHand => k_is); (case X_s_NoText_NoMark => k_is); (case X_s_NoText_NoRow => k_is); (case X_s_NoText_NoSuch => k_is); (case X_s_NoText_TooAlike => k_is); (case X_s_NoText_ValueError => k_is); (case X_s_TooAlike_BadClock => k_is); (case X_s_TooAlike_Coarse => k_is); (case X_s_TooAlike_DoubtError => k_is); (case X_s_TooAlike_NoBack => k_is); (case X_s_TooAlike_NoHand => k_is); (case X_s_TooAlike_NoMark => k_is); (case X_s_TooAlike_NoRow => k_is); (case X_s_TooAlike_NoSuch => k_is); (case X_s_TooAlike_NoText => k_is); (case X_s_TooAlike_ValueError => k_is); (case X_no_Coarse_step => k_is); (case X_no_NoText_row => k_is); (case X_xl_Coarse => k_is); (case X_sa_Coarse => k_is); (case X_ii_Coarse => k_is); (case X_it_Coarse => k_is); (case X_fl_Coarse => k_is); (case X_fc_Coarse => k_is); (case X_fk_Coarse => k_is); (case X_sg_Coarse => k_is); (case X_rd_Coarse => k_is); (case X_fx_Coarse => k_is); (case X_xl_NoText => k_is); (case X_sa_NoText => k_is); (case X_ii_NoText => k_is); (case X_it_NoText => k_is); (case X_fl_NoText => k_is); (case X_fc_NoText => k_is); (case X_fk_NoText => k_is); (case X_sg_NoText => k_is); (case X_rd_NoText => k_is); (case X_fx_NoText => k_is)

end

namespace Lw
open PySem PySem.Spec PyProof.Rows L2 M
local macro_rules | `(tactic| walk_at "sd") => `(tactic| (first | (with_reducible assumption) | omega | (simp; done) | (simp; omega) | decide))
local macro_rules | `(tactic| walk_at "v1") => `(tactic| (first | ((with_reducible show WE _ _ _); first | with_reducible refine we_chain3 ?_ | with_reducible refine we_callNL ?_ | with_reducible refine we_callN ?_ | with_reducible refine we_c ?_ | with_reducible refine we_un ?_ | with_reducible refine we_bin ?_ | with_reducible refine we_chain ?_ | with_reducible refine we_and ?_ | with_reducible refine we_or ?_ | with_reducible refine we_not ?_ | with_reducible refine we_if ?_ | with_reducible refine we_fz ?_ | with_reducible refine we_tup ?_ | with_reducible refine we_sl ?_ | with_reducible refine we_tupRg ?_ | with_reducible refine we_bor ?_ | with_reducible refine we_call ?_ | with_reducible refine we_din ?_ | with_reducible refine we_borL ?_ | ((with_reducible apply we_v); (· rfl)) | ((with_reducible show WE (eO _) _ _); first | ((with_reducible apply we_oV); (· rfl)) | ((with_reducible apply we_oW); (· rfl)) | ((with_reducible apply we_oR); (· rfl))) | ((with_reducible show WE (eBinV _ _ _) _ _); first | ((with_reducible apply we_bV); (· rfl)) | ((with_reducible apply we_bVr); (· rfl)) | ((with_reducible apply we_bVv); (· rfl))) | ((with_reducible apply we_mut); (· rfl)) | ((with_reducible apply we_mut0); (· rfl)) | ((with_reducible apply we_dget2); (· rfl)) | ((with_reducible apply we_didx); (· rfl))) | ((with_reducible show WO _ _); first | ((with_reducible show WO (gIsO _ _) _); first | with_reducible refine wo_isON ?_ | ((with_reducible refine wo_isO (b := true) ?_ ?_); (· rfl)) | ((with_reducible refine wo_isO (b := false) ?_ ?_); (· rfl))) | with_reducible refine wo_attr ?_ | ((with_reducible show WO (valsA _) _); first | with_reducible refine vals_nil ?_ | with_reducible refine vals_v ?_) | with_reducible refine wo_isB ?_ | with_reducible refine wo_ntB ?_ | ((with_reducible show WO (backAr _ _ _) _); first | with_reducible refine back_nil ?_ | with_reducible refine back_v ?_ | with_reducible refine back_o ?_ | ((with_reducible apply back_r); (· rfl))) | ((with_reducible show WO (resArs _ _) _); first | with_reducible refine res_nil ?_ | with_reducible refine res_v ?_ | ((with_reducible apply res_r); (· rfl)) | ((with_reducible apply res_oO); (· rfl)) | ((with_reducible apply res_oR); (· rfl)) | ((with_reducible apply res_oV); (· rfl))) | ((with_reducible show WO (gAdd _ _) _); first | with_reducible refine wo_add ?_ | ((with_reducible refine wo_addL ?_ ?_); (· first | rfl | (apply fits_of; first | omega | (simp; omega)))) | ((with_reducible refine wo_addT ?_ ?_); (· first | rfl | (apply fits_of; first | omega | (simp; omega))))) | with_reducible refine wo_sub ?_ | with_reducible refine wo_neg ?_ | with_reducible refine wo_lt ?_ | with_reducible refine wo_le ?_ | with_reducible refine wo_gt ?_ | with_reducible refine wo_ge ?_ | ((with_reducible show WO (gEq _ _) _); first | with_reducible refine wo_eq ?_ | with_reducible refine wo_eqB ?_ | ((with_reducible refine wo_eqT ?_ ?_); (· decide +kernel)) | ((with_reducible refine wo_eqF ?_ ?_); (· decide +kernel))) | ((with_reducible show WO (gNe _ _) _); first | with_reducible refine wo_ne ?_ | with_reducible refine wo_neB ?_ | ((with_reducible refine wo_neT ?_ ?_); (· decide +kernel)) | ((with_reducible refine wo_neF ?_ ?_); (· decide +kernel))) | with_reducible refine wo_isN ?_ | with_reducible refine wo_ntN ?_ | ((with_reducible show WO (gLen _) _); first | with_reducible refine wo_lenL ?_ | with_reducible refine wo_lenT ?_) | with_reducible refine wo_abs ?_ | ((with_reducible show WO (gInt _) _); first | with_reducible refine wo_intB ?_ | with_reducible refine wo_intI ?_) | ((with_reducible show WO (gList _) _); first | with_reducible refine wo_listL ?_ | with_reducible refine wo_listT ?_) | ((with_reducible show WO (gTuple _) _); first | with_reducible refine wo_tupL ?_ | with_reducible refine wo_tupT ?_) | with_reducible refine wo_max ?_ | with_reducible refine wo_min ?_ | ((with_reducible show WO (gIsi _ _) _); first | with_reducible refine wo_isiI ?_ | with_reducible refine wo_isiB ?_ | ((with_reducible apply wo_isiE); (· rfl))) | ((with_reducible show WO (cutOf _ _ _) _); first | with_reducible refine wo_cutL ?_ | with_reducible refine wo_cutT ?_) | ((with_reducible show WO (gPow _ _) _); first | with_reducible refine wo_p10_60 ?_ | with_reducible refine wo_p10_18 ?_ | with_reducible refine wo_p10_30 ?_ | with_reducible refine wo_p2_24 ?_ | with_reducible refine wo_p10_8 ?_ | with_reducible refine wo_p10_19 ?_ | with_reducible refine wo_p10_55 ?_ | with_reducible refine wo_p10_59 ?_ | with_reducible refine wo_p3_30 ?_ | with_reducible refine wo_p2_40 ?_ | with_reducible refine wo_p10_54 ?_ | with_reducible refine wo_p3_13 ?_ | with_reducible refine wo_p2_20 ?_ | with_reducible refine wo_p10_57 ?_ | with_reducible refine wo_p10_40 ?_ | with_reducible refine wo_p10_61 ?_ | with_reducible refine wo_p10_50 ?_) | ((with_reducible apply wo_idxE); (· rfl)) | ((with_reducible apply wo_allE); (· rfl)) | ((with_reducible apply wo_anyE); (· rfl)) | ((with_reducible show WO (ixN _ _) _); first | ((with_reducible apply wo_ixE); (· rfl)) | ((with_reducible refine wo_ix ?_ ?_ ?_); (· walk_at "sd"); (· walk_at "sd"))) | ((with_reducible refine wo_mod ?_ ?_); (· walk_at "sd")) | ((with_reducible refine wo_div ?_ ?_ ?_); (· walk_at "sd"); (· walk_at "sd")) | ((with_reducible refine wo_mul ?_ ?_); (· first | exact mul_ok1 (by walk_at "sd") | exact mul_ok2 (by walk_at "sd") | exact mul_ok3 (by omega) (by omega))) | ((with_reducible refine wo_app ?_ ?_); (· first | rfl | (apply fits_of; first | omega | (simp; omega)))) | ((with_reducible refine wo_ext ?_ ?_); (· first | rfl | (apply fits_of; first | omega | (simp; omega))))) | ((with_reducible show WS _ _ _); first | with_reducible refine ws_try ?_ | with_reducible refine ws_retT ?_ | with_reducible refine ws_seq ?_ | with_reducible refine ws_expr ?_ | with_reducible refine ws_ret ?_ | with_reducible refine ws_retL ?_ | with_reducible refine ws_if ?_ | with_reducible refine ws_set ?_ | with_reducible refine ws_setO ?_ | with_reducible refine ws_asg ?_ | with_reducible refine ws_par ?_ | with_reducible refine ws_nil ?_ | with_reducible refine ws_retN ?_ | with_reducible refine ws_dput ?_ | with_reducible refine ws_dnew ?_ | ((with_reducible show WS (sFrz _ _) _ _); first | ((with_reducible apply ws_frz); (· rfl)) | ((with_reducible apply ws_frzV); (· rfl))) | ((with_reducible apply ws_retO); (· rfl)) | ((with_reducible apply ws_putI); (· rfl))) | ((with_reducible apply nrm_); (· (try simp only [wipeE, backE, List.set_cons_zero, List.set_cons_succ, List.getElem?_cons_zero, List.getElem?_cons_succ, List.cons_append, List.nil_append, List.replicate_succ, List.replicate_zero, Nat.reduceSub, unowns_nil, unowns_cons, unown_own, unown_val, unown_no, unown_ro, unown_dct]); rfl)) | ((with_reducible show IfB _ _ _); first | with_reducible refine ifb_not ?_ | with_reducible refine ifb_t ?_ | with_reducible refine ifb_f ?_ | ((with_reducible refine ifb_decT ?_ ?_); (· first | (with_reducible assumption) | omega | (simp only [List.length_cons, List.length_nil]; omega))) | ((with_reducible refine ifb_decF ?_ ?_); (· first | (with_reducible assumption) | omega | (simp only [List.length_cons, List.length_nil]; omega))) | with_reducible refine ifb_dec (fun _ => ?_) (fun _ => ?_) | ((with_reducible apply ifb_eT); (· rfl)) | ((with_reducible apply ifb_eF); (· rfl))) | ((with_reducible show WB _ _ _); first | with_reducible refine wb_bor ?_ | with_reducible refine wb_v ?_ | with_reducible refine wb_and ?_ | with_reducible refine wb_or ?_ | with_reducible refine wb_not ?_ | with_reducible refine wb_yes ?_) | with_reducible refine isb ?_ | ((with_reducible show WL _ _ _); first | with_reducible refine wl_nil ?_ | with_reducible refine wl_cons ?_ | with_reducible refine wl_lst ?_ | with_reducible refine wl_un ?_ | with_reducible refine wl_it ?_ | with_reducible refine wl_rng1 ?_ | with_reducible refine wl_rng2 ?_ | with_reducible refine wl_enum ?_ | with_reducible refine wl_enumA ?_ | with_reducible refine wl_addE ?_ | with_reducible refine wl_rg1 ?_ | with_reducible refine wl_bor ?_ | with_reducible refine wl_call ?_ | ((with_reducible apply wl_addO); (· rfl)) | ((with_reducible show WL (lSlV _ _ _) _ _); first | ((with_reducible apply wl_slO); (· rfl)) | ((with_reducible apply wl_slR); (· rfl)))) | ((with_reducible show WA _ _ _); first | with_reducible refine wa_nil ?_ | with_reducible refine wa_v ?_ | ((with_reducible apply wa_r); (· rfl)) | ((with_reducible show WA (aO _ _) _ _); first | ((with_reducible apply wa_oR); (· rfl)) | ((with_reducible apply wa_oO); (· rfl)) | ((with_reducible apply wa_oV); (· rfl)))) | ((with_reducible show IsS _ _); first | with_reducible refine iss_l ?_ | with_reducible refine iss_t ?_) | ((with_reducible refine fit_ ?_ ?_); (· first | rfl | (apply fits_of; first | omega | (simp; omega)))) | ((with_reducible show CallG _ _ _ _); first | ((with_reducible apply cg0); (· rfl)) | ((with_reducible apply cg1); (· rfl); (· rfl))) | ((with_reducible show WT _ _ _ _); first | with_reducible refine wt_n ?_ | ((with_reducible apply wt_t); (· rfl)) | ((with_reducible apply wt_unl); (· rfl))) | ((with_reducible show WTs _ _ _ _); first | with_reducible refine wts_nil ?_ | with_reducible refine wts_cons ?_) | ((with_reducible apply own_); (· rfl)) | ((with_reducible refine sml_ ?_ ?_ ?_); (· walk_at "sd"); (· walk_at "sd")) | with_reducible refine isi_ ?_ | ((with_reducible show WNl _ _ _); first | with_reducible refine wnl_l ?_ | with_reducible refine wnl_v ?_) | ((with_reducible show WSX _ _ _); first | with_reducible refine wsx_lift ?_ | with_reducible refine wsx_seq ?_ | with_reducible refine wsx_if ?_ | with_reducible refine wsx_raise0 ?_ | with_reducible refine wsx_expr ?_ | with_reducible refine wsx_ret ?_ | with_reducible refine wsx_set ?_) | with_reducible refine wex_call ?_ | ((with_reducible show WPu _ _ _ _); first | with_reducible refine wpu_nil ?_ | with_reducible refine wpu_seq ?_ | with_reducible refine wpu_ret ?_ | with_reducible refine wpu_if ?_) | ((with_reducible show WTd _ _ _ _ _); first | with_reducible refine wtd_P ?_ | with_reducible refine wtd_G ?_ | with_reducible refine wtd_If ?_ | ((with_reducible refine wtd_K ?_ ?_); (· exact ⟨rfl, by decide⟩)) | ((with_reducible refine wtd_U ?_ ?_); (· exact ⟨rfl, by decide⟩)) | ((with_reducible refine wtd_C ?_ ?_); (· rfl)) | ((with_reducible refine wtd_A ?_ ?_ ?_); (· rfl); (· first | rfl | (apply fits_of; first | omega | (simp; omega))))) | with_reducible refine two_ ?_ | ((with_reducible show WC _ _ _ _ _ _ _); first | with_reducible refine wc_nil ?_ | with_reducible refine wc_cons ?_) | ((with_reducible show WP _ _ _); first | with_reducible refine wp_no ?_ | with_reducible refine wp_e ?_) | with_reducible refine isl ?_ | ((with_reducible show RetT _ _ _); first | ((with_reducible apply retT1); (· rfl)) | ((with_reducible apply retT2); (· rfl))) | ((with_reducible show Any _ _); first | ((with_reducible apply any_o); (· rfl)) | ((with_reducible apply any_r); (· rfl))) | ((with_reducible show CallH _ _ _ _); first | ((with_reducible apply ch0); (· rfl)) | ((with_reducible apply ch1); (· rfl); (· rfl))) | ((with_reducible apply cgx0); (· rfl))))
local macro_rules | `(tactic| walk_at "v2") => `(tactic| (first | ((with_reducible show WE _ _ _); first | with_reducible refine we_chain3 ?_ | with_reducible refine we_callNL ?_ | with_reducible refine we_callN ?_ | with_reducible refine we_c ?_ | with_reducible refine we_un ?_ | with_reducible refine we_bin ?_ | with_reducible refine we_chain ?_ | with_reducible refine we_and ?_ | with_reducible refine we_or ?_ | with_reducible refine we_not ?_ | with_reducible refine we_if ?_ | with_reducible refine we_fz ?_ | with_reducible refine we_tup ?_ | with_reducible refine we_sl ?_ | with_reducible refine we_tupRg ?_ | with_reducible refine we_bor ?_ | with_reducible refine we_call ?_ | with_reducible refine we_din ?_ | with_reducible refine we_borL ?_ | ((with_reducible apply we_v); (· rfl)) | ((with_reducible show WE (eO _) _ _); first | ((with_reducible apply we_oV); (· rfl)) | ((with_reducible apply we_oW); (· rfl)) | ((with_reducible apply we_oR); (· rfl))) | ((with_reducible show WE (eBinV _ _ _) _ _); first | ((with_reducible apply we_bV); (· rfl)) | ((with_reducible apply we_bVr); (· rfl)) | ((with_reducible apply we_bVv); (· rfl))) | ((with_reducible apply we_mut); (· rfl)) | ((with_reducible apply we_mut0); (· rfl)) | ((with_reducible apply we_dget2); (· rfl)) | ((with_reducible apply we_didx); (· rfl))) | ((with_reducible show WO _ _); first | ((with_reducible show WO (gIsO _ _) _); first | with_reducible refine wo_isON ?_ | ((with_reducible refine wo_isO (b := true) ?_ ?_); (· rfl)) | ((with_reducible refine wo_isO (b := false) ?_ ?_); (· rfl))) | with_reducible refine wo_attr ?_ | ((with_reducible show WO (valsA _) _); first | with_reducible refine vals_nil ?_ | with_reducible refine vals_v ?_) | with_reducible refine wo_isB ?_ | with_reducible refine wo_ntB ?_ | ((with_reducible show WO (backAr _ _ _) _); first | with_reducible refine back_nil ?_ | with_reducible refine back_v ?_ | with_reducible refine back_o ?_ | ((with_reducible apply back_r); (· rfl))) | ((with_reducible show WO (resArs _ _) _); first | with_reducible refine res_nil ?_ | with_reducible refine res_v ?_ | ((with_reducible apply res_r); (· rfl)) | ((with_reducible apply res_oO); (· rfl)) | ((with_reducible apply res_oR); (· rfl)) | ((with_reducible apply res_oV); (· rfl))) | ((with_reducible show WO (gAdd _ _) _); first | with_reducible refine wo_add ?_ | ((with_reducible refine wo_addL ?_ ?_); (· first | rfl | (apply fits_of; first | omega | (simp; omega)))) | ((with_reducible refine wo_addT ?_ ?_); (· first | rfl | (apply fits_of; first | omega | (simp; omega))))) | with_reducible refine wo_sub ?_ | with_reducible refine wo_neg ?_ | with_reducible refine wo_lt ?_ | with_reducible refine wo_le ?_ | with_reducible refine wo_gt ?_ | with_reducible refine wo_ge ?_ | ((with_reducible show WO (gEq _ _) _); first | with_reducible refine wo_eq ?_ | with_reducible refine wo_eqB ?_ | ((with_reducible refine wo_eqT ?_ ?_); (· decide +kernel)) | ((with_reducible refine wo_eqF ?_ ?_); (· decide +kernel))) | ((with_reducible show WO (gNe _ _) _); first | with_reducible refine wo_ne ?_ | with_reducible refine wo_neB ?_ | ((with_reducible refine wo_neT ?_ ?_); (· decide +kernel)) | ((with_reducible refine wo_neF ?_ ?_); (· decide +kernel))) | with_reducible refine wo_isN ?_ | with_reducible refine wo_ntN ?_ | ((with_reducible show WO (gLen _) _); first | with_reducible refine wo_lenL ?_ | with_reducible refine wo_lenT ?_) | with_reducible refine wo_abs ?_ | ((with_reducible show WO (gInt _) _); first | with_reducible refine wo_intB ?_ | with_reducible refine wo_intI ?_) | ((with_reducible show WO (gList _) _); first | with_reducible refine wo_listL ?_ | with_reducible refine wo_listT ?_) | ((with_reducible show WO (gTuple _) _); first | with_reducible refine wo_tupL ?_ | with_reducible refine wo_tupT ?_) | with_reducible refine wo_max ?_ | with_reducible refine wo_min ?_ | ((with_reducible show WO (gIsi _ _) _); first | with_reducible refine wo_isiI ?_ | with_reducible refine wo_isiB ?_ | ((with_reducible apply wo_isiE); (· rfl))) | ((with_reducible show WO (cutOf _ _ _) _); first | with_reducible refine wo_cutL ?_ | with_reducible refine wo_cutT ?_) | ((with_reducible show WO (gPow _ _) _); first | with_reducible refine wo_p10_60 ?_ | with_reducible refine wo_p10_18 ?_ | with_reducible refine wo_p10_30 ?_ | with_reducible refine wo_p2_24 ?_ | with_reducible refine wo_p10_8 ?_ | with_reducible refine wo_p10_19 ?_ | with_reducible refine wo_p10_55 ?_ | with_reducible refine wo_p10_59 ?_ | with_reducible refine wo_p3_30 ?_ | with_reducible refine wo_p2_40 ?_ | with_reducible refine wo_p10_54 ?_ | with_reducible refine wo_p3_13 ?_ | with_reducible refine wo_p2_20 ?_ | with_reducible refine wo_p10_57 ?_ | with_reducible refine wo_p10_40 ?_ | with_reducible refine wo_p10_61 ?_ | with_reducible refine wo_p10_50 ?_) | ((with_reducible apply wo_idxE); (· rfl)) | ((with_reducible apply wo_allE); (· rfl)) | ((with_reducible apply wo_anyE); (· rfl)) | ((with_reducible show WO (ixN _ _) _); first | ((with_reducible apply wo_ixE); (· rfl)) | ((with_reducible refine wo_ix ?_ ?_ ?_); (· walk_at "sd"); (· walk_at "sd"))) | ((with_reducible refine wo_mod ?_ ?_); (· walk_at "sd")) | ((with_reducible refine wo_div ?_ ?_ ?_); (· walk_at "sd"); (· walk_at "sd")) | ((with_reducible refine wo_mul ?_ ?_); (· first | exact mul_ok1 (by walk_at "sd") | exact mul_ok2 (by walk_at "sd") | exact mul_ok3 (by omega) (by omega))) | ((with_reducible refine wo_app ?_ ?_); (· first | rfl | (apply fits_of; first | omega | (simp; omega)))) | ((with_reducible refine wo_ext ?_ ?_); (· first | rfl | (apply fits_of; first | omega | (simp; omega))))) | ((with_reducible show WS _ _ _); first | with_reducible refine ws_try ?_ | with_reducible refine ws_retT ?_ | with_reducible refine ws_seq ?_ | with_reducible refine ws_expr ?_ | with_reducible refine ws_ret ?_ | with_reducible refine ws_retL ?_ | with_reducible refine ws_set ?_ | with_reducible refine ws_setO ?_ | with_reducible refine ws_asg ?_ | with_reducible refine ws_par ?_ | with_reducible refine ws_nil ?_ | with_reducible refine ws_retN ?_ | with_reducible refine ws_dput ?_ | with_reducible refine ws_dnew ?_ | ((with_reducible show WS (sFrz _ _) _ _); first | ((with_reducible apply ws_frz); (· rfl)) | ((with_reducible apply ws_frzV); (· rfl))) | ((with_reducible apply ws_retO); (· rfl)) | ((with_reducible apply ws_putI); (· rfl))) | ((with_reducible apply nrm_); (· (try simp only [wipeE, backE, List.set_cons_zero, List.set_cons_succ, List.getElem?_cons_zero, List.getElem?_cons_succ, List.cons_append, List.nil_append, List.replicate_succ, List.replicate_zero, Nat.reduceSub, unowns_nil, unowns_cons, unown_own, unown_val, unown_no, unown_ro, unown_dct]); rfl)) | ((with_reducible show IfB _ _ _); first | with_reducible refine ifb_not ?_ | with_reducible refine ifb_t ?_ | with_reducible refine ifb_f ?_ | ((with_reducible refine ifb_decT ?_ ?_); (· first | (with_reducible assumption) | omega | (simp only [List.length_cons, List.length_nil]; omega))) | ((with_reducible refine ifb_decF ?_ ?_); (· first | (with_reducible assumption) | omega | (simp only [List.length_cons, List.length_nil]; omega))) | with_reducible refine ifb_dec (fun _ => ?_) (fun _ => ?_) | ((with_reducible apply ifb_eT); (· rfl)) | ((with_reducible apply ifb_eF); (· rfl))) | ((with_reducible show WB _ _ _); first | with_reducible refine wb_bor ?_ | with_reducible refine wb_v ?_ | with_reducible refine wb_and ?_ | with_reducible refine wb_or ?_ | with_reducible refine wb_not ?_ | with_reducible refine wb_yes ?_) | with_reducible refine isb ?_ | ((with_reducible show WL _ _ _); first | with_reducible refine wl_nil ?_ | with_reducible refine wl_cons ?_ | with_reducible refine wl_lst ?_ | with_reducible refine wl_un ?_ | with_reducible refine wl_it ?_ | with_reducible refine wl_rng1 ?_ | with_reducible refine wl_rng2 ?_ | with_reducible refine wl_enum ?_ | with_reducible refine wl_enumA ?_ | with_reducible refine wl_addE ?_ | with_reducible refine wl_rg1 ?_ | with_reducible refine wl_bor ?_ | with_reducible refine wl_call ?_ | ((with_reducible apply wl_addO); (· rfl)) | ((with_reducible show WL (lSlV _ _ _) _ _); first | ((with_reducible apply wl_slO); (· rfl)) | ((with_reducible apply wl_slR); (· rfl)))) | ((with_reducible show WA _ _ _); first | with_reducible refine wa_nil ?_ | with_reducible refine wa_v ?_ | ((with_reducible apply wa_r); (· rfl)) | ((with_reducible show WA (aO _ _) _ _); first | ((with_reducible apply wa_oR); (· rfl)) | ((with_reducible apply wa_oO); (· rfl)) | ((with_reducible apply wa_oV); (· rfl)))) | ((with_reducible show IsS _ _); first | with_reducible refine iss_l ?_ | with_reducible refine iss_t ?_) | ((with_reducible refine fit_ ?_ ?_); (· first | rfl | (apply fits_of; first | omega | (simp; omega)))) | ((with_reducible show CallG _ _ _ _); first | ((with_reducible apply cg0); (· rfl)) | ((with_reducible apply cg1); (· rfl); (· rfl))) | ((with_reducible show WT _ _ _ _); first | with_reducible refine wt_n ?_ | ((with_reducible apply wt_t); (· rfl)) | ((with_reducible apply wt_unl); (· rfl))) | ((with_reducible show WTs _ _ _ _); first | with_reducible refine wts_nil ?_ | with_reducible refine wts_cons ?_) | ((with_reducible apply own_); (· rfl)) | ((with_reducible refine sml_ ?_ ?_ ?_); (· walk_at "sd"); (· walk_at "sd")) | with_reducible refine isi_ ?_ | ((with_reducible show WNl _ _ _); first | with_reducible refine wnl_l ?_ | with_reducible refine wnl_v ?_) | ((with_reducible show WSX _ _ _); first | with_reducible refine wsx_lift ?_ | with_reducible refine wsx_seq ?_ | with_reducible refine wsx_if ?_ | with_reducible refine wsx_raise0 ?_ | with_reducible refine wsx_expr ?_ | with_reducible refine wsx_ret ?_ | with_reducible refine wsx_set ?_) | with_reducible refine wex_call ?_ | ((with_reducible show WPu _ _ _ _); first | with_reducible refine wpu_nil ?_ | with_reducible refine wpu_seq ?_ | with_reducible refine wpu_ret ?_ | with_reducible refine wpu_if ?_) | ((with_reducible show WTd _ _ _ _ _); first | with_reducible refine wtd_P ?_ | with_reducible refine wtd_G ?_ | with_reducible refine wtd_If ?_ | ((with_reducible refine wtd_K ?_ ?_); (· exact ⟨rfl, by decide⟩)) | ((with_reducible refine wtd_U ?_ ?_); (· exact ⟨rfl, by decide⟩)) | ((with_reducible refine wtd_C ?_ ?_); (· rfl)) | ((with_reducible refine wtd_A ?_ ?_ ?_); (· rfl); (· first | rfl | (apply fits_of; first | omega | (simp; omega))))) | with_reducible refine two_ ?_ | ((with_reducible show WC _ _ _ _ _ _ _); first | with_reducible refine wc_nil ?_ | with_reducible refine wc_cons ?_) | ((with_reducible show WP _ _ _); first | with_reducible refine wp_no ?_ | with_reducible refine wp_e ?_) | with_reducible refine isl ?_ | ((with_reducible show RetT _ _ _); first | ((with_reducible apply retT1); (· rfl)) | ((with_reducible apply retT2); (· rfl))) | ((with_reducible show Any _ _); first | ((with_reducible apply any_o); (· rfl)) | ((with_reducible apply any_r); (· rfl))) | ((with_reducible show CallH _ _ _ _); first | ((with_reducible apply ch0); (· rfl)) | ((with_reducible apply ch1); (· rfl); (· rfl))) | ((with_reducible apply cgx0); (· rfl))))
local macro_rules | `(tactic| walk_at "vc") => `(tactic| (repeat' first | ((with_reducible show WE _ _ _); first | with_reducible refine we_chain3 ?_ | with_reducible refine we_callNL ?_ | with_reducible refine we_callN ?_ | with_reducible refine we_c ?_ | with_reducible refine we_un ?_ | with_reducible refine we_bin ?_ | with_reducible refine we_chain ?_ | with_reducible refine we_and ?_ | with_reducible refine we_or ?_ | with_reducible refine we_not ?_ | with_reducible refine we_if ?_ | with_reducible refine we_fz ?_ | with_reducible refine we_tup ?_ | with_reducible refine we_sl ?_ | with_reducible refine we_tupRg ?_ | with_reducible refine we_bor ?_ | with_reducible refine we_call ?_ | with_reducible refine we_din ?_ | with_reducible refine we_borL ?_ | ((with_reducible apply we_v); (· rfl)) | ((with_reducible show WE (eO _) _ _); first | ((with_reducible apply we_oV); (· rfl)) | ((with_reducible apply we_oW); (· rfl)) | ((with_reducible apply we_oR); (· rfl))) | ((with_reducible show WE (eBinV _ _ _) _ _); first | ((with_reducible apply we_bV); (· rfl)) | ((with_reducible apply we_bVr); (· rfl)) | ((with_reducible apply we_bVv); (· rfl))) | ((with_reducible apply we_mut); (· rfl)) | ((with_reducible apply we_mut0); (· rfl)) | ((with_reducible apply we_dget2); (· rfl)) | ((with_reducible apply we_didx); (· rfl))) | ((with_reducible show WO _ _); first | ((with_reducible show WO (gIsO _ _) _); first | with_reducible refine wo_isON ?_ | ((with_reducible refine wo_isO (b := true) ?_ ?_); (· rfl)) | ((with_reducible refine wo_isO (b := false) ?_ ?_); (· rfl))) | with_reducible refine wo_attr ?_ | ((with_reducible show WO (valsA _) _); first | with_reducible refine vals_nil ?_ | with_reducible refine vals_v ?_) | with_reducible refine wo_isB ?_ | with_reducible refine wo_ntB ?_ | ((with_reducible show WO (backAr _ _ _) _); first | with_reducible refine back_nil ?_ | with_reducible refine back_v ?_ | with_reducible refine back_o ?_ | ((with_reducible apply back_r); (· rfl))) | ((with_reducible show WO (resArs _ _) _); first | with_reducible refine res_nil ?_ | with_reducible refine res_v ?_ | ((with_reducible apply res_r); (· rfl)) | ((with_reducible apply res_oO); (· rfl)) | ((with_reducible apply res_oR); (· rfl)) | ((with_reducible apply res_oV); (· rfl))) | ((with_reducible show WO (gAdd _ _) _); first | with_reducible refine wo_add ?_ | ((with_reducible refine wo_addL ?_ ?_); (· first | rfl | (apply fits_of; first | omega | (simp; omega)))) | ((with_reducible refine wo_addT ?_ ?_); (· first | rfl | (apply fits_of; first | omega | (simp; omega))))) | with_reducible refine wo_sub ?_ | with_reducible refine wo_neg ?_ | with_reducible refine wo_lt ?_ | with_reducible refine wo_le ?_ | with_reducible refine wo_gt ?_ | with_reducible refine wo_ge ?_ | ((with_reducible show WO (gEq _ _) _); first | with_reducible refine wo_eq ?_ | with_reducible refine wo_eqB ?_ | ((with_reducible refine wo_eqT ?_ ?_); (· decide +kernel)) | ((with_reducible refine wo_eqF ?_ ?_); (· decide +kernel))) | ((with_reducible show WO (gNe _ _) _); first | with_reducible refine wo_ne ?_ | with_reducible refine wo_neB ?_ | ((with_reducible refine wo_neT ?_ ?_); (· decide +kernel)) | ((with_reducible refine wo_neF ?_ ?_); (· decide +kernel))) | with_reducible refine wo_isN ?_ | with_reducible refine wo_ntN ?_ | ((with_reducible show WO (gLen _) _); first | with_reducible refine wo_lenL ?_ | with_reducible refine wo_lenT ?_) | with_reducible refine wo_abs ?_ | ((with_reducible show WO (gInt _) _); first | with_reducible refine wo_intB ?_ | with_reducible refine wo_intI ?_) | ((with_reducible show WO (gList _) _); first | with_reducible refine wo_listL ?_ | with_reducible refine wo_listT ?_) | ((with_reducible show WO (gTuple _) _); first | with_reducible refine wo_tupL ?_ | with_reducible refine wo_tupT ?_) | with_reducible refine wo_max ?_ | with_reducible refine wo_min ?_ | ((with_reducible show WO (gIsi _ _) _); first | with_reducible refine wo_isiI ?_ | with_reducible refine wo_isiB ?_ | ((with_reducible apply wo_isiE); (· rfl))) | ((with_reducible show WO (cutOf _ _ _) _); first | with_reducible refine wo_cutL ?_ | with_reducible refine wo_cutT ?_) | ((with_reducible show WO (gPow _ _) _); first | with_reducible refine wo_p10_60 ?_ | with_reducible refine wo_p10_18 ?_ | with_reducible refine wo_p10_30 ?_ | with_reducible refine wo_p2_24 ?_ | with_reducible refine wo_p10_8 ?_ | with_reducible refine wo_p10_19 ?_ | with_reducible refine wo_p10_55 ?_ | with_reducible refine wo_p10_59 ?_ | with_reducible refine wo_p3_30 ?_ | with_reducible refine wo_p2_40 ?_ | with_reducible refine wo_p10_54 ?_ | with_reducible refine wo_p3_13 ?_ | with_reducible refine wo_p2_20 ?_ | with_reducible refine wo_p10_57 ?_ | with_reducible refine wo_p10_40 ?_ | with_reducible refine wo_p10_61 ?_ | with_reducible refine wo_p10_50 ?_) | ((with_reducible apply wo_idxE); (· rfl)) | ((with_reducible apply wo_allE); (· rfl)) | ((with_reducible apply wo_anyE); (· rfl)) | ((with_reducible show WO (ixN _ _) _); first | ((with_reducible apply wo_ixE); (· rfl)) | ((with_reducible refine wo_ix ?_ ?_ ?_); (· walk_at "sd"); (· walk_at "sd"))) | ((with_reducible refine wo_mod ?_ ?_); (· walk_at "sd")) | ((with_reducible refine wo_div ?_ ?_ ?_); (· walk_at "sd"); (· walk_at "sd")) | ((with_reducible refine wo_mul ?_ ?_); (· first | exact mul_ok1 (by walk_at "sd") | exact mul_ok2 (by walk_at "sd") | exact mul_ok3 (by omega) (by omega))) | ((with_reducible refine wo_app ?_ ?_); (· first | rfl | (apply fits_of; first | omega | (simp; omega)))) | ((with_reducible refine wo_ext ?_ ?_); (· first | rfl | (apply fits_of; first | omega | (simp; omega))))) | ((with_reducible show WS _ _ _); first | with_reducible refine ws_try ?_ | with_reducible refine ws_retT ?_ | with_reducible refine ws_seq ?_ | with_reducible refine ws_expr ?_ | with_reducible refine ws_ret ?_ | with_reducible refine ws_retL ?_ | with_reducible refine ws_if ?_ | with_reducible refine ws_set ?_ | with_reducible refine ws_setO ?_ | with_reducible refine ws_asg ?_ | with_reducible refine ws_par ?_ | with_reducible refine ws_nil ?_ | with_reducible refine ws_retN ?_ | with_reducible refine ws_dput ?_ | with_reducible refine ws_dnew ?_ | ((with_reducible show WS (sFrz _ _) _ _); first | ((with_reducible apply ws_frz); (· rfl)) | ((with_reducible apply ws_frzV); (· rfl))) | ((with_reducible apply ws_retO); (· rfl)) | ((with_reducible apply ws_putI); (· rfl))) | ((with_reducible apply nrm_); (· (try simp only [wipeE, backE, List.set_cons_zero, List.set_cons_succ, List.getElem?_cons_zero, List.getElem?_cons_succ, List.cons_append, List.nil_append, List.replicate_succ, List.replicate_zero, Nat.reduceSub, unowns_nil, unowns_cons, unown_own, unown_val, unown_no, unown_ro, unown_dct]); rfl)) | ((with_reducible show IfB _ _ _); first | with_reducible refine ifb_not ?_ | with_reducible refine ifb_t ?_ | with_reducible refine ifb_f ?_ | ((with_reducible refine ifb_decT ?_ ?_); (· first | (with_reducible assumption) | omega | (simp only [List.length_cons, List.length_nil]; omega))) | ((with_reducible refine ifb_decF ?_ ?_); (· first | (with_reducible assumption) | omega | (simp only [List.length_cons, List.length_nil]; omega))) | with_reducible refine ifb_dec (fun _ => ?_) (fun _ => ?_) | ((with_reducible apply ifb_eT); (· rfl)) | ((with_reducible apply ifb_eF); (· rfl))) | ((with_reducible show WB _ _ _); first | with_reducible refine wb_bor ?_ | with_reducible refine wb_v ?_ | with_reducible refine wb_and ?_ | with_reducible refine wb_or ?_ | with_reducible refine wb_not ?_ | with_reducible refine wb_yes ?_) | with_reducible refine isb ?_ | ((with_reducible show WL _ _ _); first | with_reducible refine wl_nil ?_ | with_reducible refine wl_cons ?_ | with_reducible refine wl_lst ?_ | with_reducible refine wl_un ?_ | with_reducible refine wl_it ?_ | with_reducible refine wl_rng1 ?_ | with_reducible refine wl_rng2 ?_ | with_reducible refine wl_enum ?_ | with_reducible refine wl_enumA ?_ | with_reducible refine wl_addE ?_ | with_reducible refine wl_rg1 ?_ | with_reducible refine wl_bor ?_ | with_reducible refine wl_call ?_ | ((with_reducible apply wl_addO); (· rfl)) | ((with_reducible show WL (lSlV _ _ _) _ _); first | ((with_reducible apply wl_slO); (· rfl)) | ((with_reducible apply wl_slR); (· rfl)))) | ((with_reducible show WA _ _ _); first | with_reducible refine wa_nil ?_ | with_reducible refine wa_v ?_ | ((with_reducible apply wa_r); (· rfl)) | ((with_reducible show WA (aO _ _) _ _); first | ((with_reducible apply wa_oR); (· rfl)) | ((with_reducible apply wa_oO); (· rfl)) | ((with_reducible apply wa_oV); (· rfl)))) | ((with_reducible show IsS _ _); first | with_reducible refine iss_l ?_ | with_reducible refine iss_t ?_) | ((with_reducible refine fit_ ?_ ?_); (· first | rfl | (apply fits_of; first | omega | (simp; omega)))) | ((with_reducible show CallG _ _ _ _); first | ((with_reducible apply cg0); (· rfl)) | ((with_reducible apply cg1); (· rfl); (· rfl))) | ((with_reducible show WT _ _ _ _); first | with_reducible refine wt_n ?_ | ((with_reducible apply wt_t); (· rfl)) | ((with_reducible apply wt_unl); (· rfl))) | ((with_reducible show WTs _ _ _ _); first | with_reducible refine wts_nil ?_ | with_reducible refine wts_cons ?_) | ((with_reducible apply own_); (· rfl)) | ((with_reducible refine sml_ ?_ ?_ ?_); (· walk_at "sd"); (· walk_at "sd")) | with_reducible refine isi_ ?_ | ((with_reducible show WNl _ _ _); first | with_reducible refine wnl_l ?_ | with_reducible refine wnl_v ?_) | ((with_reducible show WSX _ _ _); first | with_reducible refine wsx_lift ?_ | with_reducible refine wsx_seq ?_ | with_reducible refine wsx_if ?_ | with_reducible refine wsx_raise0 ?_ | with_reducible refine wsx_expr ?_ | with_reducible refine wsx_ret ?_ | with_reducible refine wsx_set ?_) | with_reducible refine wex_call ?_ | ((with_reducible show WPu _ _ _ _); first | with_reducible refine wpu_nil ?_ | with_reducible refine wpu_seq ?_ | with_reducible refine wpu_ret ?_ | with_reducible refine wpu_if ?_) | ((with_reducible show WTd _ _ _ _ _); first | with_reducible refine wtd_P ?_ | with_reducible refine wtd_G ?_ | with_reducible refine wtd_If ?_ | ((with_reducible refine wtd_K ?_ ?_); (· exact ⟨rfl, by decide⟩)) | ((with_reducible refine wtd_U ?_ ?_); (· exact ⟨rfl, by decide⟩)) | ((with_reducible refine wtd_C ?_ ?_); (· rfl)) | ((with_reducible refine wtd_A ?_ ?_ ?_); (· rfl); (· first | rfl | (apply fits_of; first | omega | (simp; omega))))) | with_reducible refine two_ ?_ | ((with_reducible show WC _ _ _ _ _ _ _); first | with_reducible refine wc_nil ?_ | with_reducible refine wc_cons ?_) | ((with_reducible show WP _ _ _); first | with_reducible refine wp_no ?_ | with_reducible refine wp_e ?_) | with_reducible refine isl ?_ | ((with_reducible show RetT _ _ _); first | ((with_reducible apply retT1); (· rfl)) | ((with_reducible apply retT2); (· rfl))) | ((with_reducible show Any _ _); first | ((with_reducible apply any_o); (· rfl)) | ((with_reducible apply any_r); (· rfl))) | ((with_reducible show CallH _ _ _ _); first | ((with_reducible apply ch0); (· rfl)) | ((with_reducible apply ch1); (· rfl); (· rfl))) | ((with_reducible apply cgx0); (· rfl))))
local macro_rules | `(tactic| walk_at "vd") => `(tactic| (repeat' first | ((with_reducible show WE _ _ _); first | with_reducible refine we_chain3 ?_ | with_reducible refine we_callNL ?_ | with_reducible refine we_callN ?_ | with_reducible refine we_c ?_ | with_reducible refine we_un ?_ | with_reducible refine we_bin ?_ | with_reducible refine we_chain ?_ | with_reducible refine we_and ?_ | with_reducible refine we_or ?_ | with_reducible refine we_not ?_ | with_reducible refine we_if ?_ | with_reducible refine we_fz ?_ | with_reducible refine we_tup ?_ | with_reducible refine we_sl ?_ | with_reducible refine we_tupRg ?_ | with_reducible refine we_bor ?_ | with_reducible refine we_call ?_ | with_reducible refine we_din ?_ | with_reducible refine we_borL ?_ | ((with_reducible apply we_v); (· rfl)) | ((with_reducible show WE (eO _) _ _); first | ((with_reducible apply we_oV); (· rfl)) | ((with_reducible apply we_oW); (· rfl)) | ((with_reducible apply we_oR); (· rfl))) | ((with_reducible show WE (eBinV _ _ _) _ _); first | ((with_reducible apply we_bV); (· rfl)) | ((with_reducible apply we_bVr); (· rfl)) | ((with_reducible apply we_bVv); (· rfl))) | ((with_reducible apply we_mut); (· rfl)) | ((with_reducible apply we_mut0); (· rfl)) | ((with_reducible apply we_dget2); (· rfl)) | ((with_reducible apply we_didx); (· rfl))) | ((with_reducible show WO _ _); first | ((with_reducible show WO (gIsO _ _) _); first | with_reducible refine wo_isON ?_ | ((with_reducible refine wo_isO (b := true) ?_ ?_); (· rfl)) | ((with_reducible refine wo_isO (b := false) ?_ ?_); (· rfl))) | with_reducible refine wo_attr ?_ | ((with_reducible show WO (valsA _) _); first | with_reducible refine vals_nil ?_ | with_reducible refine vals_v ?_) | with_reducible refine wo_isB ?_ | with_reducible refine wo_ntB ?_ | ((with_reducible show WO (backAr _ _ _) _); first | with_reducible refine back_nil ?_ | with_reducible refine back_v ?_ | with_reducible refine back_o ?_ | ((with_reducible apply back_r); (· rfl))) | ((with_reducible show WO (resArs _ _) _); first | with_reducible refine res_nil ?_ | with_reducible refine res_v ?_ | ((with_reducible apply res_r); (· rfl)) | ((with_reducible apply res_oO); (· rfl)) | ((with_reducible apply res_oR); (· rfl)) | ((with_reducible apply res_oV); (· rfl))) | ((with_reducible show WO (gAdd _ _) _); first | with_reducible refine wo_add ?_ | ((with_reducible refine wo_addL ?_ ?_); (· first | rfl | (apply fits_of; first | omega | (simp; omega)))) | ((with_reducible refine wo_addT ?_ ?_); (· first | rfl | (apply fits_of; first | omega | (simp; omega))))) | with_reducible refine wo_sub ?_ | with_reducible refine wo_neg ?_ | with_reducible refine wo_lt ?_ | with_reducible refine wo_le ?_ | with_reducible refine wo_gt ?_ | with_reducible refine wo_ge ?_ | ((with_reducible show WO (gEq _ _) _); first | with_reducible refine wo_eq ?_ | with_reducible refine wo_eqB ?_ | ((with_reducible refine wo_eqT ?_ ?_); (· decide +kernel)) | ((with_reducible refine wo_eqF ?_ ?_); (· decide +kernel))) | ((with_reducible show WO (gNe _ _) _); first | with_reducible refine wo_ne ?_ | with_reducible refine wo_neB ?_ | ((with_reducible refine wo_neT ?_ ?_); (· decide +kernel)) | ((with_reducible refine wo_neF ?_ ?_); (· decide +kernel))) | with_reducible refine wo_isN ?_ | with_reducible refine wo_ntN ?_ | ((with_reducible show WO (gLen _) _); first | with_reducible refine wo_lenL ?_ | with_reducible refine wo_lenT ?_) | with_reducible refine wo_abs ?_ | ((with_reducible show WO (gInt _) _); first | with_reducible refine wo_intB ?_ | with_reducible refine wo_intI ?_) | ((with_reducible show WO (gList _) _); first | with_reducible refine wo_listL ?_ | with_reducible refine wo_listT ?_) | ((with_reducible show WO (gTuple _) _); first | with_reducible refine wo_tupL ?_ | with_reducible refine wo_tupT ?_) | with_reducible refine wo_max ?_ | with_reducible refine wo_min ?_ | ((with_reducible show WO (gIsi _ _) _); first | with_reducible refine wo_isiI ?_ | with_reducible refine wo_isiB ?_ | ((with_reducible apply wo_isiE); (· rfl))) | ((with_reducible show WO (cutOf _ _ _) _); first | with_reducible refine wo_cutL ?_ | with_reducible refine wo_cutT ?_) | ((with_reducible show WO (gPow _ _) _); first | with_reducible refine wo_p10_60 ?_ | with_reducible refine wo_p10_18 ?_ | with_reducible refine wo_p10_30 ?_ | with_reducible refine wo_p2_24 ?_ | with_reducible refine wo_p10_8 ?_ | with_reducible refine wo_p10_19 ?_ | with_reducible refine wo_p10_55 ?_ | with_reducible refine wo_p10_59 ?_ | with_reducible refine wo_p3_30 ?_ | with_reducible refine wo_p2_40 ?_ | with_reducible refine wo_p10_54 ?_ | with_reducible refine wo_p3_13 ?_ | with_reducible refine wo_p2_20 ?_ | with_reducible refine wo_p10_57 ?_ | with_reducible refine wo_p10_40 ?_ | with_reducible refine wo_p10_61 ?_ | with_reducible refine wo_p10_50 ?_) | ((with_reducible apply wo_idxE); (· rfl)) | ((with_reducible apply wo_allE); (· rfl)) | ((with_reducible apply wo_anyE); (· rfl)) | ((with_reducible show WO (ixN _ _) _); first | ((with_reducible apply wo_ixE); (· rfl)) | ((with_reducible refine wo_ix ?_ ?_ ?_); (· walk_at "sd"); (· walk_at "sd"))) | ((with_reducible refine wo_mod ?_ ?_); (· walk_at "sd")) | ((with_reducible refine wo_div ?_ ?_ ?_); (· walk_at "sd"); (· walk_at "sd")) | ((with_reducible refine wo_mul ?_ ?_); (· first | exact mul_ok1 (by walk_at "sd") | exact mul_ok2 (by walk_at "sd") | exact mul_ok3 (by omega) (by omega))) | ((with_reducible refine wo_app ?_ ?_); (· first | rfl | (apply fits_of; first | omega | (simp; omega)))) | ((with_reducible refine wo_ext ?_ ?_); (· first | rfl | (apply fits_of; first | omega | (simp; omega))))) | ((with_reducible show WS _ _ _); first | with_reducible refine ws_try ?_ | with_reducible refine ws_retT ?_ | with_reducible refine ws_seq ?_ | with_reducible refine ws_expr ?_ | with_reducible refine ws_ret ?_ | with_reducible refine ws_retL ?_ | with_reducible refine ws_set ?_ | with_reducible refine ws_setO ?_ | with_reducible refine ws_asg ?_ | with_reducible refine ws_par ?_ | with_reducible refine ws_nil ?_ | with_reducible refine ws_retN ?_ | with_reducible refine ws_dput ?_ | with_reducible refine ws_dnew ?_ | ((with_reducible show WS (sFrz _ _) _ _); first | ((with_reducible apply ws_frz); (· rfl)) | ((with_reducible apply ws_frzV); (· rfl))) | ((with_reducible apply ws_retO); (· rfl)) | ((with_reducible apply ws_putI); (· rfl))) | ((with_reducible apply nrm_); (· (try simp only [wipeE, backE, List.set_cons_zero, List.set_cons_succ, List.getElem?_cons_zero, List.getElem?_cons_succ, List.cons_append, List.nil_append, List.replicate_succ, List.replicate_zero, Nat.reduceSub, unowns_nil, unowns_cons, unown_own, unown_val, unown_no, unown_ro, unown_dct]); rfl)) | ((with_reducible show IfB _ _ _); first | with_reducible refine ifb_not ?_ | with_reducible refine ifb_t ?_ | with_reducible refine ifb_f ?_ | ((with_reducible refine ifb_decT ?_ ?_); (· first | (with_reducible assumption) | omega | (simp only [List.length_cons, List.length_nil]; omega))) | ((with_reducible refine ifb_decF ?_ ?_); (· first | (with_reducible assumption) | omega | (simp only [List.length_cons, List.length_nil]; omega))) | with_reducible refine ifb_dec (fun _ => ?_) (fun _ => ?_) | ((with_reducible apply ifb_eT); (· rfl)) | ((with_reducible apply ifb_eF); (· rfl))) | ((with_reducible show WB _ _ _); first | with_reducible refine wb_bor ?_ | with_reducible refine wb_v ?_ | with_reducible refine wb_and ?_ | with_reducible refine wb_or ?_ | with_reducible refine wb_not ?_ | with_reducible refine wb_yes ?_) | with_reducible refine isb ?_ | ((with_reducible show WL _ _ _); first | with_reducible refine wl_nil ?_ | with_reducible refine wl_cons ?_ | with_reducible refine wl_lst ?_ | with_reducible refine wl_un ?_ | with_reducible refine wl_it ?_ | with_reducible refine wl_rng1 ?_ | with_reducible refine wl_rng2 ?_ | with_reducible refine wl_enum ?_ | with_reducible refine wl_enumA ?_ | with_reducible refine wl_addE ?_ | with_reducible refine wl_rg1 ?_ | with_reducible refine wl_bor ?_ | with_reducible refine wl_call ?_ | ((with_reducible apply wl_addO); (· rfl)) | ((with_reducible show WL (lSlV _ _ _) _ _); first | ((with_reducible apply wl_slO); (· rfl)) | ((with_reducible apply wl_slR); (· rfl)))) | ((with_reducible show WA _ _ _); first | with_reducible refine wa_nil ?_ | with_reducible refine wa_v ?_ | ((with_reducible apply wa_r); (· rfl)) | ((with_reducible show WA (aO _ _) _ _); first | ((with_reducible apply wa_oR); (· rfl)) | ((with_reducible apply wa_oO); (· rfl)) | ((with_reducible apply wa_oV); (· rfl)))) | ((with_reducible show IsS _ _); first | with_reducible refine iss_l ?_ | with_reducible refine iss_t ?_) | ((with_reducible refine fit_ ?_ ?_); (· first | rfl | (apply fits_of; first | omega | (simp; omega)))) | ((with_reducible show CallG _ _ _ _); first | ((with_reducible apply cg0); (· rfl)) | ((with_reducible apply cg1); (· rfl); (· rfl))) | ((with_reducible show WT _ _ _ _); first | with_reducible refine wt_n ?_ | ((with_reducible apply wt_t); (· rfl)) | ((with_reducible apply wt_unl); (· rfl))) | ((with_reducible show WTs _ _ _ _); first | with_reducible refine wts_nil ?_ | with_reducible refine wts_cons ?_) | ((with_reducible apply own_); (· rfl)) | ((with_reducible refine sml_ ?_ ?_ ?_); (· walk_at "sd"); (· walk_at "sd")) | with_reducible refine isi_ ?_ | ((with_reducible show WNl _ _ _); first | with_reducible refine wnl_l ?_ | with_reducible refine wnl_v ?_) | ((with_reducible show WSX _ _ _); first | with_reducible refine wsx_lift ?_ | with_reducible refine wsx_seq ?_ | with_reducible refine wsx_if ?_ | with_reducible refine wsx_raise0 ?_ | with_reducible refine wsx_expr ?_ | with_reducible refine wsx_ret ?_ | with_reducible refine wsx_set ?_) | with_reducible refine wex_call ?_ | ((with_reducible show WPu _ _ _ _); first | with_reducible refine wpu_nil ?_ | with_reducible refine wpu_seq ?_ | with_reducible refine wpu_ret ?_ | with_reducible refine wpu_if ?_) | ((with_reducible show WTd _ _ _ _ _); first | with_reducible refine wtd_P ?_ | with_reducible refine wtd_G ?_ | with_reducible refine wtd_If ?_ | ((with_reducible refine wtd_K ?_ ?_); (· exact ⟨rfl, by decide⟩)) | ((with_reducible refine wtd_U ?_ ?_); (· exact ⟨rfl, by decide⟩)) | ((with_reducible refine wtd_C ?_ ?_); (· rfl)) | ((with_reducible refine wtd_A ?_ ?_ ?_); (· rfl); (· first | rfl | (apply fits_of; first | omega | (simp; omega))))) | with_reducible refine two_ ?_ | ((with_reducible show WC _ _ _ _ _ _ _); first | with_reducible refine wc_nil ?_ | with_reducible refine wc_cons ?_) | ((with_reducible show WP _ _ _); first | with_reducible refine wp_no ?_ | with_reducible refine wp_e ?_) | with_reducible refine isl ?_ | ((with_reducible show RetT _ _ _); first | ((with_reducible apply retT1); (· rfl)) | ((with_reducible apply retT2); (· rfl))) | ((with_reducible show Any _ _); first | ((with_reducible apply any_o); (· rfl)) | ((with_reducible apply any_r); (· rfl))) | ((with_reducible show CallH _ _ _ _); first | ((with_reducible apply ch0); (· rfl)) | ((with_reducible apply ch1); (· rfl); (· rfl))) | ((with_reducible apply cgx0); (· rfl))))
local macro_rules | `(tactic| walk_at "nr") => `(tactic| ((with_reducible apply nrm_); (· (try simp only [wipeE, backE, List.set_cons_zero, List.set_cons_succ, List.getElem?_cons_zero, List.getElem?_cons_succ, List.cons_append, List.nil_append, List.replicate_succ, List.replicate_zero, Nat.reduceSub, unowns_nil, unowns_cons, unown_own, unown_val, unown_no, unown_ro, unown_dct]); rfl)))
local macro_rules | `(tactic| walk_at "nb") => `(tactic| simp only [wipeE, backE, List.set_cons_zero, List.set_cons_succ, List.getElem?_cons_zero, List.getElem?_cons_succ])
theorem at_w {ns : List Int} {Q : D → List Sl → Prop} (q : ∀ z x, Q (.int z) x) : WG g__law_at [.ro (ns.map .int), .val (.int 0)] Q := by
  refine wg_run rfl ?_
  unfold b__law_at
  walk_at "vc"
  all_goals first | exact q _ _ | skip
  cases ns with
  | nil => simp at *
  | cons n ns => exact ⟨.int n, by simp [gIdx, atI, ixN], q _ _⟩
def allX (z : Int) : List D := [xD ⟨C_BadClock, none⟩, xD ⟨C_TooAlike, none⟩, xD ⟨C_NoHand, none⟩, xD ⟨C_NoSuch, none⟩, xD ⟨C_NoMark, none⟩, xD ⟨C_NoRow, none⟩, xD ⟨C_NoBack, none⟩, xD ⟨C_Coarse, some ("step", z)⟩, xD ⟨C_NoText, some ("row", z)⟩]
theorem all_w {x : Str} {z : Int} {Q : D → List Sl → Prop} (q : ∀ x, Q (.list (allX z)) x) : WG g__law_all [.val (.str x), .val (.int z)] Q := by
  refine wg_run rfl ?_
  unfold b__law_all
  (repeat' first | walk_at "v1" | ((with_reducible refine we_exc0 ?_); skip) | ((with_reducible refine we_exc1 ?_); skip))
  exact q _
theorem kinds_w {k : Nat} {z : Int} {x : D} (hx : (allX z)[k]? = some x) {Q : D → List Sl → Prop} (q : ∀ e, Q (.list ((List.range 9).map fun j => .bool (decide (j = k)))) e) : WG g__law_kinds [.val x] Q := by
  refine wg_run rfl ?_
  unfold b__law_kinds
  match k, hx with
  | 0, hx => cases hx; walk_at "vc"; exact q _
  | 1, hx => cases hx; walk_at "vc"; exact q _
  | 2, hx => cases hx; walk_at "vc"; exact q _
  | 3, hx => cases hx; walk_at "vc"; exact q _
  | 4, hx => cases hx; walk_at "vc"; exact q _
  | 5, hx => cases hx; walk_at "vc"; exact q _
  | 6, hx => cases hx; walk_at "vc"; exact q _
  | 7, hx => cases hx; walk_at "vc"; exact q _
  | 8, hx => cases hx; walk_at "vc"; exact q _
  | k + 9, hx => simp [allX] at hx
theorem len1000 : ∀ i : Nat, i < 1000 → (toString (i : Int) : Str).length ≤ 4 := by decide +kernel
theorem law_true : ∀ ns : List Int, ns.length ≤ 63 → ∃ args', g_law [.ro (ns.map .int)] = some (.bool true, args') := by
  intro ns hl
  suffices h : WG g_law [.ro (ns.map .int)] (fun d _ => d = .bool true) by
    obtain ⟨d, a, e, rfl⟩ := h
    exact ⟨a, e⟩
  refine wg_run rfl ?_
  unfold b_law
  walk_at "vc"
  refine at_w fun z0 x0 => ?_
  walk_at "vc"
  generalize hz : ((if z0 < 0 then -z0 else z0) % 10000000000000000000000000000000000000000000000000000000000000) = z
  have r0 : 0 ≤ z % 1000 := by omega
  have r1 : z % 1000 < 1000 := by omega
  generalize z % 1000 = r at r0 r1
  obtain ⟨r, rfl⟩ := Int.eq_ofNat_of_zero_le r0
  have hlen := len1000 r (by omega)
  have h200 : (r : Int).natAbs < 10 ^ 200 := Nat.lt_of_lt_of_le (show r < 1000 by omega) (by decide +kernel)
  refine ⟨.str (toString (r : Int)), by unfold gStr; dsimp only; rw [if_pos (decide_eq_true h200)], ?_⟩
  generalize (toString (r : Int) : Str) = y at hlen
  have h7 : ("a text " : Str).length = 7 := by decide +kernel
  refine ⟨.str (("a text " : Str) ++ y), by unfold gAdd; dsimp only; rw [if_pos (show fits _ = true from decide_eq_true (by rw [h7]; omega))], ?_⟩
  walk_at "vc"
  refine all_w fun x1 => ?_
  walk_at "vc"
  refine ws_forN (fun _ k e => ∃ x3 x4 : Sl, e = [.ro (ns.map .int), .val (.int z), .val (.list (allX z)), x3, x4, .no]) ?_
  walk_at "vc"
  refine ⟨⟨_, _, rfl⟩, ?_, ?_⟩
  · rintro k d e hk hd ⟨x3, x4, rfl⟩
    match k, hd with
    | 0, hd =>
      cases hd
      walk_at "vc"
      refine kinds_w (k := 0) (z := z) rfl fun _ => ?_
      rw [show ((List.range 9).map fun j => PyData.bool (decide (j = 0))) = [.bool true, .bool false, .bool false, .bool false, .bool false, .bool false, .bool false, .bool false, .bool false] from rfl]
      walk_at "vc"
      refine wl_compU [.int 0, .int 1, .int 2, .int 3, .int 4, .int 5, .int 6, .int 7, .int 8] ?_
      walk_at "vc"
      refine ⟨rfl, rfl, rfl, ?_⟩
      walk_at "vc"
      exact ⟨_, _, rfl⟩
    | 1, hd =>
      cases hd
      walk_at "vc"
      refine kinds_w (k := 1) (z := z) rfl fun _ => ?_
      rw [show ((List.range 9).map fun j => PyData.bool (decide (j = 1))) = [.bool false, .bool true, .bool false, .bool false, .bool false, .bool false, .bool false, .bool false, .bool false] from rfl]
      walk_at "vc"
      refine wl_compU [.int 0, .int 1, .int 2, .int 3, .int 4, .int 5, .int 6, .int 7, .int 8] ?_
      walk_at "vc"
      refine ⟨rfl, rfl, rfl, ?_⟩
      walk_at "vc"
      exact ⟨_, _, rfl⟩
    | 2, hd =>
      cases hd
      walk_at "vc"
      refine kinds_w (k := 2) (z := z) rfl fun _ => ?_
      rw [show ((List.range 9).map fun j => PyData.bool (decide (j = 2))) = [.bool false, .bool false, .bool true, .bool false, .bool false, .bool false, .bool false, .bool false, .bool false] from rfl]
      walk_at "vc"
      refine wl_compU [.int 0, .int 1, .int 2, .int 3, .int 4, .int 5, .int 6, .int 7, .int 8] ?_
      walk_at "vc"
      refine ⟨rfl, rfl, rfl, ?_⟩
      walk_at "vc"
      exact ⟨_, _, rfl⟩
    | 3, hd =>
      cases hd
      walk_at "vc"
      refine kinds_w (k := 3) (z := z) rfl fun _ => ?_
      rw [show ((List.range 9).map fun j => PyData.bool (decide (j = 3))) = [.bool false, .bool false, .bool false, .bool true, .bool false, .bool false, .bool false, .bool false, .bool false] from rfl]
      walk_at "vc"
      refine wl_compU [.int 0, .int 1, .int 2, .int 3, .int 4, .int 5, .int 6, .int 7, .int 8] ?_
      walk_at "vc"
      refine ⟨rfl, rfl, rfl, ?_⟩
      walk_at "vc"
      exact ⟨_, _, rfl⟩
    | 4, hd =>
      cases hd
      walk_at "vc"
      refine kinds_w (k := 4) (z := z) rfl fun _ => ?_
      rw [show ((List.range 9).map fun j => PyData.bool (decide (j = 4))) = [.bool false, .bool false, .bool false, .bool false, .bool true, .bool false, .bool false, .bool false, .bool false] from rfl]
      walk_at "vc"
      refine wl_compU [.int 0, .int 1, .int 2, .int 3, .int 4, .int 5, .int 6, .int 7, .int 8] ?_
      walk_at "vc"
      refine ⟨rfl, rfl, rfl, ?_⟩
      walk_at "vc"
      exact ⟨_, _, rfl⟩
    | 5, hd =>
      cases hd
      walk_at "vc"
      refine kinds_w (k := 5) (z := z) rfl fun _ => ?_
      rw [show ((List.range 9).map fun j => PyData.bool (decide (j = 5))) = [.bool false, .bool false, .bool false, .bool false, .bool false, .bool true, .bool false, .bool false, .bool false] from rfl]
      walk_at "vc"
      refine wl_compU [.int 0, .int 1, .int 2, .int 3, .int 4, .int 5, .int 6, .int 7, .int 8] ?_
      walk_at "vc"
      refine ⟨rfl, rfl, rfl, ?_⟩
      walk_at "vc"
      exact ⟨_, _, rfl⟩
    | 6, hd =>
      cases hd
      walk_at "vc"
      refine kinds_w (k := 6) (z := z) rfl fun _ => ?_
      rw [show ((List.range 9).map fun j => PyData.bool (decide (j = 6))) = [.bool false, .bool false, .bool false, .bool false, .bool false, .bool false, .bool true, .bool false, .bool false] from rfl]
      walk_at "vc"
      refine wl_compU [.int 0, .int 1, .int 2, .int 3, .int 4, .int 5, .int 6, .int 7, .int 8] ?_
      walk_at "vc"
      refine ⟨rfl, rfl, rfl, ?_⟩
      walk_at "vc"
      exact ⟨_, _, rfl⟩
    | 7, hd =>
      cases hd
      walk_at "vc"
      refine kinds_w (k := 7) (z := z) rfl fun _ => ?_
      rw [show ((List.range 9).map fun j => PyData.bool (decide (j = 7))) = [.bool false, .bool false, .bool false, .bool false, .bool false, .bool false, .bool false, .bool true, .bool false] from rfl]
      walk_at "vc"
      refine wl_compU [.int 0, .int 1, .int 2, .int 3, .int 4, .int 5, .int 6, .int 7, .int 8] ?_
      walk_at "vc"
      refine ⟨rfl, rfl, rfl, ?_⟩
      walk_at "vc"
      exact ⟨_, _, rfl⟩
    | 8, hd =>
      cases hd
      walk_at "vc"
      refine kinds_w (k := 8) (z := z) rfl fun _ => ?_
      rw [show ((List.range 9).map fun j => PyData.bool (decide (j = 8))) = [.bool false, .bool false, .bool false, .bool false, .bool false, .bool false, .bool false, .bool false, .bool true] from rfl]
      walk_at "vc"
      refine wl_compU [.int 0, .int 1, .int 2, .int 3, .int 4, .int 5, .int 6, .int 7, .int 8] ?_
      walk_at "vc"
      refine ⟨rfl, rfl, rfl, ?_⟩
      walk_at "vc"
      exact ⟨_, _, rfl⟩
    | j + 9, hd => rw [irange_length] at hk; omega
  · rintro e ⟨x3, x4, rfl⟩
    walk_at "vc"
    rw [decide_eq_true rfl]
end Lw

theorem PySem.Challenge.cw_dialdoubt_k01_refusals_stand_alone_holds : PySem.Challenge.rw_dialdoubt_k01_refusals_stand_alone.Holds :=
  Lw.walked Lw.law_true
