import PyProof.Rows.All
import HandS.Conv
import HandS.Deep
import HandS.ExcBuiltin
import HandS.ExcInit
import HandS.ExcIs
import HandS.ExcOwn
import HandS.ForMost
import HandS.IsInst
import HandS.More
import HandS.Replace
import HandS.SetFor
import HandS.Strs
import HandS.Style
import HandS.Text
import HandS.TupAny
import HandS.Walk
import HandS.Wide
import HandS.WordsExc
import HandS.Zip
import KE.DataFind
import KE.DataMinMax
import KE.DatumIndex
import KE.DatumOrd
import KE.GoesEnum
import KE.GoesMore
import KE.GoesZip
import KE.KDictDisplayH
import KE.KDictKeyed
import KE.KExcIs
import KE.KTurns
import KE.KeyNested
import KE.KxIndex
import KE.SortData
import OpenK.AllK
import PyProof.ListStr
import PyProof.Rows.SetFrom
import Wide.All
import Wide.FinOn
import HandS.NoneIn
import HandS.Dict
import HandS.SortKw
import PySem.Challenge.RW_dialdoubt_k48_whole_painted_beside_whole
set_option Elab.async false
set_option linter.all false
set_option maxRecDepth 100000
set_option maxHeartbeats 4000000
namespace Lw
open PySem PySem.W PyProof.Rows
set_option maxHeartbeats 0 in
open_top wrap for PySem.Challenge.rw_dialdoubt_k48_whole_painted_beside_whole
end Lw
namespace M
open PySem PySem.Spec PyProof.Rows L2

abbrev D := PyData
abbrev Frg := PySem.W.Frag
/-- a slot: nothing; a value that never changes; a list that this def may change (l: made here; else handed in); a list that is read only; a dict made here (w: by whose hashes) -/
inductive Sl where
  | no | val (d : D) | own (l : Bool) (ds : List D) | ro (ds : List D) | dct (w : World) (kvs : List (D × D))
abbrev En := List Sl

/-! ### values in a frozen heap -/
/-- a caught exception at a: of the class at C, its own dict at d -/
def ExV (C : Addr) (d : Option Addr) (a : Addr) : HO := .ext fun h => ∃ (oe : Obj) (vs : Array Value), h.get? a = some oe ∧ Zc (.ref C) d oe ∧ oe.data = .fields vs
mutual
inductive Dt (F : Hp) : V → D → Prop
  | non : Dt F .non .none
  | bl (b : Bool) : Dt F (.bl b) (.bool b)
  | int (i : Int) : Dt F (.int i) (.int i)
  | str (x : Str) : Dt F (.str x) (.str x)
  | lst {a : Addr} {xs : List V} {ds : List D} : F a = some (.lst xs) → Da F xs ds → Dt F (.ref a) (.list ds)
  | tup {a : Addr} {xs : List V} {ds : List D} : F a = some (.tup xs) → Da F xs ds → Dt F (.ref a) (.tuple ds)
  | xc {a C : Addr} : F a = some (ExV C none a) → Dt F (.ref a) (.dict [(.int (C : Int), .none)])
  | xf {a C dd : Addr} {f : Str} {z : Int} : F a = some (ExV C (some dd) a) → F dd = some (.xd [(f, .int z)]) → Dt F (.ref a) (.dict [(.int (C : Int), .tuple [.str f, .int z])])
inductive Da (F : Hp) : List V → List D → Prop
  | nil : Da F [] []
  | cons {v : V} {vs : List V} {d : D} {ds : List D} : Dt F v d → Da F vs ds → Da F (v :: vs) (d :: ds)
end
mutual
theorem Dt.mono {F F' : Hp} (e : Same F F') : ∀ (d : D) (v : V), Dt F v d → Dt F' v d
  | .none, _, h => by cases h; exact .non
  | .bool _, _, h => by cases h; exact .bl _
  | .int _, _, h => by cases h; exact .int _
  | .str _, _, h => by cases h; exact .str _
  | .list ds, _, h => by
    cases h with
    | lst s a => exact .lst (e _ _ s) (Da.mono e ds _ a)
  | .tuple ds, _, h => by
    cases h with
    | tup s a => exact .tup (e _ _ s) (Da.mono e ds _ a)
  | .dict _, _, h => by
    cases h with
    | xc s => exact .xc (e _ _ s)
    | xf s1 s2 => exact .xf (e _ _ s1) (e _ _ s2)
theorem Da.mono {F F' : Hp} (e : Same F F') : ∀ (ds : List D) (vs : List V), Da F vs ds → Da F' vs ds
  | [], _, h => by cases h; exact .nil
  | d :: ds, _, h => by
    cases h with
    | cons h1 h2 => exact .cons (Dt.mono e d _ h1) (Da.mono e ds _ h2)
end
mutual
def nd : D → Bool
  | .none => true
  | .bool _ => true
  | .int _ => true
  | .str _ => true
  | .list ds => ndA ds
  | .tuple ds => ndA ds
  | .dict _ => false
def ndA : List D → Bool
  | [] => true
  | d :: ds => nd d && ndA ds
end
theorem ndA_cons {d : D} {ds : List D} (h : ndA (d :: ds) = true) : nd d = true ∧ ndA ds = true := by
  unfold ndA at h
  exact Bool.and_eq_true_iff.mp h
mutual
theorem nd_can : ∀ d : D, d.canLay0 = true → nd d = true
  | .none, _ => by unfold nd; rfl
  | .bool _, _ => by unfold nd; rfl
  | .int _, _ => by unfold nd; rfl
  | .str _, _ => by unfold nd; rfl
  | .list ds, h => by unfold nd; exact ndA_can ds (by unfold PyData.canLay0 at h; exact h)
  | .tuple ds, h => by unfold nd; exact ndA_can ds (by unfold PyData.canLay0 at h; exact h)
  | .dict _, h => by unfold PyData.canLay0 at h; cases h
theorem ndA_can : ∀ ds : List D, PyData.canLayAll0 ds = true → ndA ds = true
  | [], _ => by unfold ndA; rfl
  | d :: ds, h => by
    unfold PyData.canLayAll0 at h
    obtain ⟨h1, h2⟩ := Bool.and_eq_true_iff.mp h
    unfold ndA
    rw [nd_can d h1, ndA_can ds h2]; rfl
end
theorem nd_sh {d : D} (h : SeqAt.shaped d = true) : nd d = true := nd_can d (Bool.and_eq_true_iff.mp h).1
mutual
theorem nd_alike : ∀ d : D, PySem.W.alike d d = true → nd d = true
  | .none, _ => by unfold nd; rfl
  | .bool _, _ => by unfold nd; rfl
  | .int _, _ => by unfold nd; rfl
  | .str _, _ => by unfold nd; rfl
  | .list ds, h => by unfold nd; exact ndA_alike ds (by unfold PySem.W.alike at h; exact h)
  | .tuple ds, h => by unfold nd; exact ndA_alike ds (by unfold PySem.W.alike at h; exact h)
  | .dict _, h => by unfold PySem.W.alike at h; cases h
theorem ndA_alike : ∀ ds : List D, PySem.W.alikeAll ds ds = true → ndA ds = true
  | [], _ => by unfold ndA; rfl
  | d :: ds, h => by
    unfold PySem.W.alikeAll at h
    obtain ⟨h1, h2⟩ := Bool.and_eq_true_iff.mp h
    unfold ndA
    rw [nd_alike d h1, ndA_alike ds h2]; rfl
end
theorem ndA_of {ds : List D} (h : ∀ d ∈ ds, nd d = true) : ndA ds = true := by
  induction ds with
  | nil => unfold ndA; rfl
  | cons d ds ih =>
    unfold ndA
    rw [h d (by simp), ih fun e he => h e (by simp [he])]; rfl
mutual
theorem Dt.dp {K : Frg} {F : Hp} : ∀ (d : D) (v : V), nd d = true → Dt F v d → Dp K F v d
  | .none, _, _, h => by cases h; exact .non
  | .bool _, _, _, h => by cases h; exact .bl _
  | .int _, _, _, h => by cases h; exact .int _
  | .str _, _, _, h => by cases h; exact .str _
  | .list ds, _, n, h => by
    cases h with
    | lst s a => exact .lst (SqL.of s) (Da.dp ds _ (by unfold nd at n; exact n) a)
  | .tuple ds, _, n, h => by
    cases h with
    | tup s a => exact .tup (SqT.of s) (Da.dp ds _ (by unfold nd at n; exact n) a)
  | .dict _, _, n, h => by unfold nd at n; cases n
theorem Da.dp {K : Frg} {F : Hp} : ∀ (ds : List D) (vs : List V), ndA ds = true → Da F vs ds → DpAll K F vs ds
  | [], _, _, h => by cases h; exact .nil
  | d :: ds, _, n, h => by
    cases h with
    | cons h1 h2 => exact .cons (Dt.dp d _ (ndA_cons n).1 h1) (Da.dp ds _ (ndA_cons n).2 h2)
end
theorem Da.length {F : Hp} : ∀ {ds : List D} {vs : List V}, Da F vs ds → vs.length = ds.length
  | [], _, h => by cases h; rfl
  | d :: ds, _, h => by
    cases h with
    | cons h1 h2 => simp [Da.length h2]
theorem Da.append {F : Hp} : ∀ {ds es : List D} {vs us : List V}, Da F vs ds → Da F us es → Da F (vs ++ us) (ds ++ es)
  | [], _, _, _, h, h' => by cases h; exact h'
  | d :: ds, _, _, _, h, h' => by
    cases h with
    | cons h1 h2 => exact .cons h1 (Da.append h2 h')
theorem Da.get {F : Hp} : ∀ {ds : List D} {vs : List V} {i : Nat} {d : D}, Da F vs ds → ds[i]? = some d → ∃ v, vs[i]? = some v ∧ Dt F v d
  | [], _, _, _, _, e => by simp at e
  | d :: ds, _, 0, _, h, e => by
    cases h with
    | cons h1 h2 => simp at e; subst e; exact ⟨_, rfl, h1⟩
  | d :: ds, _, i + 1, _, h, e => by
    cases h with
    | cons h1 h2 =>
      obtain ⟨v, h3, h4⟩ := Da.get (i := i) h2 (by simpa using e)
      exact ⟨v, by simpa using h3, h4⟩
theorem Da.get' {F : Hp} {ds : List D} {vs : List V} {i : Nat} {v : V} (h : Da F vs ds) (e : vs[i]? = some v) : ∃ d, ds[i]? = some d ∧ Dt F v d := by
  have hi : i < vs.length := (List.getElem?_eq_some_iff.mp e).1
  have hj : i < ds.length := by rw [← h.length]; exact hi
  obtain ⟨u, h1, h2⟩ := h.get (List.getElem?_eq_getElem hj)
  rw [e] at h1; cases h1
  exact ⟨_, List.getElem?_eq_getElem hj, h2⟩
theorem Da.of {F : Hp} : ∀ {ds : List D} {vs : List V}, vs.length = ds.length → (∀ (i : Nat) v d, vs[i]? = some v → ds[i]? = some d → Dt F v d) → Da F vs ds
  | [], [], _, _ => .nil
  | [], _ :: _, h, _ => by simp at h
  | _ :: _, [], h, _ => by simp at h
  | d :: ds, v :: vs, h, g => .cons (g 0 v d rfl rfl) (Da.of (by simpa using h) fun i u e h1 h2 => g (i + 1) u e (by simpa using h1) (by simpa using h2))
theorem Da.pick {F : Hp} {ds es : List D} {vs us : List V} (h : Da F vs ds) (hl : us.length = es.length) (g : ∀ (i : Nat) v d, us[i]? = some v → es[i]? = some d → ∃ j : Nat, vs[j]? = some v ∧ ds[j]? = some d) : Da F us es :=
  Da.of hl fun i v d h1 h2 => by
    obtain ⟨j, e1, e2⟩ := g i v d h1 h2
    obtain ⟨d', e, q⟩ := h.get' e1
    rw [e2] at e; cases e; exact q
theorem Da.take {F : Hp} {ds : List D} {vs : List V} (h : Da F vs ds) (n : Nat) : Da F (vs.take n) (ds.take n) :=
  h.pick (by simp [h.length]) fun i v d h1 h2 => by
    rw [List.getElem?_take] at h1 h2
    split at h1
    · rename_i hn
      rw [if_pos hn] at h2
      exact ⟨i, h1, h2⟩
    · cases h1
theorem Da.drop {F : Hp} {ds : List D} {vs : List V} (h : Da F vs ds) (n : Nat) : Da F (vs.drop n) (ds.drop n) :=
  h.pick (by simp [h.length]) fun i v d h1 h2 => by
    rw [List.getElem?_drop] at h1 h2
    exact ⟨n + i, h1, h2⟩
theorem Da.set {F : Hp} {ds : List D} {vs : List V} {d : D} {v : V} (h : Da F vs ds) (q : Dt F v d) (n : Nat) : Da F (vs.set n v) (ds.set n d) := by
  refine Da.of (by simp [h.length]) fun i v' d' h1 h2 => ?_
  by_cases hi : n = i
  · subst hi
    have l1 : n < vs.length := by have := (List.getElem?_eq_some_iff.mp h1).1; simpa using this
    have l2 : n < ds.length := by rw [← h.length]; exact l1
    rw [List.getElem?_set_self l1] at h1
    rw [List.getElem?_set_self l2] at h2
    cases h1; cases h2; exact q
  · rw [List.getElem?_set_ne hi] at h1 h2
    obtain ⟨d2, e, q'⟩ := h.get' h1
    rw [h2] at e; cases e; exact q'
theorem Da.erase {F : Hp} : ∀ {ds : List D} {vs : List V} (n : Nat), Da F vs ds → Da F (vs.eraseIdx n) (ds.eraseIdx n)
  | [], _, _, h => by cases h; exact .nil
  | d :: ds, _, 0, h => by cases h with | cons h1 h2 => exact h2
  | d :: ds, _, n + 1, h => by cases h with | cons h1 h2 => exact .cons h1 (Da.erase n h2)

/-- a def's frame: what is frozen and what stands at its entry; the pinned objects; the slots at entry -/
structure Gm where
  F0 : Hp
  H0 : Hp
  P : Hp
  R : Hp
  s0 : L2.St

/-! dicts: by their entries (hash, key, value) -/
def EntR (e : Int × V × V) (x : DictEntry) : Prop := x.hash = e.1 ∧ RelV e.2.1 x.key ∧ RelV e.2.2 x.val
abbrev DicO (a : Addr) (es : List (Int × V × V)) : HO := .ext fun h => ∃ (o : Obj) (xs : Array DictEntry) (ep : Nat), h.get? a = some o ∧ o.ExactDict ∧ o.data = .dict xs ep ∧ (a == sysModules) = false ∧ Paired EntR es xs.toList
mutual
def nkOf : D → Option NestedKey
  | .none => some .none
  | .bool b => some (.num (if b then 1 else 0))
  | .int i => some (.num i)
  | .str x => some (.text x)
  | .tuple ds => (nkAll ds).map .tup
  | .list _ => none
  | .dict _ => none
def nkAll : List D → Option (List NestedKey)
  | [] => some []
  | d :: ds => (nkOf d).bind fun k => (nkAll ds).map fun ks => k :: ks
end
def EntOk (F : Hp) (w : World) (e : Int × V × V) (p : D × D) : Prop := (∃ nk, nkOf p.1 = some nk ∧ e.1 = nk.hash w) ∧ Dt F e.2.1 p.1 ∧ Dt F e.2.2 p.2
structure EntsOk (F : Hp) (w : World) (es : List (Int × V × V)) (kvs : List (D × D)) : Prop where
  all : Paired (EntOk F w) es kvs
  nd : (kvs.map fun p => nkOf p.1).Nodup
  le : kvs.length ≤ sizeLine
theorem EntsOk.mono {F F' : Hp} (e : Same F F') {w : World} {es : List (Int × V × V)} {kvs : List (D × D)} (h : EntsOk F w es kvs) : EntsOk F' w es kvs where
  all := by
    have : ∀ {es : List (Int × V × V)} {kvs : List (D × D)}, Paired (EntOk F w) es kvs → Paired (EntOk F' w) es kvs := fun {es kvs} h => by
      induction h with
      | nil => exact .nil
      | cons r _ ih => exact .cons ⟨r.1, Dt.mono e _ _ r.2.1, Dt.mono e _ _ r.2.2⟩ ih
    exact this h.all
  nd := h.nd
  le := h.le
structure DcOk (G : Gm) (F : Hp) (env : En) (s : L2.St) (H : Hp) : Prop where
  at' : ∀ (i : Nat) w kvs, env[i]? = some (.dct w kvs) → ∃ a es, s[i]? = some (some (.ref a)) ∧ H a = some (DicO a es) ∧ F a = none ∧ G.P a = none ∧ G.H0 a = none ∧ EntsOk F w es kvs
  sep : ∀ (i j : Nat) w kvs w' kvs', env[i]? = some (.dct w kvs) → env[j]? = some (.dct w' kvs') → s[i]? = s[j]? → i = j
theorem DcOk.move {G G' : Gm} {F F' : Hp} {env env' : En} {s s' : L2.St} {H H' : Hp} (k : DcOk G F env s H) (hF : Same F F') (he : ∀ (i : Nat) w kvs, env'[i]? = some (.dct w kvs) → env[i]? = some (.dct w kvs) ∧ s'[i]? = s[i]?)
    (hH : ∀ a es, H a = some (DicO a es) → F a = none → G.P a = none → G.H0 a = none → (∃ (i : Nat) (w : World) (kvs : List (D × D)), env[i]? = some (.dct w kvs) ∧ s[i]? = some (some (.ref a))) → H' a = some (DicO a es) ∧ F' a = none ∧ G'.P a = none ∧ G'.H0 a = none) : DcOk G' F' env' s' H' where
  at' := fun i w kvs e => by
    obtain ⟨e1, e2⟩ := he i w kvs e
    obtain ⟨a, es, h1, h2, h3, h4, h5, h6⟩ := k.at' i w kvs e1
    obtain ⟨g2, g3, g4, g5⟩ := hH a es h2 h3 h4 h5 ⟨i, w, kvs, e1, h1⟩
    exact ⟨a, es, e2.trans h1, g2, g3, g4, g5, h6.mono hF⟩
  sep := fun i j w kvs w' kvs' e1 e2 e3 => by
    obtain ⟨f1, f2⟩ := he i w kvs e1
    obtain ⟨f3, f4⟩ := he j w' kvs' e2
    exact k.sep i j _ _ _ _ f1 f3 (f2.symm.trans (e3.trans f4))
/-- nothing but the slots changes -/
theorem DcOk.slots {G : Gm} {F : Hp} {env env' : En} {s s' : L2.St} {H : Hp} (k : DcOk G F env s H) (he : ∀ (i : Nat) w kvs, env'[i]? = some (.dct w kvs) → env[i]? = some (.dct w kvs) ∧ s'[i]? = s[i]?) : DcOk G F env' s' H :=
  k.move (fun _ _ e => e) he fun a es h1 h2 h3 h4 _ => ⟨h1, h2, h3, h4⟩
structure Ok (K : Frg) (G : Gm) (F : Hp) (env : En) (s : L2.St) (H : Hp) : Prop where
  len : s.length = env.length
  fr : Same F H
  val : ∀ (i : Nat) d, env[i]? = some (.val d) → ∃ v, s[i]? = some (some v) ∧ Dt F v d
  own : ∀ (i : Nat) l ds, env[i]? = some (.own l ds) → ∃ a vs, s[i]? = some (some (.ref a)) ∧ H a = some (.lst vs) ∧ F a = none ∧ G.P a = none ∧ Da F vs ds ∧ (l = true → G.H0 a = none) ∧ (l = false → G.s0[i]? = some (some (.ref a)))
  ro : ∀ (i : Nat) ds, env[i]? = some (.ro ds) → ∃ a vs, s[i]? = some (some (.ref a)) ∧ SqL K G.R a vs ∧ Da F vs ds
  sep : ∀ (i j : Nat) l ds m es, env[i]? = some (.own l ds) → env[j]? = some (.own m es) → s[i]? = s[j]? → i = j
  pin : Same G.P H
  dom : ∀ a, H a = none → G.H0 a = none
  grow : Same G.F0 F
  new : ∀ a o, F a = some o → G.F0 a = some o ∨ G.H0 a = none
  rin : Same G.R G.P
  dct : DcOk G F env s H

theorem same_upd {F : Hp} {p : Addr} {o : HO} (h : F p = none) : Same F (upd F p o) := fun b x e => by
  rw [upd_ne (ne_of_none e h)]
  exact e
theorem same_laid {F H : Hp} {p : Addr} {o : HO} (e : Same F H) (hp : H p = none) : Same F (upd H p o) := fun a u q => by
  have := e a u q
  rw [upd_ne (ne_of_none this hp)]; exact this

section
variable {K : Frg} {G : Gm} {F : Hp} {env : En} {s : L2.St} {H : Hp} {p : Addr} {o : HO}
/-- a new object, not frozen -/
theorem Ok.laid (k : Ok K G F env s H) (hp : H p = none) : Ok K G F env s (upd H p o) where
  len := k.len
  fr := same_laid k.fr hp
  val := k.val
  own := fun i l ds e => by
    obtain ⟨a, vs, h1, h2, h3⟩ := k.own i l ds e
    exact ⟨a, vs, h1, by rw [upd_ne (ne_of_none h2 hp)]; exact h2, h3⟩
  ro := k.ro
  sep := k.sep
  pin := same_laid k.pin hp
  dom := fun a e => by
    by_cases h : a = p
    · subst h; rw [upd_same] at e; cases e
    · rw [upd_ne h] at e; exact k.dom a e
  grow := k.grow
  new := k.new
  rin := k.rin
  dct := k.dct.move (fun _ _ e => e) (fun _ _ _ e => ⟨e, rfl⟩) fun a es h1 h2 h3 h4 _ => ⟨by rw [upd_ne (ne_of_none h1 hp)]; exact h1, h2, h3, h4⟩
theorem Ok.notdct (k : Ok K G F env s H) {q : HO} (hp : H p = some q) (hq : ∀ es, q ≠ DicO p es) : ∀ (j : Nat) w kvs, env[j]? = some (.dct w kvs) → s[j]? ≠ some (some (.ref p)) := fun j w kvs e z => by
  obtain ⟨a, es, h1, h2, _⟩ := k.dct.at' j w kvs e
  rw [z] at h1
  cases h1
  rw [hp] at h2
  exact hq es (Option.some.inj h2)
theorem Ok.notdctL (k : Ok K G F env s H) {vs : List V} (hp : H p = some (.lst vs)) : ∀ (j : Nat) w kvs, env[j]? = some (.dct w kvs) → s[j]? ≠ some (some (.ref p)) := k.notdct hp fun _ h => nomatch h
theorem Ok.notdctT (k : Ok K G F env s H) {vs : List V} (hp : H p = some (.tup vs)) : ∀ (j : Nat) w kvs, env[j]? = some (.dct w kvs) → s[j]? ≠ some (some (.ref p)) := k.notdct hp fun _ h => nomatch h
theorem Ok.notdctN (k : Ok K G F env s H) (hp : H p = none) : ∀ (j : Nat) w kvs, env[j]? = some (.dct w kvs) → s[j]? ≠ some (some (.ref p)) := fun j w kvs e z => by
  obtain ⟨a, es, h1, h2, _⟩ := k.dct.at' j w kvs e
  rw [z] at h1
  cases h1
  rw [hp] at h2; cases h2
/-- freezing -/
theorem Ok.freeze (k : Ok K G F env s H) (h1 : H p = some o) (h2 : F p = none) (h3 : G.H0 p = none) (h4 : ∀ (j : Nat) l es, env[j]? = some (.own l es) → s[j]? ≠ some (some (.ref p))) (h5 : ∀ (j : Nat) w kvs, env[j]? = some (.dct w kvs) → s[j]? ≠ some (some (.ref p))) : Ok K G (upd F p o) env s H where
  len := k.len
  fr := fun a u e => by
    by_cases h : a = p
    · subst h; rw [upd_same] at e; rw [h1]; exact e
    · rw [upd_ne h] at e; exact k.fr a u e
  val := fun i d e => by
    obtain ⟨v, q1, q2⟩ := k.val i d e
    exact ⟨v, q1, Dt.mono (same_upd h2) d v q2⟩
  own := fun i l ds e => by
    obtain ⟨a, us, q1, q2, q3, q4, q5, q6⟩ := k.own i l ds e
    have ne : a ≠ p := fun z => by subst z; exact h4 i l ds e q1
    exact ⟨a, us, q1, q2, by rw [upd_ne ne]; exact q3, q4, Da.mono (same_upd h2) ds us q5, q6⟩
  ro := fun i ds e => by
    obtain ⟨a, us, q1, q2, q3⟩ := k.ro i ds e
    exact ⟨a, us, q1, q2, Da.mono (same_upd h2) ds us q3⟩
  sep := k.sep
  pin := k.pin
  dom := k.dom
  grow := k.grow.trans (same_upd h2)
  new := fun a u e => by
    by_cases h : a = p
    · subst h; exact .inr h3
    · rw [upd_ne h] at e; exact k.new a u e
  rin := k.rin
  dct := k.dct.move (same_upd h2) (fun _ _ _ e => ⟨e, rfl⟩) fun a es g1 g2 g3 g4 ⟨i, w, kvs, g5, g6⟩ => ⟨g1, by
    have ne : a ≠ p := fun z => by subst z; exact h5 i w kvs g5 g6
    rw [upd_ne ne]; exact g2, g3, g4⟩
theorem Ok.notown (k : Ok K G F env s H) (hp : H p = none) : ∀ (j : Nat) l es, env[j]? = some (.own l es) → s[j]? ≠ some (some (.ref p)) := fun j l es e z => by
  obtain ⟨a, vs, h1, h2, _⟩ := k.own j l es e
  rw [z] at h1
  cases h1
  rw [hp] at h2; cases h2
/-- a new object, frozen at once -/
theorem Ok.alloc (k : Ok K G F env s H) (hp : H p = none) : Ok K G (upd F p o) env s (upd H p o) :=
  (k.laid hp).freeze upd_same (k.fr.free hp) (k.dom p hp) (k.notown hp) (k.notdctN hp)
end

/-- a value frozen, or a list that the def owns or may read -/
def Dq (K : Frg) (F H : Hp) (v : V) (d : D) : Prop := Dt F v d ∨ ∃ a vs ds, v = .ref a ∧ d = .list ds ∧ SqL K H a vs ∧ Da F vs ds
theorem Dq.dp {K : Frg} {F H : Hp} {v : V} {d : D} (e : Same F H) (n : nd d = true) (h : Dq K F H v d) : Dp K H v d := by
  rcases h with h | ⟨a, vs, ds, rfl, rfl, h1, h2⟩
  · exact Dt.dp d v n (Dt.mono e d v h)
  · exact .lst h1 (Da.dp ds vs (by unfold nd at n; exact n) (Da.mono e ds vs h2))
theorem Dq.list {K : Frg} {F H : Hp} {v : V} {ds : List D} (e : Same F H) (h : Dq K F H v (.list ds)) : ∃ a vs, v = .ref a ∧ SqL K H a vs ∧ Da F vs ds := by
  rcases h with h | ⟨a, vs, es, rfl, e2, h1, h2⟩
  · cases h with
    | lst s a => exact ⟨_, _, rfl, SqL.of (e _ _ s), a⟩
  · cases e2
    exact ⟨a, vs, rfl, h1, h2⟩
theorem Dq.tup {K : Frg} {F H : Hp} {v : V} {ds : List D} (e : Same F H) (h : Dq K F H v (.tuple ds)) : ∃ a vs, v = .ref a ∧ H a = some (.tup vs) ∧ F a = some (.tup vs) ∧ Da F vs ds := by
  rcases h with h | ⟨a, vs, es, rfl, e2, h1, h2⟩
  · cases h with
    | tup s a => exact ⟨_, _, rfl, e _ _ s, s, a⟩
  · cases e2
theorem Dq.int {K : Frg} {F H : Hp} {v : V} {i : Int} (h : Dq K F H v (.int i)) : v = .int i := by
  rcases h with h | ⟨a, vs, ds, rfl, e, h1, h2⟩
  · cases h; rfl
  · cases e
theorem Dq.bl {K : Frg} {F H : Hp} {v : V} {i : Bool} (h : Dq K F H v (.bool i)) : v = .bl i := by
  rcases h with h | ⟨a, vs, ds, rfl, e, h1, h2⟩
  · cases h; rfl
  · cases e
theorem Dq.str {K : Frg} {F H : Hp} {v : V} {i : Str} (h : Dq K F H v (.str i)) : v = .str i := by
  rcases h with h | ⟨a, vs, ds, rfl, e, h1, h2⟩
  · cases h; rfl
  · cases e
theorem Dq.non {K : Frg} {F H : Hp} {v : V} (h : Dq K F H v .none) : v = .non := by
  rcases h with h | ⟨a, vs, ds, rfl, e, h1, h2⟩
  · cases h; rfl
  · cases e
/-! ### judgements -/
abbrev Ef := En → Option (D × En)
abbrev Bf := En → Option (Bool × En)
abbrev Lf := En → Option (List D × En)
def RE (K : Frg) (t : TE) (f : Ef) : Prop := ∀ G F env s H d env', Ok K G F env s H → f env = some (d, env') → ∀ Q : VK, (∀ F' H' v, Ok K G F' env' s H' → Same F F' → Dt F' v d → Q v H') → t s H Q
/-- the value may be one of the def's own lists -/
def RO (K : Frg) (t : TE) (f : Ef) : Prop := ∀ G F env s H d env', Ok K G F env s H → f env = some (d, env') → ∀ Q : VK, (∀ F' H' v, Ok K G F' env' s H' → Same F F' → Dq K F' H' v d → Q v H') → t s H Q
/-- a new list, nobody's yet -/
def RN (K : Frg) (t : TE) (f : Lf) : Prop := ∀ G F env s H ds env', Ok K G F env s H → f env = some (ds, env') → ∀ Q : VK,
  (∀ F' H' p vs, Ok K G F' env' s H' → Same F F' → H' p = some (.lst vs) → F' p = none → G.H0 p = none → G.P p = none → (∀ (j : Nat) l es, env'[j]? = some (.own l es) → s[j]? ≠ some (some (.ref p))) → Da F' vs ds → Q (.ref p) H') → t s H Q
def RB (K : Frg) (t : TT) (f : Bf) : Prop := ∀ G F env s H b env', Ok K G F env s H → f env = some (b, env') → ∀ Q : Bool → Hp → Prop, (∀ F' H', Ok K G F' env' s H' → Same F F' → Q b H') → t s H Q
def RL (K : Frg) (t : TA) (f : Lf) : Prop := ∀ G F env s H ds env', Ok K G F env s H → f env = some (ds, env') → ∀ Q : List V → Hp → Prop, (∀ F' H' vs, Ok K G F' env' s H' → Same F F' → Da F' vs ds → Q vs H') → t s H Q

structure XE (X : Cx) (e : Expr) (f : Ef) : Prop where
  ex : ∃ t, PE X e t ∧ RE X.K t f
structure XO (X : Cx) (e : Expr) (f : Ef) : Prop where
  ex : ∃ t, PE X e t ∧ RO X.K t f
structure XN (X : Cx) (e : Expr) (f : Lf) : Prop where
  ex : ∃ t, PE X e t ∧ RN X.K t f
structure XB (X : Cx) (e : Expr) (f : Bf) : Prop where
  ex : ∃ t, PT X e t ∧ RB X.K t f
structure XW (X : Cx) (e : Expr) (f : Bf) : Prop where
  ex : ∃ t, PW X e t ∧ RB X.K t f
structure XL (X : Cx) (es : List Expr) (f : Lf) : Prop where
  ex : ∃ t, PA X es t ∧ RL X.K t f
theorem RE.ro {K : Frg} {t : TE} {f : Ef} (h : RE K t f) : RO K t f := fun G F env s H d env' k e Q q => h G F env s H d env' k e Q fun F' H' v k' s' p => q F' H' v k' s' (.inl p)
theorem XE.xo {X : Cx} {e : Expr} {f : Ef} (h : XE X e f) : XO X e f := let ⟨t, h1, h2⟩ := h.ex; ⟨t, h1, h2.ro⟩
def eFz (f : Lf) : Ef := fun env => (f env).map fun r => (.list r.1, r.2)
theorem RN.re {K : Frg} {t : TE} {f : Lf} (h : RN K t f) : RE K t (eFz f) := fun G F env s H d env' k e Q q => by
  unfold eFz at e
  obtain ⟨⟨ds, e1⟩, e2, e3⟩ := Option.map_eq_some_iff.mp e
  cases e3
  refine h G F env s H ds _ k e2 Q fun F' H' p vs k' s' h1 h2 h3 _ h4 h5 => ?_
  exact q (upd F' p (.lst vs)) H' (.ref p) (k'.freeze h1 h2 h3 h4 (k'.notdctL h1)) (s'.trans (same_upd h2)) (.lst upd_same (Da.mono (same_upd h2) ds vs h5))
theorem XN.xe {X : Cx} {e : Expr} {f : Lf} (h : XN X e f) : XE X e (eFz f) := let ⟨t, h1, h2⟩ := h.ex; ⟨t, h1, h2.re⟩
end M

namespace M
open PySem PySem.Spec PyProof.Rows L2

/-! ### names, constants -/
def eV (i : Nat) : Ef := fun env => match env[i]? with
  | some (.val d) => some (d, env)
  | _ => none
def eO (i : Nat) : Ef := fun env => match env[i]? with
  | some (.val d) => some (d, env)
  | some (.own _ ds) => some (.list ds, env)
  | some (.ro ds) => some (.list ds, env)
  | _ => none
def eC (d : D) : Ef := fun env => some (d, env)
section
variable {X : Cx} {a b c e : Expr} {es : List Expr} {f fa fb fc : Ef} {pos : Pos}
theorem re_var {K : Frg} (i : Nat) : RE K (tVar i) (eV i) := fun G F env s H d env' k e Q q => by
  unfold eV at e
  split at e
  · rename_i d' h
    cases e
    obtain ⟨v, h1, h2⟩ := k.val i _ h
    exact ⟨v, h1, q F H v k (Same.refl F) h2⟩
  · cases e
theorem ro_var {K : Frg} (i : Nat) : RO K (tVar i) (eO i) := fun G F env s H d env' k e Q q => by
  unfold eO at e
  split at e
  · rename_i d' h
    cases e
    obtain ⟨v, h1, h2⟩ := k.val i _ h
    exact ⟨v, h1, q F H v k (Same.refl F) (.inl h2)⟩
  · rename_i l ds h
    cases e
    obtain ⟨p, vs, h1, h2, h3, h4, h5, _⟩ := k.own i l ds h
    exact ⟨_, h1, q F H _ k (Same.refl F) (.inr ⟨p, vs, ds, rfl, rfl, SqL.of h2, h5⟩)⟩
  · rename_i ds h
    cases e
    obtain ⟨p, vs, h1, h2, h3⟩ := k.ro i ds h
    exact ⟨_, h1, q F H _ k (Same.refl F) (.inr ⟨p, vs, ds, rfl, rfl, (k.rin.trans k.pin).seq h2, h3⟩)⟩
  · cases e
theorem xv (i : Nat) {x : Str} {pos : Pos} (hN : X.N[i]? = some x := by rfl) (hv : Vis X.env.scope x := by first | exact Or.inl rfl | exact Or.inr (Or.inl rfl) | exact Or.inr (Or.inr rfl)) (hd : (x == ("__debug__" : Str)) = false := by decide)
    (hcd : (x == ("__classdict__" : Str)) = false := by decide) : XE X (.Name x pos) (eV i) := ⟨_, pe_var hN hv hd hcd, re_var i⟩
theorem xvo (i : Nat) {x : Str} {pos : Pos} (hN : X.N[i]? = some x := by rfl) (hv : Vis X.env.scope x := by first | exact Or.inl rfl | exact Or.inr (Or.inl rfl) | exact Or.inr (Or.inr rfl)) (hd : (x == ("__debug__" : Str)) = false := by decide)
    (hcd : (x == ("__classdict__" : Str)) = false := by decide) : XO X (.Name x pos) (eO i) := ⟨_, pe_var hN hv hd hcd, ro_var i⟩
theorem re_c {K : Frg} {v : V} {d : D} (h : ∀ F, Dt F v d) : RE K (tC v) (eC d) := fun G F env s H d' env' k e Q q => by
  cases e
  exact q F H v k (Same.refl F) (h F)
theorem xe_int {i j pos} : XE X (.Constant (.int i) j pos) (eC (.int i)) := ⟨_, pe_int, re_c fun _ => .int i⟩
theorem xe_bl {b j pos} : XE X (.Constant (.bool b) j pos) (eC (.bool b)) := ⟨_, pe_bl, re_c fun _ => .bl b⟩
theorem xe_non {j pos} : XE X (.Constant .none j pos) (eC .none) := ⟨_, pe_non, re_c fun _ => .non⟩
theorem xe_str {x j pos} : XE X (.Constant (.str x) j pos) (eC (.str x)) := ⟨_, pe_str, re_c fun _ => .str x⟩
/-- a module's constant that is an int or a text -/
theorem xe_glob {x : Str} {v : V} {d : D} {u : Value} {pos : Pos} (hg : Gl X x) (hm : X.mg x = some u) (r : RelV v u) (h : ∀ F, Dt F v d) (hd : (x == ("__debug__" : Str)) = false := by decide) : XE X (.Name x pos) (eC d) :=
  ⟨_, pe_glob hg hm r hd, re_c h⟩

/-! ### two places -/
def GO (K : Frg) (r : R2) (g : D → D → Option D) : Prop := ∀ G F env s H x y d e z, Ok K G F env s H → Dt F x d → Dt F y e → g d e = some z → ∀ Q : VK, (∀ F' H' v, Ok K G F' env s H' → Same F F' → Dt F' v z → Q v H') → r x y H Q
def GQ (K : Frg) (r : R2) (g : D → D → Option D) : Prop := ∀ G F env s H x y d e z, Ok K G F env s H → Dq K F H x d → Dq K F H y e → g d e = some z → ∀ Q : VK, (∀ F' H' v, Ok K G F' env s H' → Same F F' → Dt F' v z → Q v H') → r x y H Q
theorem GQ.go {K : Frg} {r : R2} {g : D → D → Option D} (h : GQ K r g) : GO K r g := fun G F env s H x y d e z k h1 h2 h3 Q q => h G F env s H x y d e z k (.inl h1) (.inl h2) h3 Q q
def eBin (g : D → D → Option D) (fa fb : Ef) : Ef := fun env => (fa env).bind fun r => (fb r.2).bind fun q => (g r.1 q.1).map fun d => (d, q.2)
theorem bin_some {g : D → D → Option D} {fa fb : Ef} {env env' : En} {d : D} (e : eBin g fa fb env = some (d, env')) : ∃ d1 e1 d2, fa env = some (d1, e1) ∧ fb e1 = some (d2, env') ∧ g d1 d2 = some d := by
  unfold eBin at e
  obtain ⟨⟨d1, e1⟩, h1, e⟩ := Option.bind_eq_some_iff.mp e
  obtain ⟨⟨d2, e2⟩, h2, e⟩ := Option.bind_eq_some_iff.mp e
  obtain ⟨z, h3, e⟩ := Option.map_eq_some_iff.mp e
  cases e
  exact ⟨d1, e1, d2, h1, h2, h3⟩
theorem re_bin {K : Frg} {r : R2} {g : D → D → Option D} {ta tb : TE} (ho : GO K r g) (ha : RE K ta fa) (hb : RE K tb fb) : RE K (tOp r ta tb) (eBin g fa fb) := fun G F env s H d env' k e Q q => by
  obtain ⟨d1, e1, d2, h1, h2, h3⟩ := bin_some e
  refine ha G F env s H d1 e1 k h1 _ fun F1 H1 v1 k1 s1 p1 => ?_
  refine hb G F1 e1 s H1 d2 env' k1 h2 _ fun F2 H2 v2 k2 s2 p2 => ?_
  exact ho G F2 env' s H2 v1 v2 d1 d2 d k2 (Dt.mono s2 d1 v1 p1) p2 h3 Q fun F3 H3 v3 k3 s3 p3 => q F3 H3 v3 k3 ((s1.trans s2).trans s3) p3
theorem Dq.up {K : Frg} {F F' H : Hp} {v : V} {d : D} (e : Same F F') (h : Dq K F H v d) : Dq K F' H v d := by
  rcases h with h | ⟨a, vs, ds, h1, h2, h3, h4⟩
  · exact .inl (Dt.mono e d v h)
  · exact .inr ⟨a, vs, ds, h1, h2, h3, Da.mono e ds vs h4⟩
/-- the first one a name -/
def eBinV (g : D → D → Option D) (i : Nat) (fb : Ef) : Ef := fun env => (eO i env).bind fun _ => (fb env).bind fun q => (eO i q.2).bind fun r => (g r.1 q.1).map fun d => (d, q.2)
theorem dq_slot {K : Frg} {G : Gm} {F : Hp} {env env' : En} {s : L2.St} {H : Hp} {i : Nat} {d : D} (k : Ok K G F env s H) (e : eO i env = some (d, env')) : ∃ v, s[i]? = some (some v) ∧ Dq K F H v d := by
  unfold eO at e
  split at e
  · rename_i d' h
    cases e
    obtain ⟨v, h1, h2⟩ := k.val i _ h
    exact ⟨v, h1, .inl h2⟩
  · rename_i l ds h
    cases e
    obtain ⟨p, vs, h1, h2, h3, h4, h5, _⟩ := k.own i l ds h
    exact ⟨_, h1, .inr ⟨p, vs, ds, rfl, rfl, SqL.of h2, h5⟩⟩
  · rename_i ds h
    cases e
    obtain ⟨p, vs, h1, h2, h3⟩ := k.ro i ds h
    exact ⟨_, h1, .inr ⟨p, vs, ds, rfl, rfl, (k.rin.trans k.pin).seq h2, h3⟩⟩
  · cases e
/-- the first operand a name whose list may be the def's own -/
theorem re_binV {K : Frg} {r : R2} {g : D → D → Option D} {tb : TE} {i : Nat} (ho : GQ K r g) (hb : RE K tb fb) : RE K (tOp r (tVar i) tb) (eBinV g i fb) := fun G F env s H d env' k e Q q => by
  unfold eBinV at e
  obtain ⟨⟨d0, e0⟩, h0, e⟩ := Option.bind_eq_some_iff.mp e
  obtain ⟨⟨d2, e2⟩, h2, e⟩ := Option.bind_eq_some_iff.mp e
  obtain ⟨⟨d1, e1⟩, h1, e⟩ := Option.bind_eq_some_iff.mp e
  obtain ⟨z, h3, e⟩ := Option.map_eq_some_iff.mp e
  cases e
  obtain ⟨v, hv, _⟩ := dq_slot k h0
  refine ⟨v, hv, ?_⟩
  refine hb G F env s H d2 e2 k h2 _ fun F2 H2 v2 k2 s2 p2 => ?_
  obtain ⟨v', hv', hd⟩ := dq_slot k2 h1
  rw [hv] at hv'
  cases hv'
  exact ho G F2 e2 s H2 v v2 d1 d2 d k2 hd (.inl p2) h3 Q fun F3 H3 v3 k3 s3 p3 => q F3 H3 v3 k3 (s2.trans s3) p3
end
end M

namespace M
open PySem PySem.Spec PyProof.Rows L2

/-! ### operators -/
def fits (n : Nat) : Bool := decide (n ≤ 16777216)
theorem fits_line {n : Nat} (h : fits n = true) : n ≤ sizeLine := by rw [sizeLine_eq]; exact of_decide_eq_true h
def gAdd : D → D → Option D
  | .int i, .int j => some (.int (i + j))
  | .str x, .str y => if fits (x.length + y.length) then some (.str (x ++ y)) else none
  | .list xs, .list ys => if fits (xs.length + ys.length) then some (.list (xs ++ ys)) else none
  | .tuple xs, .tuple ys => if fits (xs.length + ys.length) then some (.tuple (xs ++ ys)) else none
  | _, _ => none
def gSub : D → D → Option D
  | .int i, .int j => some (.int (i - j))
  | _, _ => none
/-- a product that the model surely makes -/
def mulOk (i j : Int) : Bool := decide (i.natAbs < 2 ^ 64) || decide (j.natAbs < 2 ^ 64) || (decide (i.natAbs < 10 ^ 250 * 10 ^ 250) && decide (j.natAbs < 10 ^ 250 * 10 ^ 250))
theorem mulOk.ok {i j : Int} (h : mulOk i j = true) : IntMulOk i j := by
  unfold mulOk at h
  simp only [Bool.or_eq_true, Bool.and_eq_true, decide_eq_true_eq] at h
  rcases h with (h | h) | ⟨h1, h2⟩
  · exact CMul.ok (.inl (by omega))
  · exact CMul.ok (.inr (by omega))
  · have h8 : (10 ^ 250 * 10 ^ 250 : Nat) ≤ 2 ^ 1700 := by decide +kernel
    exact CMulW.ok (wide_mul (a := 1700) (b := 1700) (Nat.lt_of_lt_of_le h1 h8) (Nat.lt_of_lt_of_le h2 h8) (by decide) (by decide) (by decide))
def gMul : D → D → Option D
  | .int i, .int j => if mulOk i j then some (.int (i * j)) else none
  | .list xs, .int k => if decide (0 ≤ k) && decide (k < 1000000) && fits (xs.length * k.toNat) then some (.list (List.replicate k.toNat xs).flatten) else none
  | _, _ => none
def divOk (j : Int) : Bool := decide (0 < j) && decide (j < 10 ^ 250 * 10 ^ 250)
def gDiv : D → D → Option D
  | .int i, .int j => if divOk j then some (.int (i / j)) else none
  | _, _ => none
def gMod : D → D → Option D
  | .int i, .int j => if decide (0 < j) then some (.int (i % j)) else none
  | _, _ => none
def gPow : D → D → Option D
  | .int i, .int j => if decide (0 ≤ j) && decide (j ≤ 1000000) && decide (i.natAbs < 2 ^ 64) then some (.int (i ^ j.toNat)) else none
  | _, _ => none
theorem GO.intro {K : Frg} {r : R2} {g : D → D → Option D} (h : ∀ G F env s H x y d e z, Ok K G F env s H → Dt F x d → Dt F y e → g d e = some z → ∀ Q : VK, (∀ F' H' v, Ok K G F' env s H' → Same F F' → Dt F' v z → Q v H') → r x y H Q) : GO K r g := h

def rMulI : R2 := fun x y H Q => ∃ i j, x = .int i ∧ y = .int j ∧ IntMulOk i j ∧ Q (.int (i * j)) H
section
variable {X : Cx}
theorem op_mulI : OpR X (binaryOp .Mult) rMulI := by
  intro pins s σ H x y v u Q I rx ry h
  obtain ⟨i, j, rfl, rfl, hc, q⟩ := h
  obtain ⟨t, rfl⟩ := rx
  obtain ⟨t', rfl⟩ := ry
  exact mul_int ⟨.int (i * j), H, I.tok _, ⟨_, rfl⟩, q⟩ hc
def rAddA (K : Frg) : R2 := fun x y H Q => (rI0 fun i j => .int (i + j)) x y H Q ∨ (∃ i j, x = .str i ∧ y = .str j ∧ i.length + j.length ≤ sizeLine ∧ Q (.str (i ++ j)) H) ∨ rCat x y H Q ∨ rCatA K x y H Q
theorem op_addA : OpR X (binaryOp .Add) (rAddA X.K) := op_add.or (op_add_str.or (op_cat.or op_catA))
theorem go_add {K : Frg} : GO K (rAddA K) gAdd := by
  intro G F env s H x y d e z k h1 h2 h3 Q q
  unfold gAdd at h3
  split at h3
  · cases h1; cases h2; cases h3
    exact .inl ⟨_, _, rfl, rfl, q F H _ k (Same.refl F) (.int _)⟩
  · split at h3
    · rename_i hf
      cases h1; cases h2; cases h3
      exact .inr (.inl ⟨_, _, rfl, rfl, fits_line hf, q F H _ k (Same.refl F) (.str _)⟩)
    · cases h3
  · split at h3
    · rename_i hf
      cases h3
      cases h1 with
      | lst a1 b1 =>
        cases h2 with
        | lst a2 b2 =>
          refine .inr (.inr (.inl ⟨_, _, _, _, rfl, rfl, k.fr _ _ a1, k.fr _ _ a2, by rw [b1.length, b2.length]; exact fits_line hf, fun p hp => ?_⟩))
          exact q _ _ _ (k.alloc hp) (same_upd (k.fr.free hp)) (.lst upd_same (Da.mono (same_upd (k.fr.free hp)) _ _ (b1.append b2)))
    · cases h3
  · split at h3
    · rename_i hf
      cases h3
      cases h1 with
      | tup a1 b1 =>
        cases h2 with
        | tup a2 b2 =>
          refine .inr (.inr (.inr ⟨_, _, _, _, rfl, rfl, SqT.of (k.fr _ _ a1), SqT.of (k.fr _ _ a2), by rw [b1.length, b2.length]; exact fits_line hf, fun e0 => ?_, fun _ e0 => ?_, fun _ _ p hp => ?_⟩))
          · subst e0; cases b1
            exact q F H _ k (Same.refl F) (.tup a2 b2)
          · subst e0; cases b2
            rw [List.append_nil] at *
            exact q F H _ k (Same.refl F) (.tup a1 b1)
          · exact q _ _ _ (k.alloc hp) (same_upd (k.fr.free hp)) (.tup upd_same (Da.mono (same_upd (k.fr.free hp)) _ _ (b1.append b2)))
    · cases h3
  · cases h3
theorem go_sub {K : Frg} : GO K (rI0 fun i j => .int (i - j)) gSub := by
  intro G F env s H x y d e z k h1 h2 h3 Q q
  unfold gSub at h3
  split at h3
  · cases h1; cases h2; cases h3
    exact ⟨_, _, rfl, rfl, q F H _ k (Same.refl F) (.int _)⟩
  · cases h3
def rMulA : R2 := fun x y H Q => rMulI x y H Q ∨ rRep x y H Q
theorem op_mulA : OpR X (binaryOp .Mult) rMulA := op_mulI.or op_rep
theorem Da.rep {F : Hp} {ds : List D} {vs : List V} (h : Da F vs ds) : ∀ n : Nat, Da F (List.replicate n vs).flatten (List.replicate n ds).flatten
  | 0 => .nil
  | n + 1 => by
    rw [List.replicate_succ, List.replicate_succ, List.flatten_cons, List.flatten_cons]
    exact h.append (Da.rep h n)
theorem go_mul {K : Frg} : GO K rMulA gMul := by
  intro G F env s H x y d e z k h1 h2 h3 Q q
  unfold gMul at h3
  split at h3
  · split at h3
    · rename_i hf
      cases h1; cases h2; cases h3
      exact .inl ⟨_, _, rfl, rfl, mulOk.ok hf, q F H _ k (Same.refl F) (.int _)⟩
    · cases h3
  · split at h3
    · rename_i hf
      cases h3
      simp only [Bool.and_eq_true, decide_eq_true_eq] at hf
      cases h2
      cases h1 with
      | lst a1 b1 =>
        refine .inr ⟨_, _, _, rfl, rfl, k.fr _ _ a1, by omega, by omega, by rw [b1.length]; exact fits_line hf.2, fun p hp => ?_⟩
        exact q _ _ _ (k.alloc hp) (same_upd (k.fr.free hp)) (.lst upd_same (Da.mono (same_upd (k.fr.free hp)) _ _ (Da.rep b1 _)))
    · cases h3
  · cases h3
theorem go_div {K : Frg} : GO K (rI CDivW fun i j => .int (i / j)) gDiv := by
  intro G F env s H x y d e z k h1 h2 h3 Q q
  unfold gDiv at h3
  split at h3
  · split at h3
    · rename_i hf
      cases h1; cases h2; cases h3
      unfold divOk at hf
      simp only [Bool.and_eq_true, decide_eq_true_eq] at hf
      refine ⟨_, _, rfl, rfl, wide_div (b := 1700) hf.1 ?_ (by decide) (by decide), q F H _ k (Same.refl F) (.int _)⟩
      have h8 : (10 ^ 250 * 10 ^ 250 : Nat) ≤ 2 ^ 1700 := by decide +kernel
      have h9 := hf.2
      omega
    · cases h3
  · cases h3
theorem go_mod {K : Frg} : GO K (rI (fun _ j => 0 < j) fun i j => .int (i % j)) gMod := by
  intro G F env s H x y d e z k h1 h2 h3 Q q
  unfold gMod at h3
  split at h3
  · split at h3
    · rename_i hf
      cases h1; cases h2; cases h3
      exact ⟨_, _, rfl, rfl, of_decide_eq_true hf, q F H _ k (Same.refl F) (.int _)⟩
    · cases h3
  · cases h3
theorem go_pow {K : Frg} : GO K (rI CPow fun i j => .int (i ^ j.toNat)) gPow := by
  intro G F env s H x y d e z k h1 h2 h3 Q q
  unfold gPow at h3
  split at h3
  · split at h3
    · rename_i hf
      cases h1; cases h2; cases h3
      simp only [Bool.and_eq_true, decide_eq_true_eq] at hf
      exact ⟨_, _, rfl, rfl, ⟨hf.1.1, hf.1.2, hf.2⟩, q F H _ k (Same.refl F) (.int _)⟩
    · cases h3
  · cases h3
variable {a b c e : Expr} {f fa fb fc : Ef} {pos : Pos}
theorem xe_op {op : Operator} {r : R2} {g : D → D → Option D} (ho : OpR X (binaryOp op) r) (hg : GO X.K r g) (ha : XE X a fa) (hb : XE X b fb) : XE X (.BinOp a op b pos) (eBin g fa fb) :=
  let ⟨_, h1, h2⟩ := ha.ex; let ⟨_, h3, h4⟩ := hb.ex; ⟨_, pe_op ho h1 h3, re_bin hg h2 h4⟩
theorem xe_add (ha : XE X a fa) (hb : XE X b fb) : XE X (.BinOp a .Add b pos) (eBin gAdd fa fb) := xe_op op_addA go_add ha hb
theorem xe_sub (ha : XE X a fa) (hb : XE X b fb) : XE X (.BinOp a .Sub b pos) (eBin gSub fa fb) := xe_op op_sub go_sub ha hb
theorem xe_mul (ha : XE X a fa) (hb : XE X b fb) : XE X (.BinOp a .Mult b pos) (eBin gMul fa fb) := xe_op op_mulA go_mul ha hb
theorem xe_div (ha : XE X a fa) (hb : XE X b fb) : XE X (.BinOp a .FloorDiv b pos) (eBin gDiv fa fb) := xe_op op_fdivW go_div ha hb
theorem xe_mod (ha : XE X a fa) (hb : XE X b fb) : XE X (.BinOp a .Mod b pos) (eBin gMod fa fb) := xe_op op_mod go_mod ha hb
theorem xe_pow (ha : XE X a fa) (hb : XE X b fb) : XE X (.BinOp a .Pow b pos) (eBin gPow fa fb) := xe_op op_pow go_pow ha hb
/-! ### one place -/
def GU (K : Frg) (r : V → Hp → VK → Prop) (g : D → Option D) : Prop := ∀ G F env s H x d z, Ok K G F env s H → Dq K F H x d → g d = some z → ∀ Q : VK, (∀ F' H' v, Ok K G F' env s H' → Same F F' → Dt F' v z → Q v H') → r x H Q
def eUn (g : D → Option D) (fa : Ef) : Ef := fun env => (fa env).bind fun r => (g r.1).map fun d => (d, r.2)
theorem un_some {g : D → Option D} {fa : Ef} {env env' : En} {d : D} (e : eUn g fa env = some (d, env')) : ∃ d1, fa env = some (d1, env') ∧ g d1 = some d := by
  unfold eUn at e
  obtain ⟨⟨d1, e1⟩, h1, e⟩ := Option.bind_eq_some_iff.mp e
  obtain ⟨z, h3, e⟩ := Option.map_eq_some_iff.mp e
  cases e
  exact ⟨d1, h1, h3⟩
theorem re_un {K : Frg} {r : V → Hp → VK → Prop} {g : D → Option D} {ta : TE} (ho : GU K r g) (ha : RO K ta fa) : RE K (tUn r ta) (eUn g fa) := fun G F env s H d env' k e Q q => by
  obtain ⟨d1, h1, h3⟩ := un_some e
  refine ha G F env s H d1 env' k h1 _ fun F1 H1 v1 k1 s1 p1 => ?_
  exact ho G F1 env' s H1 v1 d1 d k1 p1 h3 Q fun F3 H3 v3 k3 s3 p3 => q F3 H3 v3 k3 (s1.trans s3) p3
def gNeg : D → Option D
  | .int i => some (.int (-i))
  | _ => none
theorem gu_neg {K : Frg} : GU K (rU fun i => .int (-i)) gNeg := by
  intro G F env s H x d z k h1 h3 Q q
  unfold gNeg at h3
  split at h3
  · cases h3
    exact ⟨_, h1.int, q F H _ k (Same.refl F) (.int _)⟩
  · cases h3
theorem xe_neg (ha : XE X a fa) : XE X (.UnaryOp .USub a pos) (eUn gNeg fa) :=
  let ⟨_, h1, h2⟩ := ha.ex; ⟨_, pe_un un_neg h1, re_un gu_neg h2.ro⟩

/-! ### comparisons -/
def gLt : D → D → Option D
  | .int i, .int j => some (.bool (decide (i < j)))
  | _, _ => none
def gLe : D → D → Option D
  | .int i, .int j => some (.bool (decide (i ≤ j)))
  | _, _ => none
def gGt : D → D → Option D
  | .int i, .int j => some (.bool (decide (j < i)))
  | _, _ => none
def gGe : D → D → Option D
  | .int i, .int j => some (.bool (decide (j ≤ i)))
  | _, _ => none
theorem gq_lt {K : Frg} : GQ K (rI0 fun i j => .bl (decide (i < j))) gLt := by
  intro G F env s H x y d e z k h1 h2 h3 Q q
  unfold gLt at h3
  split at h3
  · cases h3; exact ⟨_, _, h1.int, h2.int, q F H _ k (Same.refl F) (.bl _)⟩
  · cases h3
theorem gq_le {K : Frg} : GQ K (rI0 fun i j => .bl (decide (i ≤ j))) gLe := by
  intro G F env s H x y d e z k h1 h2 h3 Q q
  unfold gLe at h3
  split at h3
  · cases h3; exact ⟨_, _, h1.int, h2.int, q F H _ k (Same.refl F) (.bl _)⟩
  · cases h3
theorem gq_gt {K : Frg} : GQ K (rI0 fun i j => .bl (decide (j < i))) gGt := by
  intro G F env s H x y d e z k h1 h2 h3 Q q
  unfold gGt at h3
  split at h3
  · cases h3; exact ⟨_, _, h1.int, h2.int, q F H _ k (Same.refl F) (.bl _)⟩
  · cases h3
theorem gq_ge {K : Frg} : GQ K (rI0 fun i j => .bl (decide (j ≤ i))) gGe := by
  intro G F env s H x y d e z k h1 h2 h3 Q q
  unfold gGe at h3
  split at h3
  · cases h3; exact ⟨_, _, h1.int, h2.int, q F H _ k (Same.refl F) (.bl _)⟩
  · cases h3
def shp (d : D) : Bool := SeqAt.shaped d
def gEq (d e : D) : Option D := if shp d && shp e then some (.bool (PyData.eqv d e)) else none
def gNe (d e : D) : Option D := if shp d && shp e then some (.bool (!PyData.eqv d e)) else none
theorem gq_eq {K : Frg} : GQ K (rEqD K) gEq := by
  intro G F env s H x y d e z k h1 h2 h3 Q q
  unfold gEq at h3
  split at h3
  · rename_i hf
    cases h3
    rw [Bool.and_eq_true] at hf
    exact ⟨d, e, h1.dp k.fr (nd_sh hf.1), h2.dp k.fr (nd_sh hf.2), hf.1, hf.2, q F H _ k (Same.refl F) (.bl _)⟩
  · cases h3
theorem gq_ne {K : Frg} : GQ K (rNeD K) gNe := by
  intro G F env s H x y d e z k h1 h2 h3 Q q
  unfold gNe at h3
  split at h3
  · rename_i hf
    cases h3
    rw [Bool.and_eq_true] at hf
    exact ⟨d, e, h1.dp k.fr (nd_sh hf.1), h2.dp k.fr (nd_sh hf.2), hf.1, hf.2, q F H _ k (Same.refl F) (.bl _)⟩
  · cases h3
def bV (f : Ef) : Bf := fun env => (f env).bind fun r => match r.1 with
  | .bool b => some (b, r.2)
  | _ => none
theorem bV_some {f : Ef} {env env' : En} {b : Bool} (e : bV f env = some (b, env')) : f env = some (.bool b, env') := by
  unfold bV at e
  obtain ⟨⟨d1, e1⟩, h1, e⟩ := Option.bind_eq_some_iff.mp e
  cases d1 <;> first | (cases e; exact h1) | cases e
theorem rb_test {K : Frg} {t : TE} {f : Ef} (h : RE K t f) : RB K (tTest t) (bV f) := fun G F env s H b env' k e Q q =>
  h G F env s H _ env' k (bV_some e) _ fun F' H' v k' s' p => by cases p; exact ⟨b, rfl, q F' H' k' s'⟩
theorem rb_tB {K : Frg} {t : TE} {f : Ef} (h : RE K t f) : RB K (tB t) (bV f) := fun G F env s H b env' k e Q q =>
  h G F env s H _ env' k (bV_some e) _ fun F' H' v k' s' p => by cases p; exact ⟨b, rfl, q F' H' k' s'⟩
/-- an expression that is True or False, as a test -/
theorem xb_val (h : XE X a fa) (he : ∀ whole, isTrue a X.env whole = (do let v ← whole; standAt a.pos; holding [v] (truthy v)) := by intro _; rfl) : XB X a (bV fa) :=
  let ⟨_, h1, h2⟩ := h.ex; ⟨_, pt_val h1 he, rb_tB h2⟩
section
variable {op : CmpOp} {r : R2} {g : D → D → Option D}
theorem xe_cmp (ho : OpR X (compareOp op) r) (hg : GQ X.K r g) (ha : XE X a fa) (hb : XE X b fb) (hm : behindInMarks op b = false) : XE X (.Compare a [op] [b] pos) (eBin g fa fb) :=
  let ⟨_, h1, h2⟩ := ha.ex; let ⟨_, h3, h4⟩ := hb.ex; ⟨_, pe_cmpR ho h1 h3 hm, re_bin hg.go h2 h4⟩
theorem xb_cmp (ho : OpR X (compareOp op) r) (hg : GQ X.K r g) (ha : XE X a fa) (hb : XE X b fb) (hm : behindInMarks op b = false) : XB X (.Compare a [op] [b] pos) (bV (eBin g fa fb)) :=
  let ⟨_, h1, h2⟩ := ha.ex; let ⟨_, h3, h4⟩ := hb.ex; ⟨_, pt_cmpR ho h1 h3 hm, rb_test (re_bin hg.go h2 h4)⟩
/-- a op b op' c -/
def eChain (g g' : D → D → Option D) (fa fb fc : Ef) : Ef := fun env => (fa env).bind fun r => (fb r.2).bind fun q => (g r.1 q.1).bind fun z => match z with
  | .bool true => (fc q.2).bind fun w => (g' q.1 w.1).map fun d => (d, w.2)
  | .bool false => some (.bool false, q.2)
  | _ => none
theorem re_chain {K : Frg} {r' : R2} {g' : D → D → Option D} {ta tb tc : TE} (ho : GQ K r g) (ho' : GQ K r' g') (ha : RE K ta fa) (hb : RE K tb fb) (hc : RE K tc fc) : RE K (tChain r r' ta tb tc) (eChain g g' fa fb fc) := fun G F env s H d env' k e Q q => by
  unfold eChain at e
  obtain ⟨⟨d1, e1⟩, h1, e⟩ := Option.bind_eq_some_iff.mp e
  obtain ⟨⟨d2, e2⟩, h2, e⟩ := Option.bind_eq_some_iff.mp e
  obtain ⟨z, h3, e⟩ := Option.bind_eq_some_iff.mp e
  refine ha G F env s H d1 e1 k h1 _ fun F1 H1 v1 k1 s1 p1 => ?_
  refine hb G F1 e1 s H1 d2 e2 k1 h2 _ fun F2 H2 v2 k2 s2 p2 => ?_
  refine ho.go G F2 e2 s H2 v1 v2 d1 d2 z k2 (Dt.mono s2 d1 v1 p1) p2 h3 _ fun F3 H3 v3 k3 s3 p3 => ?_
  split at e
  · cases p3
    refine ⟨true, rfl, ?_⟩
    rw [if_pos rfl]
    obtain ⟨⟨d4, e4⟩, h4, e⟩ := Option.bind_eq_some_iff.mp e
    obtain ⟨w, h5, e⟩ := Option.map_eq_some_iff.mp e
    cases e
    refine hc G F3 e2 s H3 d4 e4 k3 h4 _ fun F4 H4 v4 k4 s4 p4 => ?_
    exact ho'.go G F4 e4 s H4 v2 v4 d2 d4 _ k4 (Dt.mono (s3.trans s4) d2 v2 p2) p4 h5 Q fun F5 H5 v5 k5 s5 p5 => q F5 H5 v5 k5 ((((s1.trans s2).trans s3).trans s4).trans s5) p5
  · cases p3
    cases e
    refine ⟨false, rfl, ?_⟩
    rw [if_neg Bool.false_ne_true]
    exact q F3 H3 _ k3 ((s1.trans s2).trans s3) (.bl _)
  · cases e
theorem xb_chain {op' : CmpOp} {r' : R2} {g' : D → D → Option D} (ho : OpR X (compareOp op) r) (hg : GQ X.K r g) (ho' : OpR X (compareOp op') r') (hg' : GQ X.K r' g') (ha : XE X a fa) (hb : XE X b fb) (hc : XE X c fc)
    (hm : lastMarks [op, op'] [b, c] = false := by with_unfolding_all rfl) : XB X (.Compare a [op, op'] [b, c] pos) (bV (eChain g g' fa fb fc)) :=
  let ⟨_, h1, h2⟩ := ha.ex; let ⟨_, h3, h4⟩ := hb.ex; let ⟨_, h5, h6⟩ := hc.ex; ⟨_, pt_chain ho ho' h1 h3 h5 hm, rb_test (re_chain hg hg' h2 h4 h6)⟩
end
/-! in, not in -/
end
end M

namespace M
open PySem PySem.Spec PyProof.Rows L2
section
variable {X : Cx} {a b c e : Expr} {es : List Expr} {f fa fb fc : Ef} {ga gb gc : Bf} {pos : Pos} {K : Frg}

/-! ### and, or, not, if-expressions -/
def bAnd (p q : Bf) : Bf := fun env => (p env).bind fun r => if r.1 then q r.2 else some (false, r.2)
def bOr (p q : Bf) : Bf := fun env => (p env).bind fun r => if r.1 then some (true, r.2) else q r.2
def bNot (p : Bf) : Bf := fun env => (p env).map fun r => (!r.1, r.2)
theorem rb_and {t u : TT} (h1 : RB K t ga) (h2 : RB K u gb) : RB K (tAnd t u) (bAnd ga gb) := fun G F env s H b env' k e Q q => by
  unfold bAnd at e
  obtain ⟨⟨c, e1⟩, h3, e⟩ := Option.bind_eq_some_iff.mp e
  refine h1 G F env s H c e1 k h3 _ fun F1 H1 k1 s1 => ?_
  cases c with
  | true =>
    rw [if_pos rfl] at e ⊢
    exact h2 G F1 e1 s H1 b env' k1 e Q fun F2 H2 k2 s2 => q F2 H2 k2 (s1.trans s2)
  | false =>
    rw [if_neg Bool.false_ne_true] at e ⊢
    cases e
    exact q F1 H1 k1 s1
theorem rb_or {t u : TT} (h1 : RB K t ga) (h2 : RB K u gb) : RB K (tOr t u) (bOr ga gb) := fun G F env s H b env' k e Q q => by
  unfold bOr at e
  obtain ⟨⟨c, e1⟩, h3, e⟩ := Option.bind_eq_some_iff.mp e
  refine h1 G F env s H c e1 k h3 _ fun F1 H1 k1 s1 => ?_
  cases c with
  | false =>
    rw [if_neg Bool.false_ne_true] at e ⊢
    exact h2 G F1 e1 s H1 b env' k1 e Q fun F2 H2 k2 s2 => q F2 H2 k2 (s1.trans s2)
  | true =>
    rw [if_pos rfl] at e ⊢
    cases e
    exact q F1 H1 k1 s1
theorem rb_not {t : TT} (h1 : RB K t ga) : RB K (tNot t) (bNot ga) := fun G F env s H b env' k e Q q => by
  unfold bNot at e
  obtain ⟨⟨c, e1⟩, h3, e⟩ := Option.map_eq_some_iff.mp e
  cases e
  exact h1 G F env s H c e1 k h3 _ fun F1 H1 k1 s1 => q F1 H1 k1 s1
theorem xw_and1 (ha : XB X a ga) : XW X (.BoolOp .And [a] pos) ga := let ⟨_, h1, h2⟩ := ha.ex; ⟨_, pw_and1 h1, h2⟩
theorem xw_or1 (ha : XB X a ga) : XW X (.BoolOp .Or [a] pos) ga := let ⟨_, h1, h2⟩ := ha.ex; ⟨_, pw_or1 h1, h2⟩
theorem xw_and {rest : List Expr} (ha : XB X a ga) (hb : XW X (.BoolOp .And (b :: rest) pos) gb) : XW X (.BoolOp .And (a :: b :: rest) pos) (bAnd ga gb) :=
  let ⟨_, h1, h2⟩ := ha.ex; let ⟨_, h3, h4⟩ := hb.ex; ⟨_, pw_and h1 h3, rb_and h2 h4⟩
theorem xw_or {rest : List Expr} (ha : XB X a ga) (hb : XW X (.BoolOp .Or (b :: rest) pos) gb) : XW X (.BoolOp .Or (a :: b :: rest) pos) (bOr ga gb) :=
  let ⟨_, h1, h2⟩ := ha.ex; let ⟨_, h3, h4⟩ := hb.ex; ⟨_, pw_or h1 h3, rb_or h2 h4⟩
theorem xb_w (h : XW X a ga) : XB X a ga := let ⟨_, h1, h2⟩ := h.ex; ⟨_, h1.pt, h2⟩
theorem xb_not (ha : XB X a ga) : XB X (.UnaryOp .Not a pos) (bNot ga) := let ⟨_, h1, h2⟩ := ha.ex; ⟨_, pt_not h1, rb_not h2⟩
def eAnd (fa fb : Ef) : Ef := fun env => (fa env).bind fun r => match r.1 with
  | .bool true => fb r.2
  | .bool false => some (.bool false, r.2)
  | _ => none
def eOr (fa fb : Ef) : Ef := fun env => (fa env).bind fun r => match r.1 with
  | .bool false => fb r.2
  | .bool true => some (.bool true, r.2)
  | _ => none
def eNot (fa : Ef) : Ef := fun env => (fa env).bind fun r => match r.1 with
  | .bool b => some (.bool !b, r.2)
  | _ => none
theorem re_and {ta tb : TE} (h1 : RE K ta fa) (h2 : RE K tb fb) : RE K (tAndV ta tb) (eAnd fa fb) := fun G F env s H d env' k e Q q => by
  unfold eAnd at e
  obtain ⟨⟨c, e1⟩, h3, e⟩ := Option.bind_eq_some_iff.mp e
  refine h1 G F env s H c e1 k h3 _ fun F1 H1 v k1 s1 p1 => ?_
  cases p1 with
  | bl b =>
    refine ⟨b, rfl, ?_⟩
    cases b with
    | true =>
      rw [if_pos rfl]
      exact h2 G F1 e1 s H1 d env' k1 e Q fun F2 H2 v2 k2 s2 p2 => q F2 H2 v2 k2 (s1.trans s2) p2
    | false =>
      rw [if_neg Bool.false_ne_true]
      cases e
      exact q F1 H1 _ k1 s1 (.bl _)
  | _ => cases e
theorem re_not {ta : TE} (h1 : RE K ta fa) : RE K (tNotV ta) (eNot fa) := fun G F env s H d env' k e Q q => by
  unfold eNot at e
  obtain ⟨⟨c, e1⟩, h3, e⟩ := Option.bind_eq_some_iff.mp e
  refine h1 G F env s H c e1 k h3 _ fun F1 H1 v k1 s1 p1 => ?_
  cases p1 with
  | bl b =>
    cases e
    exact ⟨b, rfl, q F1 H1 _ k1 s1 (.bl _)⟩
  | _ => cases e
theorem xe_one {op} (h : XE X a fa) : XE X (.BoolOp op [a] pos) fa := let ⟨_, h1, h2⟩ := h.ex; ⟨_, pe_one h1, h2⟩
theorem xe_and {rest : List Expr} (ha : XE X a fa) (hb : XE X (.BoolOp .And (b :: rest) pos) fb) : XE X (.BoolOp .And (a :: b :: rest) pos) (eAnd fa fb) :=
  let ⟨_, h1, h2⟩ := ha.ex; let ⟨_, h3, h4⟩ := hb.ex; ⟨_, pe_and h1 h3, re_and h2 h4⟩
theorem xe_not (ha : XE X a fa) : XE X (.UnaryOp .Not a pos) (eNot fa) := let ⟨_, h1, h2⟩ := ha.ex; ⟨_, pe_not h1, re_not h2⟩
def eIf (p : Bf) (fa fb : Ef) : Ef := fun env => (p env).bind fun r => if r.1 then fa r.2 else fb r.2
/-! ### argument lists, displays -/
def lNil : Lf := fun env => some ([], env)
def lCons (f : Ef) (g : Lf) : Lf := fun env => (f env).bind fun r => (g r.2).map fun q => (r.1 :: q.1, q.2)
theorem lCons_some {f : Ef} {g : Lf} {env env' : En} {ds : List D} (e : lCons f g env = some (ds, env')) : ∃ d e1 r, f env = some (d, e1) ∧ g e1 = some (r, env') ∧ ds = d :: r := by
  unfold lCons at e
  obtain ⟨⟨d, e1⟩, h1, e⟩ := Option.bind_eq_some_iff.mp e
  obtain ⟨⟨r, e2⟩, h2, e⟩ := Option.map_eq_some_iff.mp e
  cases e
  exact ⟨d, e1, r, h1, h2, rfl⟩
theorem xl_nil : XL X [] lNil := ⟨_, pa_nil, fun G F env s H d env' k e Q q => by cases e; exact q F H [] k (Same.refl F) .nil⟩
theorem xl_cons {g : Lf} (ha : XE X e f) (hr : XL X es g) (hs : starEach (e :: es) X.env = (false, eval e X.env) :: starEach es X.env := by rfl) : XL X (e :: es) (lCons f g) := by
  obtain ⟨ta, h1, h2⟩ := ha.ex
  obtain ⟨tr, h3, h4⟩ := hr.ex
  refine ⟨_, pa_cons h1 h3 hs, fun G F env s H d env' k e Q q => ?_⟩
  obtain ⟨d1, e1, r, h5, h6, rfl⟩ := lCons_some e
  refine h2 G F env s H d1 e1 k h5 _ fun F1 H1 v k1 s1 p1 => ?_
  refine h4 G F1 e1 s H1 r env' k1 h6 _ fun F2 H2 vs k2 s2 p2 => ?_
  exact q F2 H2 _ k2 (s1.trans s2) (.cons (Dt.mono s2 d1 v p1) p2)
def eTup (g : Lf) : Ef := fun env => (g env).bind fun r => if fits r.1.length then some (.tuple r.1, r.2) else none
theorem xe_tup {x1} {g : Lf} (h : XL X es g) : XE X (.Tuple es x1 pos) (eTup g) := by
  obtain ⟨t, h1, h2⟩ := h.ex
  refine ⟨_, pe_tup h1, fun G F env s H d env' k e Q q => ?_⟩
  unfold eTup at e
  obtain ⟨⟨ds, e1⟩, h3, e⟩ := Option.bind_eq_some_iff.mp e
  split at e
  · rename_i hf
    cases e
    refine h2 G F env s H ds _ k h3 _ fun F1 H1 vs k1 s1 p1 => ⟨by rw [p1.length]; exact fits_line hf, fun p hp => ?_⟩
    exact q _ _ _ (k1.alloc hp) (s1.trans (same_upd (k1.fr.free hp))) (.tup upd_same (Da.mono (same_upd (k1.fr.free hp)) _ _ p1))
  · cases e
def lLst (g : Lf) : Lf := fun env => (g env).bind fun r => if fits r.1.length then some (r.1, r.2) else none
theorem xn_lst {g : Lf} (h : XL X es g) : XN X (.List es pos) (lLst g) := by
  obtain ⟨t, h1, h2⟩ := h.ex
  refine ⟨_, pe_lst h1, fun G F env s H d env' k e Q q => ?_⟩
  unfold lLst at e
  obtain ⟨⟨ds, e1⟩, h3, e⟩ := Option.bind_eq_some_iff.mp e
  split at e
  · rename_i hf
    cases e
    refine h2 G F env s H ds _ k h3 _ fun F1 H1 vs k1 s1 p1 => ⟨by rw [p1.length]; exact fits_line hf, fun p hp => ?_⟩
    exact q F1 _ p vs (k1.laid hp) s1 upd_same (k1.fr.free hp) (k1.dom p hp) (k1.pin.free hp) (k1.notown hp) p1
  · cases e
/-! ### subscripts -/
def gIdx : D → D → Option D
  | .list ds, .int i => atI ds i
  | .tuple ds, .int i => atI ds i
  | .str x, .int i => if fits x.length then (atI x.cps.toList i).map fun c => .str ⟨#[c]⟩ else none
  | _, _ => none
theorem Da.at_ {F : Hp} {ds : List D} {vs : List V} {i : Int} {d : D} (h : Da F vs ds) (e : atI ds i = some d) : ∃ v, atI vs i = some v ∧ Dt F v d := by
  unfold atI at e ⊢
  rw [h.length]
  cases hx : ixN ds.length i with
  | none => rw [hx] at e; cases e
  | some j =>
    rw [hx] at e
    obtain ⟨v, h1, h2⟩ := h.get (show ds[j]? = some d from e)
    exact ⟨v, h1, h2⟩
theorem gq_idx : GQ K (rIx K) gIdx := by
  intro G F env s H x y d e z k h1 h2 h3 Q q
  unfold gIdx at h3
  split at h3
  · obtain ⟨p, vs, rfl, h4, h5⟩ := h1.list k.fr
    obtain ⟨v, h6, h7⟩ := h5.at_ h3
    exact .inl ⟨p, vs, _, v, rfl, h2.int, h4, h6, q F H v k (Same.refl F) h7⟩
  · obtain ⟨p, vs, rfl, h4, _, h5⟩ := h1.tup k.fr
    obtain ⟨v, h6, h7⟩ := h5.at_ h3
    exact .inr (.inl ⟨p, vs, _, v, rfl, h2.int, SqT.of h4, h6, q F H v k (Same.refl F) h7⟩)
  · split at h3
    · rename_i hf
      obtain ⟨c, h4, h5⟩ := Option.map_eq_some_iff.mp h3
      cases h5
      exact .inr (.inr ⟨_, _, c, h1.str, h2.int, fits_line hf, h4, q F H _ k (Same.refl F) (.str _)⟩)
    · cases h3
  · cases h3
theorem xe_idx (ha : XE X a fa) (hb : XE X b fb) (hs : PlainIx b := by intro _ _; rfl) : XE X (.Subscript a b pos) (eBin gIdx fa fb) :=
  let ⟨_, h1, h2⟩ := ha.ex; let ⟨_, h3, h4⟩ := hb.ex; ⟨_, pe_ix ix_seq h1 h3 hs, re_bin gq_idx.go h2 h4⟩
theorem xe_idxV {x : Str} {p2 : Pos} (i : Nat) (hb : XE X b fb) (hN : X.N[i]? = some x := by rfl) (hv : Vis X.env.scope x := by first | exact Or.inl rfl | exact Or.inr (Or.inl rfl) | exact Or.inr (Or.inr rfl)) (hd : (x == ("__debug__" : Str)) = false := by decide)
    (hcd : (x == ("__classdict__" : Str)) = false := by decide) (hs : PlainIx b := by intro _ _; rfl) : XE X (.Subscript (.Name x p2) b pos) (eBinV gIdx i fb) :=
  let ⟨_, h3, h4⟩ := hb.ex; ⟨_, pe_ix ix_seq (pe_var hN hv hd hcd) h3 hs, re_binV gq_idx h4⟩

/-! ### slices -/
abbrev Pf := En → Option (Option Int × En)
def RP (K : Frg) (t : TO) (f : Pf) : Prop := ∀ G F env s H o env', Ok K G F env s H → f env = some (o, env') → ∀ Q : Option Int → Hp → Prop, (∀ F' H', Ok K G F' env' s H' → Same F F' → Q o H') → t s H Q
structure XP (X : Cx) (e : Option Expr) (f : Pf) : Prop where
  ex : ∃ t, PO X e t ∧ RP X.K t f
def pNo : Pf := fun env => some (none, env)
def pE (f : Ef) : Pf := fun env => (f env).bind fun r => match r.1 with
  | .int i => some (some i, r.2)
  | _ => none
theorem xp_none : XP X none pNo := ⟨_, po_none, fun G F env s H d env' k e Q q => by cases e; exact q F H k (Same.refl F)⟩
theorem xp_some (h : XE X a fa) : XP X (some a) (pE fa) := by
  obtain ⟨t, h1, h2⟩ := h.ex
  refine ⟨_, po_some h1, fun G F env s H d env' k e Q q => ?_⟩
  unfold pE at e
  obtain ⟨⟨c, e1⟩, h3, e⟩ := Option.bind_eq_some_iff.mp e
  refine h2 G F env s H c e1 k h3 _ fun F1 H1 v k1 s1 p1 => ?_
  cases p1 with
  | int i => cases e; exact ⟨i, rfl, q F1 H1 k1 s1⟩
  | _ => cases e
def cutD (xs : List D) (lo hi : Option Int) : List D := (xs.drop (HT.sIx xs.length 0 lo)).take (HT.sIx xs.length xs.length hi - HT.sIx xs.length 0 lo)
theorem Da.cut {F : Hp} {ds : List D} {vs : List V} (h : Da F vs ds) (lo hi : Option Int) : Da F (cutV vs lo hi) (cutD ds lo hi) := by
  unfold cutV cutD
  rw [h.length]
  exact (h.drop _).take _
def eSl (fa : Ef) (l h : Pf) : Ef := fun env => (fa env).bind fun r => (l r.2).bind fun q => (h q.2).bind fun w => match r.1 with
  | .list ds => some (.list (cutD ds q.1 w.1), w.2)
  | .tuple ds => some (.tuple (cutD ds q.1 w.1), w.2)
  | .str x => if fits x.length then some (.str (cutS x q.1 w.1), w.2) else none
  | _ => none
theorem cutD_whole {ds : List D} {vs : List V} {F : Hp} {lo hi : Option Int} (h : Da F vs ds) (w : HT.sIx vs.length 0 lo = 0 ∧ HT.sIx vs.length vs.length hi = vs.length) : cutD ds lo hi = ds := by
  unfold cutD
  rw [← h.length, w.1, w.2, List.drop_zero, Nat.sub_zero, h.length, List.take_length]
theorem sl_any : SlR X (fun x lo hi H Q => rSlL X.K x lo hi H Q ∨ rSlA X.K x lo hi H Q ∨ rSlS x lo hi H Q) := sl_list.or (sl_tupA.or sl_str)
theorem re_slice {lo hi : Option Expr} {pl ph : Pf} {t : TE} {tl th : TO} (h2 : RE K t fa) (h4 : RP K tl pl) (h6 : RP K th ph) :
    RE K (tSl (fun x lo hi H Q => rSlL K x lo hi H Q ∨ rSlA K x lo hi H Q ∨ rSlS x lo hi H Q) t tl th) (eSl fa pl ph) := fun G F env s H d env' k e Q q => by
  unfold eSl at e
  obtain ⟨⟨c, e1⟩, h7, e⟩ := Option.bind_eq_some_iff.mp e
  obtain ⟨⟨l, e2⟩, h8, e⟩ := Option.bind_eq_some_iff.mp e
  obtain ⟨⟨u, e3⟩, h9, e⟩ := Option.bind_eq_some_iff.mp e
  refine h2 G F env s H c e1 k h7 _ fun F1 H1 v k1 s1 p1 => ?_
  refine h4 G F1 e1 s H1 l e2 k1 h8 _ fun F2 H2 k2 s2 => ?_
  refine h6 G F2 e2 s H2 u e3 k2 h9 _ fun F3 H3 k3 s3 => ?_
  have p3 := Dt.mono (s2.trans s3) c v p1
  have ss := (s1.trans s2).trans s3
  cases p3 with
  | lst a1 b1 =>
    cases e
    refine .inl ⟨_, _, rfl, SqL.of (k3.fr _ _ a1), fun p hp => ?_⟩
    exact q _ _ _ (k3.alloc hp) (ss.trans (same_upd (k3.fr.free hp))) (.lst upd_same (Da.mono (same_upd (k3.fr.free hp)) _ _ (b1.cut l u)))
  | tup a1 b1 =>
    cases e
    refine .inr (.inl ⟨_, _, rfl, SqT.of (k3.fr _ _ a1), fun w => ?_, fun w p hp => ?_⟩)
    · rw [cutD_whole b1 w] at q
      exact q F3 H3 _ k3 ss (.tup a1 b1)
    · exact q _ _ _ (k3.alloc hp) (ss.trans (same_upd (k3.fr.free hp))) (.tup upd_same (Da.mono (same_upd (k3.fr.free hp)) _ _ (b1.cut l u)))
  | str x =>
    dsimp only at e
    split at e
    · rename_i hf
      cases e
      exact .inr (.inr ⟨_, rfl, fits_line hf, q F3 H3 _ k3 ss (.str _)⟩)
    · cases e
  | _ => cases e
theorem xe_slice {p2 : Pos} {lo hi : Option Expr} {pl ph : Pf} (ha : XE X a fa) (hl : XP X lo pl) (hh : XP X hi ph) : XE X (.Subscript a (.Slice lo hi none p2) pos) (eSl fa pl ph) :=
  let ⟨_, h1, h2⟩ := ha.ex; let ⟨_, h3, h4⟩ := hl.ex; let ⟨_, h5, h6⟩ := hh.ex; ⟨_, pe_slice sl_any h1 h3 h5, re_slice (lo := lo) (hi := hi) h2 h4 h6⟩
/-- a slice of a list that is read only, or the def's own, by its name -/
def lSlV (i : Nat) (l h : Pf) : Lf := fun env => (eO i env).bind fun _ => (l env).bind fun q => (h q.2).bind fun w => (eO i w.2).bind fun r => match r.1 with
  | .list ds => some (cutD ds q.1 w.1, w.2)
  | _ => none
theorem xn_sliceV {x : Str} {p2 p3 : Pos} {lo hi : Option Expr} {pl ph : Pf} (i : Nat) (hl : XP X lo pl) (hh : XP X hi ph) (hN : X.N[i]? = some x := by rfl) (hv : Vis X.env.scope x := by first | exact Or.inl rfl | exact Or.inr (Or.inl rfl) | exact Or.inr (Or.inr rfl))
    (hd : (x == ("__debug__" : Str)) = false := by decide) (hcd : (x == ("__classdict__" : Str)) = false := by decide) : XN X (.Subscript (.Name x p3) (.Slice lo hi none p2) pos) (lSlV i pl ph) := by
  obtain ⟨tl, h3, h4⟩ := hl.ex
  obtain ⟨th, h5, h6⟩ := hh.ex
  refine ⟨_, pe_slice sl_list (pe_var hN hv hd hcd) h3 h5, fun G F env s H d env' k e Q q => ?_⟩
  unfold lSlV at e
  obtain ⟨⟨c0, e0⟩, h0, e⟩ := Option.bind_eq_some_iff.mp e
  obtain ⟨⟨l, e2⟩, h8, e⟩ := Option.bind_eq_some_iff.mp e
  obtain ⟨⟨u, e3⟩, h9, e⟩ := Option.bind_eq_some_iff.mp e
  obtain ⟨⟨c, e4⟩, h7, e⟩ := Option.bind_eq_some_iff.mp e
  obtain ⟨v, hv0, _⟩ := dq_slot k h0
  refine ⟨v, hv0, ?_⟩
  refine h4 G F env s H l e2 k h8 _ fun F2 H2 k2 s2 => ?_
  refine h6 G F2 e2 s H2 u e3 k2 h9 _ fun F3 H3 k3 s3 => ?_
  obtain ⟨v', hv', hq⟩ := dq_slot k3 h7
  rw [hv0] at hv'
  cases hv'
  dsimp only at e
  split at e
  · rename_i ds
    cases e
    obtain ⟨p, vs, rfl, h10, h11⟩ := hq.list k3.fr
    refine ⟨p, vs, rfl, h10, fun p' hp => ?_⟩
    exact q F3 _ p' _ (k3.laid hp) (s2.trans s3) upd_same (k3.fr.free hp) (k3.dom p' hp) (k3.pin.free hp) (k3.notown hp) (h11.cut l u)
  · cases e
end
end M

namespace M
open PySem PySem.Spec PyProof.Rows L2

/-! ### arguments of a def: values, or the caller's own lists by their slots (i: to be changed, or read only) -/
inductive Ar where
  | v (d : D) | r (i : Nat) | o (i : Nat)
abbrev Af := En → Option (List Ar × En)
inductive ArOk (F : Hp) (s : L2.St) : Ar → V → Prop
  | v {d : D} {v : V} (h : Dt F v d) : ArOk F s (.v d) v
  | r {i : Nat} {v : V} (h : s[i]? = some (some v)) : ArOk F s (.r i) v
  | o {i : Nat} {v : V} (h : s[i]? = some (some v)) : ArOk F s (.o i) v
inductive ArsOk (F : Hp) (s : L2.St) : List Ar → List V → Prop
  | nil : ArsOk F s [] []
  | cons {a : Ar} {as : List Ar} {v : V} {vs : List V} (h : ArOk F s a v) (t : ArsOk F s as vs) : ArsOk F s (a :: as) (v :: vs)
theorem ArOk.mono {F F' : Hp} {s : L2.St} {a : Ar} {v : V} (e : Same F F') (h : ArOk F s a v) : ArOk F' s a v := by
  cases h with
  | v h => exact .v (Dt.mono e _ _ h)
  | r h => exact .r h
  | o h => exact .o h
theorem ArsOk.length {F : Hp} {s : L2.St} : ∀ {as : List Ar} {vs : List V}, ArsOk F s as vs → vs.length = as.length
  | [], _, h => by cases h; rfl
  | a :: as, _, h => by cases h with | cons h t => simp [ArsOk.length t]
theorem ArsOk.get {F : Hp} {s : L2.St} : ∀ {as : List Ar} {vs : List V} {j : Nat} {a : Ar}, ArsOk F s as vs → as[j]? = some a → ∃ v, vs[j]? = some v ∧ ArOk F s a v
  | [], _, _, _, _, e => by simp at e
  | a :: as, _, 0, _, h, e => by cases h with | cons h t => simp at e; subst e; exact ⟨_, rfl, h⟩
  | a :: as, _, j + 1, _, h, e => by
    cases h with
    | cons h t =>
      obtain ⟨v, h1, h2⟩ := ArsOk.get (j := j) t (by simpa using e)
      exact ⟨v, by simpa using h1, h2⟩
def RA (K : Frg) (t : TA) (f : Af) : Prop := ∀ G F env s H as env', Ok K G F env s H → f env = some (as, env') → ∀ Q : List V → Hp → Prop, (∀ F' H' vs, Ok K G F' env' s H' → Same F F' → ArsOk F' s as vs → Q vs H') → t s H Q
structure XA (X : Cx) (es : List Expr) (f : Af) : Prop where
  ex : ∃ t, PA X es t ∧ RA X.K t f
def aNil : Af := fun env => some ([], env)
def aV (f : Ef) (g : Af) : Af := fun env => (f env).bind fun r => (g r.2).map fun q => (.v r.1 :: q.1, q.2)
def aR (i : Nat) (g : Af) : Af := fun env => (eO i env).bind fun _ => (g env).map fun q => (.r i :: q.1, q.2)
def aO (i : Nat) (g : Af) : Af := fun env => (eO i env).bind fun _ => (g env).map fun q => (.o i :: q.1, q.2)
section
variable {X : Cx} {e : Expr} {es : List Expr} {f : Ef} {g : Af} {pos : Pos}
theorem xa_nil : XA X [] aNil := ⟨_, pa_nil, fun G F env s H d env' k e Q q => by cases e; exact q F H [] k (Same.refl F) .nil⟩
theorem xa_v (ha : XE X e f) (hr : XA X es g) (hs : starEach (e :: es) X.env = (false, eval e X.env) :: starEach es X.env := by rfl) : XA X (e :: es) (aV f g) := by
  obtain ⟨ta, h1, h2⟩ := ha.ex
  obtain ⟨tr, h3, h4⟩ := hr.ex
  refine ⟨_, pa_cons h1 h3 hs, fun G F env s H as env' k e Q q => ?_⟩
  unfold aV at e
  obtain ⟨⟨d1, e1⟩, h5, e⟩ := Option.bind_eq_some_iff.mp e
  obtain ⟨⟨r, e2⟩, h6, e⟩ := Option.map_eq_some_iff.mp e
  cases e
  refine h2 G F env s H d1 e1 k h5 _ fun F1 H1 v k1 s1 p1 => ?_
  refine h4 G F1 e1 s H1 r _ k1 h6 _ fun F2 H2 vs k2 s2 p2 => ?_
  exact q F2 H2 _ k2 (s1.trans s2) (.cons (.v (Dt.mono s2 d1 v p1)) p2)
theorem xa_r (i : Nat) {x : Str} (hr : XA X es g) (hN : X.N[i]? = some x := by rfl) (hv : Vis X.env.scope x := by first | exact Or.inl rfl | exact Or.inr (Or.inl rfl) | exact Or.inr (Or.inr rfl)) (hd : (x == ("__debug__" : Str)) = false := by decide)
    (hcd : (x == ("__classdict__" : Str)) = false := by decide) (hs : starEach (.Name x pos :: es) X.env = (false, eval (.Name x pos) X.env) :: starEach es X.env := by rfl) : XA X (.Name x pos :: es) (aR i g) := by
  obtain ⟨tr, h3, h4⟩ := hr.ex
  refine ⟨_, pa_cons (pe_var hN hv hd hcd) h3 hs, fun G F env s H as env' k e Q q => ?_⟩
  unfold aR at e
  obtain ⟨⟨d1, e1⟩, h5, e⟩ := Option.bind_eq_some_iff.mp e
  obtain ⟨⟨r, e2⟩, h6, e⟩ := Option.map_eq_some_iff.mp e
  cases e
  obtain ⟨v, h7, _⟩ := dq_slot k h5
  refine ⟨v, h7, ?_⟩
  exact h4 G F env s H r _ k h6 _ fun F2 H2 vs k2 s2 p2 => q F2 H2 _ k2 s2 (.cons (.r h7) p2)
theorem xa_o (i : Nat) {x : Str} (hr : XA X es g) (hN : X.N[i]? = some x := by rfl) (hv : Vis X.env.scope x := by first | exact Or.inl rfl | exact Or.inr (Or.inl rfl) | exact Or.inr (Or.inr rfl)) (hd : (x == ("__debug__" : Str)) = false := by decide)
    (hcd : (x == ("__classdict__" : Str)) = false := by decide) (hs : starEach (.Name x pos :: es) X.env = (false, eval (.Name x pos) X.env) :: starEach es X.env := by rfl) : XA X (.Name x pos :: es) (aO i g) := by
  obtain ⟨tr, h3, h4⟩ := hr.ex
  refine ⟨_, pa_cons (pe_var hN hv hd hcd) h3 hs, fun G F env s H as env' k e Q q => ?_⟩
  unfold aO at e
  obtain ⟨⟨d1, e1⟩, h5, e⟩ := Option.bind_eq_some_iff.mp e
  obtain ⟨⟨r, e2⟩, h6, e⟩ := Option.map_eq_some_iff.mp e
  cases e
  obtain ⟨v, h7, _⟩ := dq_slot k h5
  refine ⟨v, h7, ?_⟩
  exact h4 G F env s H r _ k h6 _ fun F2 H2 vs k2 s2 p2 => q F2 H2 _ k2 s2 (.cons (.o h7) p2)
end

/-! ### what a def does: arguments in, a value and the lists handed in to be changed out -/
abbrev Gf := List Sl → Option (D × List Sl)
open Classical in
/-- the heap without the lists handed in to be changed -/
noncomputable def minus (H : Hp) (args : List Sl) (vs : List V) : Hp := fun a => if (∃ (j : Nat) (l : Bool) (es : List D), args[j]? = some (.own l es) ∧ vs[j]? = some (.ref a)) then none else H a
theorem minus_some {H : Hp} {args : List Sl} {vs : List V} {a : Addr} {o : HO} (h : H a = some o) (n : ∀ (j : Nat) l es, args[j]? = some (.own l es) → vs[j]? ≠ some (.ref a)) : minus H args vs a = some o := by
  unfold minus
  rw [if_neg fun ⟨j, l, es, h1, h2⟩ => n j l es h1 h2]
  exact h
theorem minus_of {H : Hp} {args : List Sl} {vs : List V} {a : Addr} {o : HO} (h : minus H args vs a = some o) : H a = some o ∧ ∀ (j : Nat) l es, args[j]? = some (.own l es) → vs[j]? ≠ some (.ref a) := by
  unfold minus at h
  split at h
  · cases h
  · rename_i n
    exact ⟨h, fun j l es h1 h2 => n ⟨j, l, es, h1, h2⟩⟩
structure ArgsOk (K : Frg) (F H : Hp) (args : List Sl) (vs : List V) : Prop where
  len : vs.length = args.length
  val : ∀ (i : Nat) d, args[i]? = some (.val d) → ∃ v, vs[i]? = some v ∧ Dt F v d
  own : ∀ (i : Nat) l ds, args[i]? = some (.own l ds) → l = false ∧ ∃ a us, vs[i]? = some (.ref a) ∧ H a = some (.lst us) ∧ F a = none ∧ Da F us ds
  ro : ∀ (i : Nat) ds, args[i]? = some (.ro ds) → ∃ a us, vs[i]? = some (.ref a) ∧ SqL K (minus H args vs) a us ∧ Da F us ds
  sep : ∀ (i j : Nat) l ds m es, args[i]? = some (.own l ds) → args[j]? = some (.own m es) → vs[i]? = vs[j]? → i = j
  dct : ∀ (i : Nat) w kvs, args[i]? ≠ some (.dct w kvs)
structure Post (F H F' H' : Hp) (args args' : List Sl) (vs : List V) (v : V) (d : D) : Prop where
  keep : Same (minus H args vs) H'
  dom : ∀ a, H' a = none → H a = none
  grow : Same F F'
  fr : Same F' H'
  new : ∀ a o, F' a = some o → F a = some o ∨ H a = none
  res : Dt F' v d
  own : ∀ (i : Nat) l ds, args[i]? = some (.own l ds) → ∀ ds', args'[i]? = some (.own false ds') → ∀ a, vs[i]? = some (.ref a) → ∃ us, H' a = some (.lst us) ∧ F' a = none ∧ Da F' us ds'
def spF (K : Frg) (g : Gf) : Sp := fun vs H Q _ => ∃ F args d args', g args = some (d, args') ∧ Same F H ∧ ArgsOk K F H args vs ∧ ∀ F' H' v, Post F H F' H' args args' vs v d → Q v H'

def resAr (env : En) : Ar → Option Sl
  | .v d => some (.val d)
  | .r i => match env[i]? with
    | some (.own _ ds) => some (.own false ds)
    | _ => none
  | .o i => match env[i]? with
    | some (.own _ ds) => some (.ro ds)
    | some (.ro ds) => some (.ro ds)
    | some (.val (.list ds)) => some (.ro ds)
    | _ => none
def resArs (env : En) : List Ar → Option (List Sl)
  | [] => some []
  | a :: as => (resAr env a).bind fun x => (resArs env as).map fun r => x :: r
/-- at most one slot is handed in to be changed, and it isn't handed in to be read besides -/
def rSlots : List Ar → List Nat
  | [] => []
  | .r i :: as => i :: rSlots as
  | .v _ :: as => rSlots as
  | .o _ :: as => rSlots as
def oSlots : List Ar → List Nat
  | [] => []
  | .o i :: as => i :: oSlots as
  | .v _ :: as => oSlots as
  | .r _ :: as => oSlots as
def backAr (env : En) : List Ar → List Sl → Option En
  | [], _ => some env
  | .r i :: as, x :: xs => match x, env[i]? with
    | .own false ds, some (.own l _) => backAr (env.set i (.own l ds)) as xs
    | _, _ => none
  | _ :: as, _ :: xs => backAr env as xs
  | _ :: _, [] => none
def eCall (g : Gf) (fa : Af) : Ef := fun env => (fa env).bind fun r =>
  match rSlots r.1 with
  | [] => (resArs r.2 r.1).bind fun args => (g args).map fun q => (q.1, r.2)
  | [i] => if (oSlots r.1).contains i then none else (resArs r.2 r.1).bind fun args => (g args).bind fun q => (backAr r.2 r.1 q.2).map fun env' => (q.1, env')
  | _ => none
theorem resArs_get {env : En} : ∀ {as : List Ar} {xs : List Sl} {j : Nat} {x : Sl}, resArs env as = some xs → xs[j]? = some x → ∃ a, as[j]? = some a ∧ resAr env a = some x
  | [], xs, j, x, h, e => by cases h; simp at e
  | a :: as, xs, j, x, h, e => by
    unfold resArs at h
    obtain ⟨y, h1, h⟩ := Option.bind_eq_some_iff.mp h
    obtain ⟨r, h2, h⟩ := Option.map_eq_some_iff.mp h
    subst h
    cases j with
    | zero => simp at e; subst e; exact ⟨a, rfl, h1⟩
    | succ j =>
      obtain ⟨b, h3, h4⟩ := resArs_get (j := j) h2 (by simpa using e)
      exact ⟨b, by simpa using h3, h4⟩
theorem resArs_length {env : En} : ∀ {as : List Ar} {xs : List Sl}, resArs env as = some xs → xs.length = as.length
  | [], xs, h => by cases h; rfl
  | a :: as, xs, h => by
    unfold resArs at h
    obtain ⟨y, h1, h⟩ := Option.bind_eq_some_iff.mp h
    obtain ⟨r, h2, h⟩ := Option.map_eq_some_iff.mp h
    subst h
    simp [resArs_length h2]
theorem resArs_get2 {env : En} : ∀ {as : List Ar} {xs : List Sl} {j : Nat} {a : Ar}, resArs env as = some xs → as[j]? = some a → ∃ x, xs[j]? = some x ∧ resAr env a = some x
  | [], xs, j, x, h, e => by simp at e
  | a :: as, xs, j, b, h, e => by
    unfold resArs at h
    obtain ⟨y, h1, h⟩ := Option.bind_eq_some_iff.mp h
    obtain ⟨r, h2, h⟩ := Option.map_eq_some_iff.mp h
    subst h
    cases j with
    | zero => simp at e; subst e; exact ⟨y, rfl, h1⟩
    | succ j =>
      obtain ⟨b, h3, h4⟩ := resArs_get2 (j := j) h2 (by simpa using e)
      exact ⟨b, by simpa using h3, h4⟩
theorem rSlots_mem : ∀ {as : List Ar} {j i : Nat}, as[j]? = some (.r i) → i ∈ rSlots as
  | [], j, i, e => by simp at e
  | a :: as, 0, i, e => by simp at e; subst e; simp [rSlots]
  | a :: as, j + 1, i, e => by
    have h := rSlots_mem (as := as) (j := j) (i := i) (by simpa using e)
    cases a <;> simp [rSlots, h]
theorem oSlots_mem : ∀ {as : List Ar} {j i : Nat}, as[j]? = some (.o i) → i ∈ oSlots as
  | [], j, i, e => by simp at e
  | a :: as, 0, i, e => by simp at e; subst e; simp [oSlots]
  | a :: as, j + 1, i, e => by
    have h := oSlots_mem (as := as) (j := j) (i := i) (by simpa using e)
    cases a <;> simp [oSlots, h]
theorem rSlots_one : ∀ {as : List Ar} {i : Nat}, rSlots as = [i] → ∀ (j j' : Nat), as[j]? = some (.r i) → as[j']? = some (.r i) → j = j'
  | [], i, h, _, _, _, _ => by cases h
  | .v d :: as, i, h, 0, _, e, _ => by simp at e
  | .o d :: as, i, h, 0, _, e, _ => by simp at e
  | .v d :: as, i, h, _ + 1, 0, _, e => by simp at e
  | .o d :: as, i, h, _ + 1, 0, _, e => by simp at e
  | .v d :: as, i, h, j + 1, j' + 1, e, e' => by rw [rSlots_one (as := as) h j j' (by simpa using e) (by simpa using e')]
  | .o d :: as, i, h, j + 1, j' + 1, e, e' => by rw [rSlots_one (as := as) h j j' (by simpa using e) (by simpa using e')]
  | .r k :: as, i, h, j, j', e, e' => by
    have h0 : rSlots as = [] := by simp [rSlots] at h; exact h.2
    cases j with
    | zero =>
      cases j' with
      | zero => rfl
      | succ j' =>
        have := rSlots_mem (as := as) (j := j') (i := i) (by simpa using e')
        rw [h0] at this; cases this
    | succ j =>
      have := rSlots_mem (as := as) (j := j) (i := i) (by simpa using e)
      rw [h0] at this; cases this
/-- writing back: only the slot handed in -/
theorem backAr_one : ∀ {as : List Ar} {xs : List Sl} {env env' : En} {i : Nat}, rSlots as = [i] → backAr env as xs = some env' → ∃ (j : Nat) (l : Bool) (ds es : List D), as[j]? = some (.r i) ∧ xs[j]? = some (.own false ds) ∧ env[i]? = some (.own l es) ∧ env' = env.set i (.own l ds)
  | [], _, _, _, _, h, _ => by cases h
  | .v d :: as, [], _, _, _, h, e => by simp [backAr] at e
  | .o d :: as, [], _, _, _, h, e => by simp [backAr] at e
  | .r d :: as, [], _, _, _, h, e => by simp [backAr] at e
  | .v d :: as, x :: xs, env, env', i, h, e => by
    obtain ⟨j, l, ds, es, h1, h2, h3, h4⟩ := backAr_one (as := as) (xs := xs) (env := env) h (by simpa [backAr] using e)
    exact ⟨j + 1, l, ds, es, by simpa using h1, by simpa using h2, h3, h4⟩
  | .o d :: as, x :: xs, env, env', i, h, e => by
    obtain ⟨j, l, ds, es, h1, h2, h3, h4⟩ := backAr_one (as := as) (xs := xs) (env := env) h (by simpa [backAr] using e)
    exact ⟨j + 1, l, ds, es, by simpa using h1, by simpa using h2, h3, h4⟩
  | .r k :: as, x :: xs, env, env', i, h, e => by
    have h0 : rSlots as = [] ∧ k = i := by simp [rSlots] at h; exact ⟨h.2, h.1⟩
    obtain ⟨h0, rfl⟩ := h0
    have key : ∀ (as : List Ar) (xs : List Sl) (env env' : En), rSlots as = [] → backAr env as xs = some env' → env' = env := by
      intro as
      induction as with
      | nil => intro xs env env' _ e; simp [backAr] at e; exact e.symm
      | cons a as ih =>
        intro xs env env' h e
        cases a with
        | v d => cases xs with
          | nil => simp [backAr] at e
          | cons x xs => exact ih xs env env' h (by simpa [backAr] using e)
        | o d => cases xs with
          | nil => simp [backAr] at e
          | cons x xs => exact ih xs env env' h (by simpa [backAr] using e)
        | r i => simp [rSlots] at h
    unfold backAr at e
    split at e
    · rename_i ds l es h1
      have e2 := key _ _ _ _ h0 e
      exact ⟨0, l, ds, es, rfl, rfl, h1, e2⟩
    · cases e

theorem resAr_val {env : En} {a : Ar} {d : D} (h : resAr env a = some (.val d)) : a = .v d := by
  cases a with
  | v d' => simp [resAr] at h; rw [h]
  | r i => simp only [resAr] at h; split at h <;> cases h
  | o i => simp only [resAr] at h; split at h <;> cases h
theorem resAr_own {env : En} {a : Ar} {l : Bool} {ds : List D} (h : resAr env a = some (.own l ds)) : l = false ∧ ∃ i m, a = .r i ∧ env[i]? = some (.own m ds) := by
  cases a with
  | v d' => simp [resAr] at h
  | r i =>
    simp only [resAr] at h
    split at h
    · rename_i m es e
      cases h
      exact ⟨rfl, i, m, rfl, e⟩
    · cases h
  | o i => simp only [resAr] at h; split at h <;> cases h
theorem resAr_ro {env : En} {a : Ar} {ds : List D} (h : resAr env a = some (.ro ds)) : ∃ i, a = .o i ∧ ((∃ m, env[i]? = some (.own m ds)) ∨ env[i]? = some (.ro ds) ∨ env[i]? = some (.val (.list ds))) := by
  cases a with
  | v d' => simp [resAr] at h
  | r i => simp only [resAr] at h; split at h <;> cases h
  | o i =>
    simp only [resAr] at h
    split at h
    · rename_i m es e
      cases h
      exact ⟨i, rfl, .inl ⟨_, e⟩⟩
    · rename_i es e
      cases h
      exact ⟨i, rfl, .inr (.inl e)⟩
    · rename_i es e
      cases h
      exact ⟨i, rfl, .inr (.inr e)⟩
    · cases h
theorem resAr_dct {env : En} {a : Ar} {w : World} {kvs : List (D × D)} : resAr env a ≠ some (.dct w kvs) := fun h => by
  cases a with
  | v d' => simp [resAr] at h
  | r i => simp only [resAr] at h; split at h <;> cases h
  | o i => simp only [resAr] at h; split at h <;> cases h
section
variable {K : Frg} {G : Gm} {F F' : Hp} {env : En} {s : L2.St} {H H' : Hp} {as : List Ar} {vs : List V} {args args' : List Sl} {v : V} {d : D}
theorem own_arg (k : Ok K G F env s H) (p : ArsOk F s as vs) (hr : resArs env as = some args) {j : Nat} {l : Bool} {ds : List D} (h : args[j]? = some (.own l ds)) :
    l = false ∧ ∃ i m, i ∈ rSlots as ∧ as[j]? = some (.r i) ∧ env[i]? = some (.own m ds) ∧ ∃ x, vs[j]? = some x ∧ s[i]? = some (some x) := by
  obtain ⟨a, h1, h2⟩ := resArs_get hr h
  obtain ⟨e, i, m, rfl, h3⟩ := resAr_own h2
  obtain ⟨x, h4, h5⟩ := p.get h1
  cases h5 with
  | r h5 => exact ⟨e, i, m, rSlots_mem h1, h1, h3, x, h4, h5⟩
/-- an object that is none of the slots handed in -/
theorem minus_slot (k : Ok K G F env s H) (p : ArsOk F s as vs) (hr : resArs env as = some args) {a : Addr} {o : HO} (h : H a = some o) (n : ∀ i ∈ rSlots as, ∀ m ds, env[i]? = some (.own m ds) → s[i]? ≠ some (some (.ref a))) : minus H args vs a = some o :=
  minus_some h fun j l es h1 h2 => by
    obtain ⟨_, i, m, hi, _, h3, x, h4, h5⟩ := own_arg k p hr h1
    rw [h2] at h4
    cases h4
    exact n i hi m es h3 h5
theorem minus_pin (k : Ok K G F env s H) (p : ArsOk F s as vs) (hr : resArs env as = some args) : Same G.P (minus H args vs) := fun a o e =>
  minus_slot k p hr (k.pin a o e) fun i _ m ds h1 h2 => by
    obtain ⟨b, us, h3, _, _, h4, _⟩ := k.own i m ds h1
    rw [h2] at h3
    cases h3
    rw [h4] at e; cases e
theorem minus_fr (k : Ok K G F env s H) (p : ArsOk F s as vs) (hr : resArs env as = some args) : Same F (minus H args vs) := fun a o e =>
  minus_slot k p hr (k.fr a o e) fun i _ m ds h1 h2 => by
    obtain ⟨b, us, h3, _, h4, _⟩ := k.own i m ds h1
    rw [h2] at h3
    cases h3
    rw [h4] at e; cases e
theorem args_ok (k : Ok K G F env s H) (p : ArsOk F s as vs) (hr : resArs env as = some args) (h1 : ∀ i ∈ rSlots as, i ∉ oSlots as) (h2 : ∀ i ∈ rSlots as, ∀ (j j' : Nat), as[j]? = some (.r i) → as[j']? = some (.r i) → j = j') : ArgsOk K F H args vs where
  len := by rw [p.length, resArs_length hr]
  val := fun i d e => by
    obtain ⟨a, h3, h4⟩ := resArs_get hr e
    have h5 := resAr_val h4
    subst h5
    obtain ⟨x, h6, h7⟩ := p.get h3
    cases h7 with
    | v h7 => exact ⟨x, h6, h7⟩
  own := fun j l ds e => by
    obtain ⟨e1, i, m, hi, h3, h4, x, h5, h6⟩ := own_arg k p hr e
    obtain ⟨a, us, h7, h8, h9, _, h10, _⟩ := k.own i m ds h4
    rw [h6] at h7
    cases h7
    exact ⟨e1, a, us, h5, h8, h9, h10⟩
  ro := fun j ds e => by
    obtain ⟨a, h3, h4⟩ := resArs_get hr e
    obtain ⟨i, rfl, h5⟩ := resAr_ro h4
    obtain ⟨x, h6, h7⟩ := p.get h3
    cases h7 with
    | o h7 =>
      rcases h5 with ⟨m, h5⟩ | h5 | h5
      · obtain ⟨a, us, h8, h9, h10, _, h11, _⟩ := k.own i m ds h5
        rw [h7] at h8
        cases h8
        refine ⟨a, us, h6, SqL.of (minus_slot k p hr h9 fun i' hi' m' ds' g1 g2 => ?_), h11⟩
        have e2 := k.sep i' i m' ds' m ds g1 h5 (g2.trans h7.symm)
        subst e2
        exact h1 i' hi' (oSlots_mem h3)
      · obtain ⟨a, us, h8, h9, h10⟩ := k.ro i ds h5
        rw [h7] at h8
        cases h8
        exact ⟨a, us, h6, (k.rin.trans (minus_pin k p hr)).seq h9, h10⟩
      · obtain ⟨y, h8, h9⟩ := k.val i _ h5
        rw [h7] at h8
        cases h8
        cases h9 with
        | lst a1 b1 => exact ⟨_, _, h6, SqL.of (minus_fr k p hr _ _ a1), b1⟩
  sep := fun i j l ds m es h3 h4 h5 => by
    obtain ⟨_, i1, m1, hi1, g1, g2, x1, g3, g4⟩ := own_arg k p hr h3
    obtain ⟨_, i2, m2, hi2, q1, q2, x2, q3, q4⟩ := own_arg k p hr h4
    rw [g3, q3] at h5
    cases h5
    have e2 := k.sep i1 i2 _ _ _ _ g2 q2 (g4.trans q4.symm)
    subst e2
    exact h2 i1 hi1 i j g1 q1
  dct := fun i w kvs e => by
    obtain ⟨a, h3, h4⟩ := resArs_get hr e
    exact resAr_dct h4
/-- behind the call -/
theorem ok_after (k : Ok K G F env s H) (p : ArsOk F s as vs) (hr : resArs env as = some args) (q : Post F H F' H' args args' vs v d) {env' : En} (hl : env'.length = env.length)
    (he : ∀ (j : Nat), env'[j]? = env[j]? ∨ (∃ (m : Nat) (l : Bool) (ds es : List D), as[m]? = some (.r j) ∧ args'[m]? = some (.own false ds) ∧ env[j]? = some (.own l es) ∧ env'[j]? = some (.own l ds))) (hn : ∀ i ∈ rSlots as, ∀ (j : Nat), env'[j]? = env[j]? → (∃ (m : Nat) (l : Bool) (ds : List D), args'[m]? = some (.own false ds) ∧ as[m]? = some (.r i) ∧ env'[i]? = some (.own l ds))) :
    Ok K G F' env' s H' := by
  have back : ∀ (j : Nat) l ds, env'[j]? = some (.own l ds) → ∃ es, env[j]? = some (.own l es) := fun j l ds e => by
    rcases he j with h | ⟨m, l', ds', es, _, _, h3, h4⟩
    · rw [h] at e; exact ⟨ds, e⟩
    · rw [h4] at e; cases e; exact ⟨es, h3⟩
  refine ⟨by rw [k.len, hl], q.fr, fun i d' e => ?_, fun i l ds e => ?_, fun i ds e => ?_, fun i j l ds m es e1 e2 e3 => ?_, fun a o e => q.keep a o (minus_pin k p hr a o e), fun a e => k.dom a (q.dom a e), k.grow.trans q.grow, fun a o e => ?_, k.rin, k.dct.move q.grow (fun i w kvs e => ⟨?_, rfl⟩) fun a es g1 g2 g3 g4 hx => ⟨?_, ?_, g3, g4⟩⟩
  · rcases he i with h | ⟨m, l', ds', es, _, _, h3, h4⟩
    · rw [h] at e
      obtain ⟨x, h1, h2⟩ := k.val i d' e
      exact ⟨x, h1, Dt.mono q.grow _ _ h2⟩
    · rw [h4] at e; cases e
  · by_cases hi : i ∈ rSlots as
    · have : ∃ (m : Nat) (ds' : List D), args'[m]? = some (.own false ds') ∧ as[m]? = some (.r i) ∧ env'[i]? = some (.own l ds') := by
        rcases he i with h | ⟨m, l', ds', es, g1, g2, g3, g4⟩
        · obtain ⟨m, l', ds', g1, g2, g3⟩ := hn i hi i h
          have : l' = l := by rw [e] at g3; cases g3; rfl
          subst this
          exact ⟨m, ds', g1, g2, g3⟩
        · have : l' = l := by rw [e] at g4; cases g4; rfl
          subst this
          exact ⟨m, ds', g2, g1, g4⟩
      obtain ⟨m, ds', g1, g2, g3⟩ := this
      rw [e] at g3
      cases g3
      obtain ⟨es, g4⟩ := back i l ds e
      obtain ⟨a, us, h1, h2, h3, h4, h5, h6⟩ := k.own i l es g4
      obtain ⟨x, g5, g6⟩ := resArs_get2 hr g2
      simp only [resAr, g4] at g6
      cases g6
      obtain ⟨y, g7, g8⟩ := p.get g2
      cases g8 with
      | r g8 =>
        rw [h1] at g8
        cases g8
        obtain ⟨us', h7, h8, h9⟩ := q.own m false es g5 ds g1 a g7
        exact ⟨a, us', h1, h7, h8, h4, h9, h6⟩
    · have e' : env[i]? = some (.own l ds) := by
        rcases he i with h | ⟨m, l', ds', es, g1, g2, g3, g4⟩
        · rw [← h]; exact e
        · exact absurd (rSlots_mem g1) hi
      obtain ⟨a, us, h1, h2, h3, h4, h5, h6⟩ := k.own i l ds e'
      refine ⟨a, us, h1, q.keep a _ (minus_slot k p hr h2 fun i' hi' m' ds' g1 g2 => ?_), ?_, h4, Da.mono q.grow _ _ h5, h6⟩
      · have e2 := k.sep i' i m' ds' l ds g1 e' (g2.trans h1.symm)
        subst e2
        exact hi hi'
      · cases hx : F' a with
        | none => rfl
        | some o =>
          rcases q.new a o hx with z | z
          · rw [h3] at z; cases z
          · rw [h2] at z; cases z
  · rcases he i with h | ⟨m, l', ds', es, _, _, h3, h4⟩
    · rw [h] at e
      obtain ⟨a, us, h1, h2, h3⟩ := k.ro i ds e
      exact ⟨a, us, h1, h2, Da.mono q.grow _ _ h3⟩
    · rw [h4] at e; cases e
  · obtain ⟨ds1, g1⟩ := back i l ds e1
    obtain ⟨ds2, g2⟩ := back j m es e2
    exact k.sep i j _ _ _ _ g1 g2 e3
  · rcases q.new a o e with z | z
    · exact k.new a o z
    · exact .inr (k.dom a z)
  · rcases he i with h | ⟨m, l', ds', es, _, _, h3, h4⟩
    · rw [← h]; exact e
    · rw [h4] at e; cases e
  · refine q.keep a _ (minus_slot k p hr g1 fun i' hi' m' ds' g5 g6 => ?_)
    obtain ⟨b, us, g7, g8, _⟩ := k.own i' m' ds' g5
    rw [g6] at g7
    cases g7
    rw [g1] at g8; cases g8
  · cases hx' : F' a with
    | none => rfl
    | some o =>
      rcases q.new a o hx' with z | z
      · rw [g2] at z; cases z
      · rw [g1] at z; cases z
theorem re_call {g : Gf} {fa : Af} {t : TA} {E : XK} (ha : RA K t fa) : RE K (tCall (spF K g) [] E t) (eCall g fa) := fun G F env s H d env' k e Q q => by
  unfold eCall at e
  obtain ⟨⟨as, e1⟩, h1, e⟩ := Option.bind_eq_some_iff.mp e
  refine ha G F env s H as e1 k h1 _ fun F1 H1 vs k1 s1 p1 => ?_
  rw [List.append_nil]
  dsimp only at e
  split at e
  · rename_i hrs
    obtain ⟨args, h2, e⟩ := Option.bind_eq_some_iff.mp e
    obtain ⟨⟨d', args'⟩, h3, e⟩ := Option.map_eq_some_iff.mp e
    cases e
    refine ⟨F1, args, d', args', h3, k1.fr, args_ok k1 p1 h2 (by rw [hrs]; intro i hi; cases hi) (by rw [hrs]; intro i hi; cases hi), fun F' H' v po => ?_⟩
    exact q F' H' v (ok_after k1 p1 h2 po rfl (fun j => .inl rfl) (by rw [hrs]; intro i hi; cases hi)) (s1.trans po.grow) po.res
  · rename_i i hrs
    split at e
    · cases e
    · rename_i hc
      obtain ⟨args, h2, e⟩ := Option.bind_eq_some_iff.mp e
      obtain ⟨⟨d', args'⟩, h3, e⟩ := Option.bind_eq_some_iff.mp e
      obtain ⟨env2, h4, e⟩ := Option.map_eq_some_iff.mp e
      cases e
      obtain ⟨j, l, ds, es, g1, g2, g3, g4⟩ := backAr_one hrs h4
      subst g4
      have hil : i < e1.length := (List.getElem?_eq_some_iff.mp g3).1
      refine ⟨F1, args, d', args', h3, k1.fr, args_ok k1 p1 h2 (by rw [hrs]; intro i' hi'; simp at hi'; subst hi'; intro hm; apply hc; simp [hm]) (by rw [hrs]; intro i' hi' j1 j2 q1 q2; simp at hi'; subst hi'; exact rSlots_one hrs j1 j2 q1 q2), fun F' H' v po => ?_⟩
      refine q F' H' v (ok_after k1 p1 h2 po (by simp) (fun j' => ?_) ?_) (s1.trans po.grow) po.res
      · by_cases hj : i = j'
        · subst hj
          exact .inr ⟨j, l, ds, es, g1, g2, g3, by rw [List.getElem?_set_self hil]⟩
        · exact .inl (List.getElem?_set_ne hj)
      · rw [hrs]
        intro i' hi' j' _
        simp at hi'
        subst hi'
        exact ⟨j, l, ds, g2, g1, by rw [List.getElem?_set_self hil]⟩
  · cases e
end
section
variable {X : Cx} {k : Nat} {fx : Addr} {fd : FuncData} {ps : List Str} {x : Str} {p pos : Pos} {e : Expr} {es : List Expr} {fa : Af} {g : Gf}
theorem xe_call (FF : FnOk X.prog X.w X.K X.mg X.base CX0 k fx fd ps (spF X.K g)) (hr : Room k X.A) (hm : X.mg x = some (.ref fx)) (hk : PySem.W.keepIn X.K (.ref fx) = true) (hb : Binds X.K fd ps []) (ha : XA X (e :: es) fa) (hg : Gl X x := by rfl)
    (hdb : (x == ("__debug__" : Str)) = false := by decide) (he : starEach (e :: es) X.env = (false, eval e X.env) :: starEach es X.env := by rfl) (hpl : (backTo pos (starEach es X.env)).any (·.1) = false := by rfl) :
    XE X (.Call (.Name x p) (e :: es) [] pos) (eCall g fa) :=
  let ⟨_, h1, h2⟩ := ha.ex; ⟨_, pe_call FF hr hg hm hk hb .nil pass0 h1 hdb he hpl, re_call h2⟩
/-! ### a built-in of one argument -/
def GC (K : Frg) (r : List V → Hp → VK → Prop) (g : D → Option D) : Prop := ∀ G F env s H x d z, Ok K G F env s H → Dq K F H x d → g d = some z → ∀ Q : VK, (∀ F' H' v, Ok K G F' env s H' → Same F F' → Dt F' v z → Q v H') → r [x] H Q
def GCN (K : Frg) (r : List V → Hp → VK → Prop) (g : D → Option (List D)) : Prop := ∀ G F env s H x d z, Ok K G F env s H → Dq K F H x d → g d = some z → ∀ Q : VK,
  (∀ F' H' p vs, Ok K G F' env s H' → Same F F' → H' p = some (.lst vs) → F' p = none → G.H0 p = none → G.P p = none → (∀ (j : Nat) l es, env[j]? = some (.own l es) → s[j]? ≠ some (some (.ref p))) → Da F' vs z → Q (.ref p) H') → r [x] H Q
def GC2 (K : Frg) (r : List V → Hp → VK → Prop) (g : D → D → Option D) : Prop := ∀ G F env s H x y d e z, Ok K G F env s H → Dt F x d → Dt F y e → g d e = some z → ∀ Q : VK, (∀ F' H' v, Ok K G F' env s H' → Same F F' → Dt F' v z → Q v H') → r [x, y] H Q
def lUn (g : D → Option (List D)) (fa : Ef) : Lf := fun env => (fa env).bind fun r => (g r.1).map fun d => (d, r.2)
variable {f fb : Ef} {K : Frg}
theorem re_cb {r : List V → Hp → VK → Prop} {g : D → Option D} {ta : TE} (ho : GC K r g) (ha : RO K ta f) : RE K (tCB r (tCons ta tNil)) (eUn g f) := fun G F env s H d env' k e Q q => by
  obtain ⟨d1, h1, h3⟩ := un_some e
  refine ha G F env s H d1 env' k h1 _ fun F1 H1 v1 k1 s1 p1 => ?_
  exact ho G F1 env' s H1 v1 d1 d k1 p1 h3 Q fun F3 H3 v3 k3 s3 p3 => q F3 H3 v3 k3 (s1.trans s3) p3
theorem rn_cb {r : List V → Hp → VK → Prop} {g : D → Option (List D)} {ta : TE} (ho : GCN K r g) (ha : RO K ta f) : RN K (tCB r (tCons ta tNil)) (lUn g f) := fun G F env s H d env' k e Q q => by
  unfold lUn at e
  obtain ⟨⟨d1, e1⟩, h1, e⟩ := Option.bind_eq_some_iff.mp e
  obtain ⟨z, h3, e⟩ := Option.map_eq_some_iff.mp e
  cases e
  refine ha G F env s H d1 e1 k h1 _ fun F1 H1 v1 k1 s1 p1 => ?_
  exact ho G F1 e1 s H1 v1 d1 d k1 p1 h3 Q fun F3 H3 p vs k3 s3 p3 => q F3 H3 p vs k3 (s1.trans s3) p3
theorem re_cb2 {r : List V → Hp → VK → Prop} {g : D → D → Option D} {ta tb : TE} (ho : GC2 K r g) (ha : RE K ta f) (hb : RE K tb fb) : RE K (tCB r (tCons ta (tCons tb tNil))) (eBin g f fb) := fun G F env s H d env' k e Q q => by
  obtain ⟨d1, e1, d2, h1, h2, h3⟩ := bin_some e
  refine ha G F env s H d1 e1 k h1 _ fun F1 H1 v1 k1 s1 p1 => ?_
  refine hb G F1 e1 s H1 d2 env' k1 h2 _ fun F2 H2 v2 k2 s2 p2 => ?_
  exact ho G F2 env' s H2 v1 v2 d1 d2 d k2 (Dt.mono s2 d1 v1 p1) p2 h3 Q fun F3 H3 v3 k3 s3 p3 => q F3 H3 v3 k3 ((s1.trans s2).trans s3) p3
section
variable {id T : String} {r : List V → Hp → VK → Prop}
theorem xe_cbB {g : D → Option D} (hc : CallR X (.builtin id) r) (hv : bootBuiltins x = some (.builtin id)) (ho : GC X.K r g) (hm : X.mg x = none) (ha : XO X e f) (hg : Gl X x := by rfl) (hn : x ≠ "__name__" := by decide) (hdb : (x == ("__debug__" : Str)) = false := by decide)
    (he : starEach [e] X.env = (false, eval e X.env) :: starEach [] X.env := by rfl) (hpl : (backTo pos (starEach [] X.env)).any (·.1) = false := by rfl) : XE X (.Call (.Name x p) [e] [] pos) (eUn g f) :=
  let ⟨_, h1, h2⟩ := ha.ex; ⟨_, pe_callB hc hg hm hv (pa_cons h1 pa_nil he) hn hdb he hpl, re_cb ho h2⟩
theorem xe_cbT {g : D → Option D} (hc : CallR X (.type T) r) (hv : bootBuiltins x = some (.type T)) (ho : GC X.K r g) (hm : X.mg x = none) (ha : XO X e f) (hg : Gl X x := by rfl) (hn : x ≠ "__name__" := by decide) (hdb : (x == ("__debug__" : Str)) = false := by decide)
    (he : starEach [e] X.env = (false, eval e X.env) :: starEach [] X.env := by rfl) (hpl : (backTo pos (starEach [] X.env)).any (·.1) = false := by rfl) : XE X (.Call (.Name x p) [e] [] pos) (eUn g f) :=
  let ⟨_, h1, h2⟩ := ha.ex; ⟨_, pe_callTy hc hg hm hv (pa_cons h1 pa_nil he) hn hdb he hpl, re_cb ho h2⟩
theorem xn_cbT {g : D → Option (List D)} (hc : CallR X (.type T) r) (hv : bootBuiltins x = some (.type T)) (ho : GCN X.K r g) (hm : X.mg x = none) (ha : XO X e f) (hg : Gl X x := by rfl) (hn : x ≠ "__name__" := by decide) (hdb : (x == ("__debug__" : Str)) = false := by decide)
    (he : starEach [e] X.env = (false, eval e X.env) :: starEach [] X.env := by rfl) (hpl : (backTo pos (starEach [] X.env)).any (·.1) = false := by rfl) : XN X (.Call (.Name x p) [e] [] pos) (lUn g f) :=
  let ⟨_, h1, h2⟩ := ha.ex; ⟨_, pe_callTy hc hg hm hv (pa_cons h1 pa_nil he) hn hdb he hpl, rn_cb ho h2⟩
theorem xe_cb2 {e2 : Expr} {g : D → D → Option D} (hc : CallR X (.builtin id) r) (hv : bootBuiltins x = some (.builtin id)) (ho : GC2 X.K r g) (hm : X.mg x = none) (ha : XE X e f) (hb : XE X e2 fb) (hg : Gl X x := by rfl) (hn : x ≠ "__name__" := by decide) (hdb : (x == ("__debug__" : Str)) = false := by decide)
    (he : starEach [e, e2] X.env = (false, eval e X.env) :: starEach [e2] X.env := by rfl) (he2 : starEach [e2] X.env = (false, eval e2 X.env) :: starEach [] X.env := by rfl) (hpl : (backTo pos (starEach [e2] X.env)).any (·.1) = false := by rfl) : XE X (.Call (.Name x p) [e, e2] [] pos) (eBin g f fb) :=
  let ⟨_, h1, h2⟩ := ha.ex; let ⟨_, h3, h4⟩ := hb.ex; ⟨_, pe_callB hc hg hm hv (pa_cons h1 (pa_cons h3 pa_nil he2) he) hn hdb he hpl, re_cb2 ho h2 h4⟩
end
end
end M

namespace M
open PySem PySem.Spec PyProof.Rows L2

inductive Out where
  | nx (env : En) | rt (d : D) (env : En) | rn (ds : List D) (env : En) | rp (as ds : List D) (env : En)
/-- a new tuple that ends in a new list, both nobody's yet -/
structure NewT (G : Gm) (F H : Hp) (env : En) (s : L2.St) (t p : Addr) (vs us : List V) (as ds : List D) : Prop where
  ht : H t = some (.tup (vs ++ [.ref p]))
  ft : F t = none
  t0 : G.H0 t = none
  tP : G.P t = none
  hp : H p = some (.lst us)
  fp : F p = none
  p0 : G.H0 p = none
  pP : G.P p = none
  pn : ∀ (j : Nat) l es, env[j]? = some (.own l es) → s[j]? ≠ some (some (.ref p))
  da : Da F vs as
  du : Da F us ds
/-- both frozen -/
theorem NewT.frz {K : Frg} {G : Gm} {F H : Hp} {env : En} {s : L2.St} {t p : Addr} {vs us : List V} {as ds : List D} (n : NewT G F H env s t p vs us as ds) (k : Ok K G F env s H) : ∃ F', Ok K G F' env s H ∧ Same F F' ∧ Dt F' (.ref t) (.tuple (as ++ [.list ds])) ∧ F' t = some (.tup (vs ++ [.ref p])) ∧ F' p = some (.lst us) := by
  have k1 := k.freeze n.hp n.fp n.p0 n.pn (k.notdctL n.hp)
  have ne : t ≠ p := fun e => by have := n.ht; rw [e, n.hp] at this; cases this
  have f1 : upd F p (.lst us) t = none := by rw [upd_ne ne]; exact n.ft
  have k2 := k1.freeze n.ht f1 n.t0 (fun j l es e z => by
    obtain ⟨a, ws, h1, h2, _⟩ := k.own j l es e
    rw [z] at h1; cases h1
    rw [n.ht] at h2; cases h2) (k1.notdctT n.ht)
  have s1 : Same F (upd F p (.lst us)) := same_upd n.fp
  have s2 : Same (upd F p (.lst us)) (upd (upd F p (.lst us)) t (.tup (vs ++ [.ref p]))) := same_upd f1
  exact ⟨_, k2, s1.trans s2, .tup upd_same ((Da.mono (s1.trans s2) _ _ n.da).append (.cons (.lst (s2 _ _ upd_same) (Da.mono (s1.trans s2) _ _ n.du)) .nil)), upd_same, s2 _ _ upd_same⟩
abbrev Sf := En → Option Out
def RSx (K : Frg) (G : Gm) (F : Hp) (E : Ends) : Out → Prop
  | .nx env => ∀ F' s' H', Ok K G F' env s' H' → Same F F' → E.nx s' H'
  | .rt d env => ∀ F' s' H' v, Ok K G F' env s' H' → Same F F' → Dt F' v d → E.rt v H'
  | .rn ds env => ∀ F' s' H' p vs, Ok K G F' env s' H' → Same F F' → H' p = some (.lst vs) → F' p = none → G.H0 p = none → G.P p = none → (∀ (j : Nat) l es, env[j]? = some (.own l es) → s'[j]? ≠ some (some (.ref p))) → Da F' vs ds → E.rt (.ref p) H'
  | .rp as ds env => ∀ F' s' H' t p vs us, Ok K G F' env s' H' → Same F F' → NewT G F' H' env s' t p vs us as ds → E.rt (.ref t) H'
def RS (K : Frg) (t : TS) (f : Sf) : Prop := ∀ G F env s H o, Ok K G F env s H → f env = some o → ∀ E : Ends, RSx K G F E o → t E s H
structure XS (X : Cx) (st : Stmt) (f : Sf) : Prop where
  ex : ∃ t, PS X st t ∧ RS X.K t f
structure XSs (X : Cx) (sts : List Stmt) (f : Sf) : Prop where
  ex : ∃ t, PSs X sts t ∧ RS X.K t f
theorem RSx.up {K : Frg} {G : Gm} {F F' : Hp} {E : Ends} {o : Out} (s : Same F F') (h : RSx K G F E o) : RSx K G F' E o := by
  cases o with
  | nx env => exact fun F2 s2 H2 k e => h F2 s2 H2 k (s.trans e)
  | rt d env => exact fun F2 s2 H2 v k e p => h F2 s2 H2 v k (s.trans e) p
  | rn ds env => exact fun F2 s2 H2 p vs k e h1 h2 h3 h4 h5 h6 => h F2 s2 H2 p vs k (s.trans e) h1 h2 h3 h4 h5 h6
  | rp as ds env => exact fun F2 s2 H2 t p vs us k e n => h F2 s2 H2 t p vs us k (s.trans e) n
/-- what isn't the next statement hangs on the return alone -/
theorem RSx.same_rt {K : Frg} {G : Gm} {F : Hp} {E E' : Ends} {o : Out} (he : E'.rt = E.rt) (ho : ∀ env, o ≠ .nx env) (h : RSx K G F E o) : RSx K G F E' o := by
  cases o with
  | nx env => exact absurd rfl (ho env)
  | rt d env => exact fun F2 s2 H2 v k e p => by rw [he]; exact h F2 s2 H2 v k e p
  | rn ds env => exact fun F2 s2 H2 p vs k e h1 h2 h3 h4 h5 h6 => by rw [he]; exact h F2 s2 H2 p vs k e h1 h2 h3 h4 h5 h6
  | rp as ds env => exact fun F2 s2 H2 t p vs us k e n => by rw [he]; exact h F2 s2 H2 t p vs us k e n
def sNil : Sf := fun env => some (.nx env)
def sSeq (f g : Sf) : Sf := fun env => (f env).bind fun o => match o with
  | .nx env1 => g env1
  | o => some o
section
variable {X : Cx} {K : Frg} {st : Stmt} {rest : List Stmt} {e a b : Expr} {f g : Sf} {fe fa fb : Ef} {pos : Pos}
theorem rs_seq {t u : TS} (h1 : RS K t f) (h2 : RS K u g) : RS K (tSeq t u) (sSeq f g) := fun G F env s H o k e E q => by
  unfold sSeq at e
  obtain ⟨o1, h3, e⟩ := Option.bind_eq_some_iff.mp e
  cases o1 with
  | nx env1 =>
    refine h1 G F env s H _ k h3 _ ?_
    exact fun F1 s1 H1 k1 e1 => h2 G F1 env1 s1 H1 o k1 e E (q.up e1)
  | rt d env1 =>
    cases e
    exact h1 G F env s H _ k h3 _ q
  | rn ds env1 =>
    cases e
    exact h1 G F env s H _ k h3 _ q
  | rp as ds env1 =>
    cases e
    exact h1 G F env s H _ k h3 _ q
theorem xss_nil : XSs X [] sNil := ⟨_, pss_nil, fun G F env s H o k e E q => by cases e; exact q F s H k (Same.refl F)⟩
theorem xss_cons (h1 : XS X st f) (h2 : XSs X rest g) : XSs X (st :: rest) (sSeq f g) :=
  let ⟨_, p1, q1⟩ := h1.ex; let ⟨_, p2, q2⟩ := h2.ex; ⟨_, pss_cons p1 p2, rs_seq q1 q2⟩
theorem xss_one (h1 : XS X st f) : XSs X [st] f := let ⟨_, p1, q1⟩ := h1.ex; ⟨_, pss_one p1, q1⟩
def sNo : Sf := fun _ => none
theorem xs_never : XS X st sNo := ⟨_, ps_never, fun G F env s H o k e E q => by cases e⟩
def sExpr (f : Ef) : Sf := fun env => (f env).map fun r => .nx r.2
theorem xs_expr (he : XE X e fe) (hs : swapsWith e none pos.line X.env = pure false := by rfl) : XS X (.Expr e pos) (sExpr fe) := by
  obtain ⟨t, h1, h2⟩ := he.ex
  refine ⟨_, ps_expr h1 hs, fun G F env s H o k e E q => ?_⟩
  unfold sExpr at e
  obtain ⟨⟨d, e1⟩, h3, e⟩ := Option.map_eq_some_iff.mp e
  cases e
  exact h2 G F env s H d e1 k h3 _ fun F1 H1 v k1 s1 p1 => q F1 s H1 k1 s1
def sRet (f : Ef) : Sf := fun env => (f env).map fun r => .rt r.1 r.2
theorem xs_ret (he : XE X e fe) : XS X (.Return (some e) pos) (sRet fe) := by
  obtain ⟨t, h1, h2⟩ := he.ex
  refine ⟨_, ps_ret h1, fun G F env s H o k e E q => ?_⟩
  unfold sRet at e
  obtain ⟨⟨d, e1⟩, h3, e⟩ := Option.map_eq_some_iff.mp e
  cases e
  exact h2 G F env s H d e1 k h3 _ fun F1 H1 v k1 s1 p1 => q F1 s H1 v k1 s1 p1
/-- a new list is handed back -/
def sRetL (f : Lf) : Sf := fun env => (f env).map fun r => .rn r.1 r.2
theorem xs_retL {fl : Lf} (he : XN X e fl) : XS X (.Return (some e) pos) (sRetL fl) := by
  obtain ⟨t, h1, h2⟩ := he.ex
  refine ⟨_, ps_ret h1, fun G F env s H o k e E q => ?_⟩
  unfold sRetL at e
  obtain ⟨⟨d, e1⟩, h3, e⟩ := Option.map_eq_some_iff.mp e
  cases e
  exact h2 G F env s H d e1 k h3 _ fun F1 H1 p vs k1 s1 g1 g2 g3 g4 g5 g6 => q F1 s H1 p vs k1 s1 g1 g2 g3 g4 g5 g6
def sRetN : Sf := fun env => some (.rt .none env)
/-- a list that the def made, frozen -/
def frz (i : Nat) : En → Option En := fun env => match env[i]? with
  | some (.own true ds) => some (env.set i (.val (.list ds)))
  | some (.val d) => some env
  | _ => none
theorem set_get {α : Type} {l : List α} {i j : Nat} {x y : α} (h : (l.set i x)[j]? = some y) : (i = j ∧ i < l.length ∧ x = y) ∨ (i ≠ j ∧ l[j]? = some y) := by
  by_cases hj : i = j
  · subst hj
    have hl : i < l.length := by have := (List.getElem?_eq_some_iff.mp h).1; simpa using this
    rw [List.getElem?_set_self hl] at h
    cases h
    exact .inl ⟨rfl, hl, rfl⟩
  · rw [List.getElem?_set_ne hj] at h
    exact .inr ⟨hj, h⟩
/-- a slot's own list becomes a value -/
theorem frz_ok {G : Gm} {F : Hp} {env env' : En} {s : L2.St} {H : Hp} {i : Nat} (k : Ok K G F env s H) (e : frz i env = some env') : ∃ F', Ok K G F' env' s H ∧ Same F F' := by
  unfold frz at e
  split at e
  · rename_i ds h
    cases e
    obtain ⟨a, vs, h1, h2, h3, h4, h5, h6, _⟩ := k.own i true ds h
    have hi : i < env.length := (List.getElem?_eq_some_iff.mp h).1
    have k0 : Ok K G F (env.set i .no) s H := by
      refine ⟨by rw [k.len]; simp, k.fr, fun j d e => ?_, fun j l es e => ?_, fun j es e => ?_, fun j j' l es m fs e1 e2 e3 => ?_, k.pin, k.dom, k.grow, k.new, k.rin, k.dct.slots fun j w kvs e => ?_⟩
      · rcases set_get e with ⟨_, _, z⟩ | ⟨_, z⟩
        · cases z
        · exact k.val j d z
      · rcases set_get e with ⟨_, _, z⟩ | ⟨_, z⟩
        · cases z
        · exact k.own j l es z
      · rcases set_get e with ⟨_, _, z⟩ | ⟨_, z⟩
        · cases z
        · exact k.ro j es z
      · rcases set_get e1 with ⟨_, _, z⟩ | ⟨_, z⟩
        · cases z
        · rcases set_get e2 with ⟨_, _, z2⟩ | ⟨_, z2⟩
          · cases z2
          · exact k.sep j j' _ _ _ _ z z2 e3
      · rcases set_get e with ⟨_, _, z⟩ | ⟨_, z⟩
        · cases z
        · exact ⟨z, rfl⟩
    have k1 := k0.freeze h2 h3 (h6 rfl) (fun j l es e z => by
      rcases set_get e with ⟨_, _, z2⟩ | ⟨hj, z2⟩
      · cases z2
      · exact hj (k.sep i j _ _ _ _ h z2 (h1.trans z.symm))) (k0.notdctL h2)
    refine ⟨_, ⟨by rw [k.len]; simp, k1.fr, fun j d e => ?_, fun j l es e => ?_, fun j es e => ?_, fun j j' l es m fs e1 e2 e3 => ?_, k1.pin, k1.dom, k1.grow, k1.new, k1.rin, k1.dct.slots fun j w kvs e => ?_⟩, same_upd h3⟩
    · rcases set_get e with ⟨rfl, _, z⟩ | ⟨hj, z⟩
      · cases z
        exact ⟨_, h1, .lst upd_same (Da.mono (same_upd h3) _ _ h5)⟩
      · exact k1.val j d (by rw [List.getElem?_set_ne hj]; exact z)
    · rcases set_get e with ⟨rfl, _, z⟩ | ⟨hj, z⟩
      · cases z
      · exact k1.own j l es (by rw [List.getElem?_set_ne hj]; exact z)
    · rcases set_get e with ⟨rfl, _, z⟩ | ⟨hj, z⟩
      · cases z
      · exact k1.ro j es (by rw [List.getElem?_set_ne hj]; exact z)
    · rcases set_get e1 with ⟨_, _, z⟩ | ⟨hj1, z⟩
      · cases z
      · rcases set_get e2 with ⟨_, _, z2⟩ | ⟨hj2, z2⟩
        · cases z2
        · exact k1.sep j j' _ _ _ _ (by rw [List.getElem?_set_ne hj1]; exact z) (by rw [List.getElem?_set_ne hj2]; exact z2) e3
    · rcases set_get e with ⟨rfl, _, z⟩ | ⟨hj, z⟩
      · cases z
      · exact ⟨by rw [List.getElem?_set_ne hj]; exact z, rfl⟩
  · cases e
    exact ⟨F, k, Same.refl F⟩
  · cases e
/-- the def's own list is handed back -/
def sRetO (i : Nat) : Sf := fun env => match env[i]? with
  | some (.own true ds) => some (.rn ds (env.set i .no))
  | _ => none
def sFrz (i : Nat) (f : Sf) : Sf := fun env => (frz i env).bind f
theorem rs_frz {t : TS} (i : Nat) (h : RS K t f) : RS K t (sFrz i f) := fun G F env s H o k e E q => by
  unfold sFrz at e
  obtain ⟨env1, h1, e⟩ := Option.bind_eq_some_iff.mp e
  obtain ⟨F1, k1, s1⟩ := frz_ok k h1
  exact h G F1 env1 s H o k1 e E (q.up s1)
/-- ahead of a statement a list is frozen -/
theorem xs_frz (i : Nat) (h : XS X st f) : XS X st (sFrz i f) := let ⟨_, p, q⟩ := h.ex; ⟨_, p, rs_frz i q⟩
def sIf (c : Bf) (f g : Sf) : Sf := fun env => (c env).bind fun r => if r.1 then f r.2 else g r.2
theorem xs_if {c : Expr} {p1 p2 : List Stmt} {gc : Bf} (hc : XB X c gc) (ha : XSs X p1 f) (hb : XSs X p2 g) : XS X (.If c p1 p2 pos) (sIf gc f g) := by
  obtain ⟨t, h1, h2⟩ := hc.ex
  obtain ⟨ta, h3, h4⟩ := ha.ex
  obtain ⟨tb, h5, h6⟩ := hb.ex
  refine ⟨_, ps_if h1 h3 h5, fun G F env s H o k e E q => ?_⟩
  unfold sIf at e
  obtain ⟨⟨c, e1⟩, h7, e⟩ := Option.bind_eq_some_iff.mp e
  refine h2 G F env s H c e1 k h7 _ fun F1 H1 k1 s1 => ?_
  cases c with
  | true =>
    rw [if_pos rfl] at e ⊢
    exact h4 G F1 e1 s H1 o k1 e E (q.up s1)
  | false =>
    rw [if_neg Bool.false_ne_true] at e ⊢
    exact h6 G F1 e1 s H1 o k1 e E (q.up s1)

/-! ### assignment -/
theorem ok_set {G : Gm} {F : Hp} {env : En} {s : L2.St} {H : Hp} {i : Nat} {d : D} {v : V} (k : Ok K G F env s H) (p : Dt F v d) : Ok K G F (env.set i (.val d)) (s.set i (some v)) H := by
  refine ⟨by simp [k.len], k.fr, fun j d' e => ?_, fun j l es e => ?_, fun j es e => ?_, fun j j' l es m fs e1 e2 e3 => ?_, k.pin, k.dom, k.grow, k.new, k.rin, k.dct.slots fun j w kvs e => ?_⟩
  · rcases set_get e with ⟨rfl, hl, z⟩ | ⟨hj, z⟩
    · cases z
      exact ⟨v, by rw [List.getElem?_set_self (by rw [k.len]; exact hl)], p⟩
    · rw [List.getElem?_set_ne hj]
      exact k.val j d' z
  · rcases set_get e with ⟨rfl, hl, z⟩ | ⟨hj, z⟩
    · cases z
    · rw [List.getElem?_set_ne hj]
      exact k.own j l es z
  · rcases set_get e with ⟨rfl, hl, z⟩ | ⟨hj, z⟩
    · cases z
    · rw [List.getElem?_set_ne hj]
      exact k.ro j es z
  · rcases set_get e1 with ⟨rfl, hl, z⟩ | ⟨hj, z⟩
    · cases z
    · rcases set_get e2 with ⟨rfl, hl, z2⟩ | ⟨hj2, z2⟩
      · cases z2
      · rw [List.getElem?_set_ne hj, List.getElem?_set_ne hj2] at e3
        exact k.sep j j' _ _ _ _ z z2 e3
  · rcases set_get e with ⟨_, _, z⟩ | ⟨hj, z⟩
    · cases z
    · exact ⟨z, List.getElem?_set_ne hj⟩
theorem ok_setO {G : Gm} {F : Hp} {env : En} {s : L2.St} {H : Hp} {i : Nat} {ds : List D} {p : Addr} {vs : List V} (k : Ok K G F env s H) (h1 : H p = some (.lst vs)) (h2 : F p = none) (h3 : G.H0 p = none) (h4 : G.P p = none)
    (h5 : ∀ (j : Nat) l es, env[j]? = some (.own l es) → s[j]? ≠ some (some (.ref p))) (h6 : Da F vs ds) : Ok K G F (env.set i (.own true ds)) (s.set i (some (.ref p))) H := by
  refine ⟨by simp [k.len], k.fr, fun j d' e => ?_, fun j l es e => ?_, fun j es e => ?_, fun j j' l es m fs e1 e2 e3 => ?_, k.pin, k.dom, k.grow, k.new, k.rin, k.dct.slots fun j w kvs e => ?_⟩
  · rcases set_get e with ⟨rfl, hl, z⟩ | ⟨hj, z⟩
    · cases z
    · rw [List.getElem?_set_ne hj]
      exact k.val j d' z
  · rcases set_get e with ⟨rfl, hl, z⟩ | ⟨hj, z⟩
    · cases z
      exact ⟨p, vs, by rw [List.getElem?_set_self (by rw [k.len]; exact hl)], h1, h2, h4, h6, fun _ => h3, fun z => by cases z⟩
    · rw [List.getElem?_set_ne hj]
      exact k.own j l es z
  · rcases set_get e with ⟨rfl, hl, z⟩ | ⟨hj, z⟩
    · cases z
    · rw [List.getElem?_set_ne hj]
      exact k.ro j es z
  · rcases set_get e1 with ⟨rfl, hl, z⟩ | ⟨hj, z⟩
    · rcases set_get e2 with ⟨rfl, hl2, z2⟩ | ⟨hj2, z2⟩
      · rfl
      · rw [List.getElem?_set_self (by rw [k.len]; exact hl), List.getElem?_set_ne hj2] at e3
        exact absurd e3.symm (h5 j' _ _ z2)
    · rcases set_get e2 with ⟨rfl, hl, z2⟩ | ⟨hj2, z2⟩
      · rw [List.getElem?_set_self (by rw [k.len]; exact hl), List.getElem?_set_ne hj] at e3
        exact absurd e3 (h5 j _ _ z)
      · rw [List.getElem?_set_ne hj, List.getElem?_set_ne hj2] at e3
        exact k.sep j j' _ _ _ _ z z2 e3
  · rcases set_get e with ⟨_, _, z⟩ | ⟨hj, z⟩
    · cases z
    · exact ⟨z, List.getElem?_set_ne hj⟩
def sSet (i : Nat) (f : Ef) : Sf := fun env => (f env).map fun r => .nx (r.2.set i (.val r.1))
def sSetO (i : Nat) (f : Lf) : Sf := fun env => (f env).map fun r => .nx (r.2.set i (.own true r.1))
theorem rs_set {t : TE} (i : Nat) (h2 : RE K t fe) : RS K (tAsg t (gName i)) (sSet i fe) := fun G F env s H o k e E q => by
  unfold sSet at e
  obtain ⟨⟨d, e1⟩, h3, e⟩ := Option.map_eq_some_iff.mp e
  cases e
  exact h2 G F env s H d e1 k h3 _ fun F1 H1 v k1 s1 p1 => q F1 _ H1 (ok_set k1 p1) s1
theorem rs_setO {t : TE} {fl : Lf} (i : Nat) (h2 : RN K t fl) : RS K (tAsg t (gName i)) (sSetO i fl) := fun G F env s H o k e E q => by
  unfold sSetO at e
  obtain ⟨⟨d, e1⟩, h3, e⟩ := Option.map_eq_some_iff.mp e
  cases e
  exact h2 G F env s H d e1 k h3 _ fun F1 H1 p vs k1 s1 h1 h2 h3 h4 h5 h6 => q F1 _ H1 (ok_setO k1 h1 h2 h3 h4 h5 h6) s1
theorem xs_set (i : Nat) {x : Str} {pos' : Pos} (he : XE X e fe) (hN : X.N.Nodup) (hi : X.N[i]? = some x := by rfl) (hx : Loc X.env.scope x := by first | exact Or.inl rfl | exact Or.inr rfl) (hs : swapsWith e (some (.Name x pos')) pos.line X.env = pure false := by rfl)
    (hf : X.fn x = true ∨ X.env.scope.names.lookup x = some .local := by first | exact .inl rfl | exact .inr rfl | assumption) : XS X (.Assign [.Name x pos'] e pos) (sSet i fe) :=
  let ⟨_, h1, h2⟩ := he.ex; ⟨_, ps_set hN hi hx h1 hs hf, rs_set i h2⟩
theorem xs_setO (i : Nat) {x : Str} {pos' : Pos} {fl : Lf} (he : XN X e fl) (hN : X.N.Nodup) (hi : X.N[i]? = some x := by rfl) (hx : Loc X.env.scope x := by first | exact Or.inl rfl | exact Or.inr rfl) (hs : swapsWith e (some (.Name x pos')) pos.line X.env = pure false := by rfl)
    (hf : X.fn x = true ∨ X.env.scope.names.lookup x = some .local := by first | exact .inl rfl | exact .inr rfl | assumption) : XS X (.Assign [.Name x pos'] e pos) (sSetO i fl) :=
  let ⟨_, h1, h2⟩ := he.ex; ⟨_, ps_set hN hi hx h1 hs hf, rs_setO i h2⟩

/-! ### targets -/
abbrev Tf := D → En → Option En
def RG (K : Frg) (t : TG) (g : Tf) (sl : List Nat) : Prop := ∀ G F env s H v d env', Ok K G F env s H → Dt F v d → g d env = some env' → ∀ Q : L2.St → Hp → Prop,
  (∀ s', Ok K G F env' s' H → (∀ vs : List Nat, (∀ i ∈ sl, i ∈ vs) → wipe s' vs = wipe s vs) → Q s' H) → t v s H Q
def RGs (K : Frg) (t : TGs) (g : List D → En → Option En) (sl : List Nat) : Prop := ∀ G F env s H vs ds env', Ok K G F env s H → Da F vs ds → g ds env = some env' → ∀ Q : L2.St → Hp → Prop,
  (∀ s', Ok K G F env' s' H → (∀ vs : List Nat, (∀ i ∈ sl, i ∈ vs) → wipe s' vs = wipe s vs) → Q s' H) → t vs s H Q
structure XG (X : Cx) (tg : Expr) (g : Tf) (sl : List Nat) : Prop where
  ex : ∃ t, PG X tg t ∧ RG X.K t g sl
structure XGs (X : Cx) (tgs : List Expr) (g : List D → En → Option En) (sl : List Nat) : Prop where
  ex : ∃ t, PGs X tgs t ∧ RGs X.K t g sl
theorem wipe_get (s : L2.St) : ∀ (vs : List Nat) (j : Nat), (wipe s vs)[j]? = if j ∈ vs ∧ j < s.length then some none else s[j]?
  | [], j => by simp [wipe]
  | v :: vs, j => by
    unfold wipe
    by_cases hj : v = j
    · subst hj
      by_cases hl : v < s.length
      · rw [List.getElem?_set_self (by rw [wipe_length]; exact hl)]
        simp [hl]
      · rw [List.getElem?_eq_none (by rw [List.length_set, wipe_length]; omega), List.getElem?_eq_none (by omega)]
        simp [hl]
    · rw [List.getElem?_set_ne hj, wipe_get s vs j]
      have : ¬ j = v := fun e => hj e.symm
      simp [this]
theorem wipe_set {s : L2.St} {i : Nat} {x : Option V} {vs : List Nat} (h : i ∈ vs) : wipe (s.set i x) vs = wipe s vs := by
  refine List.ext_getElem? fun j => ?_
  rw [wipe_get, wipe_get, List.length_set]
  by_cases hj : j ∈ vs ∧ j < s.length
  · rw [if_pos hj, if_pos hj]
  · rw [if_neg hj, if_neg hj]
    by_cases hi : i = j
    · subst hi
      have : ¬ i < s.length := fun z => hj ⟨h, z⟩
      rw [List.getElem?_eq_none (by simp; omega), List.getElem?_eq_none (by omega)]
    · rw [List.getElem?_set_ne hi]
def tN (i : Nat) : Tf := fun d env => some (env.set i (.val d))
theorem xg_name (i : Nat) {x : Str} (hN : X.N.Nodup) (hi : X.N[i]? = some x := by rfl) (hx : Loc X.env.scope x := by first | exact Or.inl rfl | exact Or.inr rfl) (hf : X.fn x = true ∨ X.env.scope.names.lookup x = some .local := by first | exact .inl rfl | exact .inr rfl | assumption) : XG X (.Name x pos) (tN i) [i] :=
  ⟨_, pg_name hN hi hx hf, fun G F env s H v d env' k p e Q q => by
    cases e
    exact q _ (ok_set k p) fun vs h => wipe_set (h i (by simp))⟩
def gsN : List D → En → Option En := fun ds env => match ds with
  | [] => some env
  | _ => none
def gsC (g : Tf) (r : List D → En → Option En) : List D → En → Option En := fun ds env => match ds with
  | d :: ds => (g d env).bind (r ds)
  | [] => none
theorem xgs_nil : XGs X [] gsN [] := ⟨_, pgs_nil, fun G F env s H vs ds env' k p e Q q => by
  unfold gsN at e
  split at e
  · cases p; cases e; exact ⟨rfl, q s k fun _ _ => rfl⟩
  · cases e⟩
theorem xgs_cons {es : List Expr} {g : Tf} {r : List D → En → Option En} {s1 s2 : List Nat} (h1 : XG X e g s1) (h2 : XGs X es r s2) (hs : (assignEach (e :: es) X.env).map (·.2) = assign e X.env :: (assignEach es X.env).map (·.2) := by rfl) : XGs X (e :: es) (gsC g r) (s1 ++ s2) := by
  obtain ⟨t, p1, q1⟩ := h1.ex
  obtain ⟨u, p2, q2⟩ := h2.ex
  refine ⟨_, pgs_cons p1 p2 hs, fun G F env s H vs ds env' k p e Q q => ?_⟩
  cases p with
  | nil => cases e
  | cons pa pb =>
    obtain ⟨env1, h3, h4⟩ := Option.bind_eq_some_iff.mp (show (g _ env).bind (r _) = some env' from e)
    refine ⟨_, _, rfl, q1 G F env s H _ _ env1 k pa h3 _ fun s1' k1 w1 => ?_⟩
    exact q2 G F env1 s1' H _ _ env' k1 pb h4 Q fun s2' k2 w2 => q s2' k2 fun vs hv => (w2 vs fun i hi => hv i (List.mem_append_right _ hi)).trans (w1 vs fun i hi => hv i (List.mem_append_left _ hi))
def tT (n : Nat) (r : List D → En → Option En) : Tf := fun d env => match d with
  | .tuple ds => if ds.length = n then r ds env else none
  | _ => none
theorem xg_tup {es : List Expr} {k : Nat} {r : List D → En → Option En} {sl : List Nat} {n : Nat} (h : XGs X es r sl) (hc : X.calm = true := by rfl) (hn : (assignEach es X.env).length = n := by rfl) (hst : (assignEach es X.env).findIdx? (·.1) = none := by rfl) : XG X (.Tuple es k pos) (tT n r) sl := by
  obtain ⟨t, p1, q1⟩ := h.ex
  refine ⟨_, pg_tup hc p1 hn hst, fun G F env s H v d env' k p e Q q => ?_⟩
  cases p with
  | tup a b =>
    unfold tT at e
    dsimp only at e
    split at e
    · rename_i hl
      exact ⟨_, _, rfl, SqT.of (k.fr _ _ a), by rw [b.length]; exact hl, q1 G F env s H _ _ env' k b e Q q⟩
    · cases e
  | _ => cases e
def sAsg (f : Ef) (g : Tf) : Sf := fun env => (f env).bind fun r => (g r.1 r.2).map .nx
theorem xs_asg {tg : Expr} {g : Tf} {sl : List Nat} (he : XE X e fe) (hg : XG X tg g sl) (hs : swapsWithSole [tg] e pos.line X.env = pure false := by rfl) (hw : swappedStores [tg] e X.env = pure none := by rfl)
    (h1 : (assignEach [tg] X.env).map (·.2) = [assign tg X.env] := by rfl) : XS X (.Assign [tg] e pos) (sAsg fe g) := by
  obtain ⟨t, p1, q1⟩ := he.ex
  obtain ⟨u, p2, q2⟩ := hg.ex
  refine ⟨_, ps_asg p1 p2 hs hw h1, fun G F env s H o k e E q => ?_⟩
  unfold sAsg at e
  obtain ⟨⟨d, e1⟩, h3, e⟩ := Option.bind_eq_some_iff.mp e
  obtain ⟨e2, h4, e⟩ := Option.map_eq_some_iff.mp e
  cases e
  refine q1 G F env s H d e1 k h3 _ fun F1 H1 v k1 s1 pd => ?_
  exact q2 G F1 e1 s H1 v d e2 k1 pd h4 _ fun s' k2 _ => q F1 s' H1 k2 s1
/-- a, b = x, y -/
def sPar (i j : Nat) (g : Lf) : Sf := fun env => (g env).bind fun r => match r.1 with
  | [d, e] => some (.nx ((r.2.set i (.val d)).set j (.val e)))
  | _ => none
theorem xs_par (i j : Nat) {x y : Str} {px py pt : Pos} {kt k2 pt2} {g : Lf} (ha : XL X [a, b] g) (hN : X.N.Nodup) (hw : swappedStores [.Tuple [.Name x px, .Name y py] kt pt] (.Tuple [a, b] k2 pt2) X.env = pure (some [x, y]) := by rfl) (hc : X.calm = true := by rfl) (hi : X.N[i]? = some x := by rfl) (hj : X.N[j]? = some y := by rfl) (hij : i ≠ j := by decide)
    (hx : X.env.scope.names.lookup x = some .local := by rfl) (hy : X.env.scope.names.lookup y = some .local := by rfl)
    (hs : swapsWithSole [.Tuple [.Name x px, .Name y py] kt pt] (.Tuple [a, b] k2 pt2) pos.line X.env = pure false := by rfl) :
    XS X (.Assign [.Tuple [.Name x px, .Name y py] kt pt] (.Tuple [a, b] k2 pt2) pos) (sPar i j g) := by
  obtain ⟨t, p1, q1⟩ := ha.ex
  refine ⟨_, ps_par hc hN hi hj hij hx hy p1 hw hs, fun G F env s H o k e E q => ?_⟩
  unfold sPar at e
  obtain ⟨⟨ds, e1⟩, h3, e⟩ := Option.bind_eq_some_iff.mp e
  refine q1 G F env s H ds e1 k h3 _ fun F1 H1 vs k1 s1 pd => ?_
  dsimp only at e
  split at e
  · cases e
    cases pd with
    | cons pa pb =>
      cases pb with
      | cons pb pc =>
        cases pc
        exact ⟨_, _, rfl, q F1 _ H1 (ok_set (ok_set k1 pa) pb) s1⟩
  · cases e

/-! ### lists that the def owns: changed in place -/
theorem ok_mut {G : Gm} {F : Hp} {env : En} {s : L2.St} {H : Hp} {i : Nat} {l : Bool} {ds es : List D} {a : Addr} {us : List V} (k : Ok K G F env s H) (h : env[i]? = some (.own l ds)) (ha : s[i]? = some (some (.ref a))) (q : Da F us es) :
    Ok K G F (env.set i (.own l es)) s (upd H a (.lst us)) := by
  obtain ⟨b, vs, h1, h2, h3, h4, h5, h6⟩ := k.own i l ds h
  rw [ha] at h1
  cases h1
  have hi : i < env.length := (List.getElem?_eq_some_iff.mp h).1
  have nf : ∀ c o, F c = some o → c ≠ a := fun c o e z => by subst z; rw [h3] at e; cases e
  refine ⟨by simp [k.len], fun c o e => by rw [upd_ne (nf c o e)]; exact k.fr c o e, fun j d e => ?_, fun j m fs e => ?_, fun j fs e => ?_, fun j j' m fs n gs e1 e2 e3 => ?_, fun c o e => ?_, fun c e => ?_, k.grow, k.new, k.rin, k.dct.move (fun _ _ e => e) (fun j w kvs e => ?_) fun c es' g1 g2 g3 g4 _ => ⟨?_, g2, g3, g4⟩⟩
  · rcases set_get e with ⟨_, _, z⟩ | ⟨hj, z⟩
    · cases z
    · exact k.val j d z
  · rcases set_get e with ⟨rfl, _, z⟩ | ⟨hj, z⟩
    · cases z
      exact ⟨a, us, ha, upd_same, h3, h4, q, h6⟩
    · obtain ⟨c, ws, g1, g2, g3⟩ := k.own j m fs z
      have ne : c ≠ a := fun w => by subst w; exact hj (k.sep i j _ _ _ _ h z (ha.trans g1.symm))
      exact ⟨c, ws, g1, by rw [upd_ne ne]; exact g2, g3⟩
  · rcases set_get e with ⟨_, _, z⟩ | ⟨hj, z⟩
    · cases z
    · exact k.ro j fs z
  · have bk : ∀ (j : Nat) m fs, (env.set i (.own l es))[j]? = some (.own m fs) → ∃ gs, env[j]? = some (.own m gs) := fun j m fs e => by
      rcases set_get e with ⟨rfl, _, z⟩ | ⟨hj, z⟩
      · cases z; exact ⟨_, h⟩
      · exact ⟨_, z⟩
    obtain ⟨f1, g1⟩ := bk j m fs e1
    obtain ⟨f2, g2⟩ := bk j' n gs e2
    exact k.sep j j' _ _ _ _ g1 g2 e3
  · have ne : c ≠ a := fun z => by subst z; rw [h4] at e; cases e
    rw [upd_ne ne]; exact k.pin c o e
  · by_cases hc : c = a
    · subst hc; rw [upd_same] at e; cases e
    · rw [upd_ne hc] at e; exact k.dom c e
  · rcases set_get e with ⟨_, _, z⟩ | ⟨hj, z⟩
    · cases z
    · exact ⟨z, rfl⟩
  · have ne : c ≠ a := fun z => by subst z; rw [h2] at g1; cases g1
    rw [upd_ne ne]; exact g1
/-- xs.m(e), xs the def's own list: what it becomes and what is told -/
def isOwn (env : En) (i : Nat) : Bool := match env[i]? with
  | some (.own _ _) => true
  | _ => false
def isDct (env : En) (i : Nat) : Bool := match env[i]? with
  | some (.dct _ _) => true
  | _ => false
theorem isOwn_some {env : En} {i : Nat} (h : isOwn env i = true) : ∃ l ds, env[i]? = some (.own l ds) := by
  unfold isOwn at h
  split at h
  · rename_i l ds e; exact ⟨l, ds, e⟩
  · cases h
def eMut (g : List D → D → Option (List D × D)) (i : Nat) (f : Ef) : Ef := fun env => if isOwn env i then (f env).bind fun r => match r.2[i]? with
  | some (.own l ds) => (g ds r.1).map fun q => (q.2, r.2.set i (.own l q.1))
  | _ => none
  else none
def eMut0 (g : List D → Option (List D × D)) (i : Nat) : Ef := fun env => match env[i]? with
  | some (.own l ds) => (g ds).map fun q => (q.2, env.set i (.own l q.1))
  | _ => none
def GM (r : V → List V → Hp → VK → Prop) (g : List D → D → Option (List D × D)) : Prop := ∀ F a vs ds y d es z H, Same F H → H a = some (.lst vs) → Da F vs ds → Dt F y d → g ds d = some (es, z) → ∀ Q : VK,
  (∀ us v, Da F us es → Dt F v z → Q v (upd H a (.lst us))) → r (.ref a) [y] H Q
theorem re_mut {i : Nat} {r : V → List V → Hp → VK → Prop} {g : List D → D → Option (List D × D)} {tb : TE} (hg : GM r g) (h2 : RE K tb fb) : RE K (tBM K "list" r (tVar i) (tCons tb tNil)) (eMut g i fb) := fun G F env s H d env' k e Q q => by
  unfold eMut at e
  split at e
  · rename_i h0
    obtain ⟨l0, ds0, h0⟩ := isOwn_some h0
    obtain ⟨a, vs0, hv, hH, _⟩ := k.own i l0 ds0 h0
    obtain ⟨⟨d1, e1⟩, h1, e⟩ := Option.bind_eq_some_iff.mp e
    dsimp only at e
    split at e
    · rename_i l ds h3
      obtain ⟨⟨es, z⟩, h4, e⟩ := Option.map_eq_some_iff.mp e
      cases e
      refine ⟨_, hv, .inl ⟨rfl, _, SqL.of hH⟩, ?_⟩
      refine h2 G F env s H d1 e1 k h1 _ fun F1 H1 v1 k1 s1 p1 => ?_
      obtain ⟨b, vs, g1, g2, g3, g4, g5, g6⟩ := k1.own i l ds h3
      rw [hv] at g1
      cases g1
      exact hg F1 a vs ds v1 d1 es z H1 k1.fr g2 g5 p1 h4 Q fun us v pu pv => q F1 _ v (ok_mut k1 h3 hv pu) s1 pv
    · cases e
  · cases e
def mAppend : List D → D → Option (List D × D) := fun ds d => if fits (ds.length + 1) then some (ds ++ [d], .none) else none
theorem gm_append : GM rAppend mAppend := fun F a vs ds y d es z H _ h p py e Q q => by
  unfold mAppend at e
  split at e
  · rename_i hf
    cases e
    have := fits_line hf
    exact ⟨a, vs, y, rfl, rfl, h, by rw [p.length]; omega, q _ _ (p.append (.cons py .nil)) .non⟩
  · cases e
def mExtend : List D → D → Option (List D × D) := fun ds d => match d with
  | .list es => if fits (ds.length + es.length) then some (ds ++ es, .none) else none
  | _ => none
theorem gm_extend : GM rExtend mExtend := fun F a vs ds y d es z H fr h p py e Q q => by
  unfold mExtend at e
  split at e
  · split at e
    · rename_i hf
      cases e
      cases py with
      | lst a1 b1 => exact ⟨a, _, vs, _, rfl, rfl, h, fr _ _ a1, by rw [p.length, b1.length]; exact fits_line hf, q _ _ (p.append b1) .non⟩
    · cases e
  · cases e
theorem Da.dropLast {F : Hp} {ds : List D} {vs : List V} (h : Da F vs ds) : Da F vs.dropLast ds.dropLast := by
  rw [List.dropLast_eq_take, List.dropLast_eq_take, h.length]
  exact h.take _
def mPopAt : List D → D → Option (List D × D) := fun ds d => match d with
  | .int i => if decide (-(2 ^ 63) ≤ i) && decide (i < 2 ^ 63) then (seqIndex? i ds.length).bind fun k => (ds[k]?).map fun z => (ds.eraseIdx k, z) else none
  | _ => none
theorem gm_popAt : GM rPopAt mPopAt := fun F a vs ds y d es z H _ h p py e Q q => by
  unfold mPopAt at e
  split at e
  · split at e
    · rename_i hf
      simp only [Bool.and_eq_true, decide_eq_true_eq] at hf
      obtain ⟨k, h1, e⟩ := Option.bind_eq_some_iff.mp e
      obtain ⟨w, h2, e⟩ := Option.map_eq_some_iff.mp e
      cases e
      cases py
      obtain ⟨v, h3, h4⟩ := p.get h2
      exact ⟨a, vs, _, k, v, rfl, rfl, h, hf.1, hf.2, by rw [p.length]; exact h1, h3, q _ _ (p.erase k) h4⟩
    · cases e
  · cases e
section
variable {x : Str} {p2 : Pos} {pos apos : Pos} {name : Str} {id : String}
theorem xe_mut (i : Nat) {r : V → List V → Hp → VK → Prop} {g : List D → D → Option (List D × D)} (slot : Slot "list" name id) (hty : typeOf (.builtin id) = pure (.type "method_descriptor")) (hm : MtR X id r) (hg : GM r g) (ha : XE X e fe) (hN : X.N[i]? = some x := by rfl) (hv : Vis X.env.scope x := by first | exact Or.inl rfl | exact Or.inr (Or.inl rfl) | exact Or.inr (Or.inr rfl))
    (hd : (x == ("__debug__" : Str)) = false := by decide) (hcd : (x == ("__classdict__" : Str)) = false := by decide)
    (hbase : attributeBase (.Name x p2) name X.env (eval (.Name x p2) X.env) = eval (.Name x p2) X.env := by rfl)
    (hfew : ((backTo pos (starEach [e] X.env)).all (fun x => !x.1) && (backToKw pos (keywordEach [] X.env)).all (fun x => x.1.isSome)
      && decide (([e] : List Expr).length + ([] : List Keyword).length + (if ([] : List Keyword).isEmpty then 0 else 1) < 30)) = true := by rfl)
    (hline : (apos.endLine == pos.line) = true := by rfl) (hs : starEach [e] X.env = (false, eval e X.env) :: starEach [] X.env := by rfl) (hplain : (backTo pos (starEach [] X.env)).any (·.1) = false := by rfl) :
    XE X (.Call (.Attribute (.Name x p2) name apos) [e] [] pos) (eMut g i fe) :=
  let ⟨_, h1, h2⟩ := ha.ex; ⟨_, pe_bm PySem.F.plainAttrs_list slot hty hm (pe_var hN hv hd hcd) (pa_cons h1 pa_nil hs) hbase hfew hline hs hplain, re_mut hg h2⟩
end
/-- xs[k] = e -/
def sPut (i : Nat) (fk fe : Ef) : Sf := fun env => (fe env).bind fun r => (fk r.2).bind fun q => match q.1, q.2[i]? with
  | .int k, some (.own l ds) => (ixN ds.length k).map fun j => .nx (q.2.set i (.own l (ds.set j r.1)))
  | _, _ => none
theorem rs_put {i : Nat} {te tk : TE} (h1 : RE K te fe) (h2 : RE K tk fa) : RS K (tAsg te (L2.gSub (tVar i) tk rSetL)) (fun env => if isOwn env i then sPut i fa fe env else none) := fun G F env s H o k e E q => by
  dsimp only at e
  split at e
  · rename_i h0
    obtain ⟨l0, ds0, h0⟩ := isOwn_some h0
    obtain ⟨a, vs0, hv, hH, _⟩ := k.own i l0 ds0 h0
    unfold sPut at e
    obtain ⟨⟨d1, e1⟩, h3, e⟩ := Option.bind_eq_some_iff.mp e
    obtain ⟨⟨d2, e2⟩, h4, e⟩ := Option.bind_eq_some_iff.mp e
    dsimp only at e
    split at e
    · rename_i _ _ kk l ds h5
      obtain ⟨j, h6, e⟩ := Option.map_eq_some_iff.mp e
      cases e
      refine h1 G F env s H d1 e1 k h3 _ fun F1 H1 v1 k1 s1 p1 => ?_
      refine ⟨_, hv, ?_⟩
      refine h2 G F1 e1 s H1 _ e2 k1 h4 _ fun F2 H2 v2 k2 s2 p2 => ?_
      obtain ⟨b, vs, g1, g2, g3, g4, g5, g6⟩ := k2.own i l ds h5
      rw [hv] at g1
      cases g1
      cases p2
      refine ⟨a, vs, kk, j, rfl, rfl, g2, by rw [g5.length]; exact h6, ?_⟩
      exact q F2 s _ (ok_mut k2 h5 hv (g5.set (Dt.mono s2 d1 v1 p1) j)) (s1.trans s2)
    · cases e
  · cases e
def sPutI (i : Nat) (fk fe : Ef) : Sf := fun env => if isOwn env i then sPut i fk fe env else none
theorem xs_put (i : Nat) {x : Str} {p2 p3 : Pos} {ke : Expr} (he : XE X e fe) (hk : XE X ke fa) (hN : X.N[i]? = some x := by rfl) (hv : Vis X.env.scope x := by first | exact Or.inl rfl | exact Or.inr (Or.inl rfl) | exact Or.inr (Or.inr rfl))
    (hd : (x == ("__debug__" : Str)) = false := by decide) (hcd : (x == ("__classdict__" : Str)) = false := by decide) (hs : swapsWithSole [.Subscript (.Name x p2) ke p3] e pos.line X.env = pure false := by rfl) (hw : swappedStores [.Subscript (.Name x p2) ke p3] e X.env = pure none := by rfl)
    (h1 : (assignEach [.Subscript (.Name x p2) ke p3] X.env).map (·.2) = [assign (.Subscript (.Name x p2) ke p3) X.env] := by rfl)
    (ha : ∀ v, assign (.Subscript (.Name x p2) ke p3) X.env v = (do
      let ov ← holding [v] (eval (.Name x p2) X.env)
      let iv ← holding [v, ov] (eval ke X.env)
      standAt p3
      holding [v, ov, iv] (setItem ov iv v)
      release [v, ov, iv] []) := by intro _; rfl) : XS X (.Assign [.Subscript (.Name x p2) ke p3] e pos) (sPutI i fa fe) :=
  let ⟨_, g1, g2⟩ := he.ex; let ⟨_, g3, g4⟩ := hk.ex
  ⟨_, ps_asg g1 (pg_sub (pe_var hN hv hd hcd) g3 set_list ha) hs hw h1, rs_put g2 g4⟩
end
end M

namespace M
open PySem PySem.Spec PyProof.Rows L2

/-! ### what is walked -/
def Wk (K : Frg) (P : Hp) (J : It) (F0 : Hp) (ds : List D) : Prop := ∃ (Gp : Hp → Prop) (Y : Nat → Hp → V → Hp → Prop), Walk J ds.length Gp Y ∧
  (∀ G F env s H, Same P G.R → Ok K G F env s H → Same F0 F → Gp H) ∧
  (∀ i H x H' G F env s, i < ds.length → Same P G.R → Ok K G F env s H → Same F0 F → Y i H x H' → ∃ F', Ok K G F' env s H' ∧ Same F F' ∧ (∀ a o, H a = some o → H' a = some o) ∧ ∃ d, ds[i]? = some d ∧ Dt F' x d)
def RI (K : Frg) (wi : TI) (f : Lf) : Prop := ∀ G F env s H ds env', Ok K G F env s H → f env = some (ds, env') → ∀ R : It → Hp → Prop, (∀ F' H' J, Ok K G F' env' s H' → Same F F' → Wk K G.R J F' ds → R J H') → wi s H R
structure XI (X : Cx) (tg iter : Expr) (f : Lf) : Prop where
  ex : ∃ wi, PI X tg iter wi ∧ RI X.K wi f
theorem wk_list {K : Frg} {P F0 : Hp} {a : Addr} {vs : List V} {ds : List D} (h1 : ∀ G F env s H, Same P G.R → Ok K G F env s H → Same F0 F → SqL K H a vs) (h2 : Da F0 vs ds) : Wk K P (Itl K a) F0 ds :=
  ⟨_, _, by rw [← h2.length]; exact walk_list, h1, fun i H x H' G F env s hi hp k e y => by
    obtain ⟨rfl, hx⟩ := y
    obtain ⟨d, h3, h4⟩ := h2.get' hx
    exact ⟨F, k, Same.refl F, fun _ _ h => h, d, h3, Dt.mono e _ _ h4⟩⟩
theorem wk_tup {K : Frg} {P F0 : Hp} {a : Addr} {vs : List V} {ds : List D} (h1 : F0 a = some (.tup vs)) (h2 : Da F0 vs ds) : Wk K P (Itt K a) F0 ds :=
  ⟨_, _, by rw [← h2.length]; exact walk_tup, fun G F env s H _ k e => SqT.of (k.fr _ _ (e _ _ h1)), fun i H x H' G F env s hi hp k e y => by
    obtain ⟨rfl, hx⟩ := y
    obtain ⟨d, h3, h4⟩ := h2.get' hx
    exact ⟨F, k, Same.refl F, fun _ _ h => h, d, h3, Dt.mono e _ _ h4⟩⟩
def signs (x : Str) : List D := x.cps.toList.map fun c => .str ⟨#[c]⟩
theorem wk_str {K : Frg} {P F0 : Hp} {x : Str} : Wk K P (Its x) F0 (signs x) :=
  ⟨_, _, by
    have : (signs x).length = x.cps.size := by simp [signs]
    rw [this]; exact walk_str, fun _ _ _ _ _ _ _ _ => trivial, fun i H y H' G F env s hi hp k e q => by
    obtain ⟨rfl, c, h1, rfl⟩ := q
    refine ⟨F, k, Same.refl F, fun _ _ h => h, .str ⟨#[c]⟩, ?_, .str _⟩
    unfold signs
    rw [List.getElem?_map, Array.getElem?_toList, h1]
    rfl⟩
def irange (lo : Int) (n : Nat) : List D := (List.range n).map fun (i : Nat) => PyData.int (lo + (i : Int))
theorem wk_range {K : Frg} {P F0 : Hp} {lo : Int} {n : Nat} : Wk K P (Itr lo n) F0 (irange lo n) :=
  ⟨_, _, by
    have : (irange lo n).length = n := by simp [irange]
    rw [this]; exact walk_range, fun _ _ _ _ _ _ _ _ => trivial, fun i H y H' G F env s hi hp k e q => by
    obtain ⟨rfl, rfl⟩ := q
    refine ⟨F, k, Same.refl F, fun _ _ h => h, .int (lo + (i : Int)), ?_, .int _⟩
    have hi' : i < n := by simpa [irange] using hi
    unfold irange
    rw [List.getElem?_map, List.getElem?_range hi']
    rfl⟩
/-- pairs, each a new tuple -/
def pairs (xs ys : List D) : List D := (xs.zip ys).map fun p => .tuple [p.1, p.2]
theorem wk_pair {K : Frg} {P F0 : Hp} {J : It} {n : Nat} {Gp : Hp → Prop} {f g : Nat → Option V} {xs ys : List D} (w : Walk J n Gp (YPair f g)) (hn : n = min xs.length ys.length) (hG : ∀ G F env s H, Same P G.R → Ok K G F env s H → Same F0 F → Gp H)
    (hx : ∀ i v, i < n → f i = some v → ∃ d, xs[i]? = some d ∧ Dt F0 v d) (hy : ∀ i v, i < n → g i = some v → ∃ d, ys[i]? = some d ∧ Dt F0 v d) : Wk K P J F0 (pairs xs ys) :=
  ⟨_, _, by
    have : (pairs xs ys).length = n := by simp [pairs, hn]
    rw [this]; exact w, hG, fun i H v H' G F env s hi hp k e q => by
    have hi' : i < n := by simp [pairs] at hi; omega
    obtain ⟨T, x, y, rfl, hT, rfl, h1, h2⟩ := q
    obtain ⟨d1, h3, h4⟩ := hx i x hi' h1
    obtain ⟨d2, h5, h6⟩ := hy i y hi' h2
    have se : Same F (upd F T (.tup [x, y])) := same_upd (k.fr.free hT)
    refine ⟨_, k.alloc hT, se, fun a o h => same_upd hT a o h, .tuple [d1, d2], ?_, .tup upd_same (.cons (Dt.mono (e.trans se) _ _ h4) (.cons (Dt.mono (e.trans se) _ _ h6) .nil))⟩
    unfold pairs
    rw [List.getElem?_map, (List.getElem?_zip_eq_some (z := (d1, d2))).mpr ⟨h3, h5⟩]
    rfl⟩
section
variable {X : Cx} {tg e a b : Expr} {fe fa fb : Ef} {f g : Sf} {pos : Pos} {K : Frg}
/-- a list, a tuple, a text -/
def iSeq (K : Frg) (tl : TE) : TI := fun s H R => tl s H fun x H1 => (∃ a, x = .ref a ∧ (∃ xs, SqL K H1 a xs) ∧ R (Itl K a) H1) ∨ (∃ a, x = .ref a ∧ (∃ xs, SqT K H1 a xs) ∧ R (Itt K a) H1) ∨ ∃ z, x = .str z ∧ R (Its z) H1
theorem pi_seq {l : Expr} {tl : TE} (hl : PE X l tl) : PI X tg l (iSeq X.K tl) := by
  refine ⟨fun pins s σ H R I h => ?_⟩
  refine thn (hl.run pins s σ H _ I h) fun v s1 ⟨x, H1, I1, r1, q1⟩ => ?_
  rcases q1 with ⟨a, e, ⟨xs, hq⟩, q⟩ | ⟨a, e, ⟨xs, hq⟩, q⟩ | ⟨z, e, q⟩
  · subst e
    cases r1
    obtain ⟨its, rv, p, hz⟩ := I1.list hq
    refine wpAny_pyIter_list p.isList ?_
    refine ⟨s1.heap.objs.size, [s1.heap.objs.size], _, _, H1, rfl, I1.kept (t' := s1.toks) fun b o e => Heap.get?_push_of_some _ e, turn_list a _, ⟨_, Heap.get?_push_size _ rfl, rfl, rfl⟩, fun b hb => ?_, q⟩
    have e : b = s1.heap.objs.size := by simpa using hb
    subst e
    exact I1.fpOk (Nat.le_refl _) (I1.hok.fresh (Nat.le_refl _))
  · subst e
    cases r1
    obtain ⟨its, rv, p, hz⟩ := I1.tuple hq
    refine wpAny_pyIter_tuple (show s1.heap.IsTuple a its.toArray from p) ?_
    refine ⟨s1.heap.objs.size, [s1.heap.objs.size], _, _, H1, rfl, I1.kept (t' := s1.toks) fun b o e => Heap.get?_push_of_some _ e, turn_tuple a _, ⟨_, Heap.get?_push_size _ rfl, rfl, rfl⟩, fun b hb => ?_, q⟩
    have e : b = s1.heap.objs.size := by simpa using hb
    subst e
    exact I1.fpOk (Nat.le_refl _) (I1.hok.fresh (Nat.le_refl _))
  · subst e
    obtain ⟨t, rfl⟩ := r1
    cases ha : z.cps.all (· < 128)
    · exact wpAny_pyIter_wide ha (pi_one (tk := s1.toks) I1 _ (turn_str _ z t "str_iterator" (.inr rfl)) ⟨_, Heap.get?_push_size _ rfl, rfl, rfl⟩ q)
    · exact wpAny_pyIter_ascii ha (pi_one (tk := s1.toks) I1 _ (turn_str _ z t "str_ascii_iterator" (.inl rfl)) ⟨_, Heap.get?_push_size _ rfl, rfl, rfl⟩ q)
def lIt (f : Ef) : Lf := fun env => (f env).bind fun r => match r.1 with
  | .list ds => some (ds, r.2)
  | .tuple ds => some (ds, r.2)
  | .str x => some (signs x, r.2)
  | _ => none
theorem xi_seq (ha : XE X e fe) : XI X tg e (lIt fe) := by
  obtain ⟨t, h1, h2⟩ := ha.ex
  refine ⟨_, pi_seq h1, fun G F env s H ds env' k e R q => ?_⟩
  unfold lIt at e
  obtain ⟨⟨d, e1⟩, h3, e⟩ := Option.bind_eq_some_iff.mp e
  refine h2 G F env s H d e1 k h3 _ fun F1 H1 v k1 s1 p1 => ?_
  cases p1 with
  | lst a1 b1 =>
    cases e
    exact .inl ⟨_, rfl, ⟨_, SqL.of (k1.fr _ _ a1)⟩, q F1 H1 _ k1 s1 (wk_list (fun G F env s H _ k e => SqL.of (k.fr _ _ (e _ _ a1))) b1)⟩
  | tup a1 b1 =>
    cases e
    exact .inr (.inl ⟨_, rfl, ⟨_, SqT.of (k1.fr _ _ a1)⟩, q F1 H1 _ k1 s1 (wk_tup a1 b1)⟩)
  | str x =>
    cases e
    exact .inr (.inr ⟨_, rfl, q F1 H1 _ k1 s1 wk_str⟩)
  | _ => cases e
def smallI (i : Int) : Bool := decide (-1000000000 ≤ i) && decide (i ≤ 1000000000)
def lRng1 (f : Ef) : Lf := fun env => (f env).bind fun r => match r.1 with
  | .int n => if smallI n then some (irange 0 n.toNat, r.2) else none
  | _ => none
def lRng2 (f g : Ef) : Lf := fun env => (f env).bind fun r => (g r.2).bind fun q => match r.1, q.1 with
  | .int m, .int n => if smallI m && smallI n then some (irange m (n - m).toNat, q.2) else none
  | _, _ => none
theorem xi_rng1 {p : Pos} (ha : XE X a fa) (hm : X.mg "range" = none) (hg : Gl X "range" := by rfl) (hs : starEach [a] X.env = [(false, eval a X.env)] := by rfl) : XI X tg (.Call (.Name "range" p) [a] [] pos) (lRng1 fa) := by
  obtain ⟨t, h1, h2⟩ := ha.ex
  refine ⟨_, pi_range1 hg hm (pa_cons h1 pa_nil (by rw [hs]; rfl)) hs, fun G F env s H ds env' k e R q => ?_⟩
  unfold lRng1 at e
  obtain ⟨⟨d, e1⟩, h3, e⟩ := Option.bind_eq_some_iff.mp e
  refine h2 G F env s H d e1 k h3 _ fun F1 H1 v k1 s1 p1 => ?_
  cases p1 with
  | int n =>
    dsimp only at e
    split at e
    · rename_i hf
      cases e
      unfold smallI at hf
      simp only [Bool.and_eq_true, decide_eq_true_eq] at hf
      exact ⟨n, rfl, by omega, by omega, q F1 H1 _ k1 s1 wk_range⟩
    · cases e
  | _ => cases e
theorem xi_rng2 {p : Pos} (ha : XE X a fa) (hb : XE X b fb) (hm : X.mg "range" = none) (hg : Gl X "range" := by rfl) (hs : starEach [a, b] X.env = [(false, eval a X.env), (false, eval b X.env)] := by rfl) (hs2 : starEach [b] X.env = [(false, eval b X.env)] := by rfl) : XI X tg (.Call (.Name "range" p) [a, b] [] pos) (lRng2 fa fb) := by
  obtain ⟨t, h1, h2⟩ := ha.ex
  obtain ⟨u, h3, h4⟩ := hb.ex
  refine ⟨_, pi_range2 hg hm (pa_cons h1 (pa_cons h3 pa_nil (by rw [hs2]; rfl)) (by rw [hs, hs2])) hs hs2, fun G F env s H ds env' k e R q => ?_⟩
  unfold lRng2 at e
  obtain ⟨⟨d, e1⟩, h5, e⟩ := Option.bind_eq_some_iff.mp e
  obtain ⟨⟨d2, e2⟩, h6, e⟩ := Option.bind_eq_some_iff.mp e
  refine h2 G F env s H d e1 k h5 _ fun F1 H1 v k1 s1 p1 => ?_
  refine h4 G F1 e1 s H1 d2 e2 k1 h6 _ fun F2 H2 v2 k2 s2 p2 => ?_
  cases p1 with
  | int m =>
    cases p2 with
    | int n =>
      dsimp only at e
      split at e
      · rename_i hf
        cases e
        unfold smallI at hf
        simp only [Bool.and_eq_true, decide_eq_true_eq] at hf
        exact ⟨m, n, rfl, by omega, q F2 H2 _ k2 (s1.trans s2) wk_range⟩
      · cases e
    | _ => cases e
  | _ => cases e
def lEnum (f : Ef) : Lf := fun env => (f env).bind fun r => match r.1 with
  | .list ds => some (pairs (irange 0 ds.length) ds, r.2)
  | _ => none
theorem xi_enum {p tpos : Pos} {elts : List Expr} {kk : Nat} (ha : XE X a fa) (hm : X.mg "enumerate" = none) (hg : Gl X "enumerate" := by rfl) (hs : starEach [a] X.env = [(false, eval a X.env)] := by rfl) : XI X (.Tuple elts kk tpos) (.Call (.Name "enumerate" p) [a] [] pos) (lEnum fa) := by
  obtain ⟨t, h1, h2⟩ := ha.ex
  refine ⟨_, pi_enum hg hm (pa_cons h1 pa_nil (by rw [hs]; rfl)) hs, fun G F env s H ds env' k e R q => ?_⟩
  unfold lEnum at e
  obtain ⟨⟨d, e1⟩, h3, e⟩ := Option.bind_eq_some_iff.mp e
  refine h2 G F env s H d e1 k h3 _ fun F1 H1 v k1 s1 p1 => ?_
  cases p1 with
  | lst a1 b1 =>
    cases e
    refine ⟨_, _, rfl, SqL.of (k1.fr _ _ a1), q F1 H1 _ k1 s1 (wk_pair walk_enum (by simp [irange, b1.length]) (fun G F env s H _ k e => SqL.of (k.fr _ _ (e _ _ a1))) (fun i v hi hv => ?_) fun i v _ hv => b1.get' hv)⟩
    cases hv
    refine ⟨.int (i : Int), ?_, .int _⟩
    unfold irange
    rw [List.getElem?_map, List.getElem?_range (by rw [← b1.length]; exact hi)]
    simp
  | _ => cases e
def lZip (f g : Ef) : Lf := fun env => (f env).bind fun r => (g r.2).bind fun q => match r.1, q.1 with
  | .list ds, .list es => some (pairs ds es, q.2)
  | .tuple ds, .tuple es => some (pairs ds es, q.2)
  | _, _ => none
theorem walk_zipT {K : Frg} {a b : Addr} {xs ys : List V} {n : Nat} (hn : n = min xs.length ys.length) : Walk (RZ.ItzT K a b) n (fun H => SqT K H a xs ∧ SqT K H b ys) (YPair (fun i => xs[i]?) (fun i => ys[i]?)) := by
  subst hn
  refine ⟨fun i _ hi q => ?_, fun _ q => ⟨xs, ys, q.1, q.2, by omega⟩, fun i H v H' _ q y => ?_⟩
  · have h1 : i < xs.length := by omega
    have h2 : i < ys.length := by omega
    exact ⟨xs, ys, xs[i], ys[i], q.1, q.2, by simp [h1], by simp [h2]⟩
  · obtain ⟨T, x, z, h1, h2, h3, h4, h5⟩ := y
    exact ⟨T, x, z, h1, h2, h3, h4 xs q.1, h5 ys q.2⟩
theorem xi_zip {p tpos : Pos} {elts : List Expr} {kk : Nat} (ha : XE X a fa) (hb : XE X b fb) (hm : X.mg "zip" = none) (hg : Gl X "zip" := by rfl) (hs : starEach [a, b] X.env = (false, eval a X.env) :: starEach [b] X.env := by rfl) (hs2 : starEach [b] X.env = (false, eval b X.env) :: starEach [] X.env := by rfl)
    (hpl : (backTo pos (starEach [b] X.env)).any (·.1) = false := by rfl) : XI X (.Tuple elts kk tpos) (.Call (.Name "zip" p) [a, b] [] pos) (lZip fa fb) := by
  obtain ⟨t, h1, h2⟩ := ha.ex
  obtain ⟨u, h3, h4⟩ := hb.ex
  refine ⟨_, RZ.pi_zipA hg hm (pa_cons h1 (pa_cons h3 pa_nil hs2) hs) hs hpl, fun G F env s H ds env' k e R q => ?_⟩
  unfold lZip at e
  obtain ⟨⟨d, e1⟩, h5, e⟩ := Option.bind_eq_some_iff.mp e
  obtain ⟨⟨d2, e2⟩, h6, e⟩ := Option.bind_eq_some_iff.mp e
  refine h2 G F env s H d e1 k h5 _ fun F1 H1 v k1 s1 p1 => ?_
  refine h4 G F1 e1 s H1 d2 e2 k1 h6 _ fun F2 H2 v2 k2 s2 p2 => ?_
  have p3 := Dt.mono s2 _ _ p1
  cases p3 with
  | lst a1 b1 =>
    cases p2 with
    | lst a2 b2 =>
      cases e
      exact ⟨_, _, _, _, rfl, .inl ⟨SqL.of (k2.fr _ _ a1), SqL.of (k2.fr _ _ a2), q F2 H2 _ k2 (s1.trans s2) (wk_pair (walk_zip rfl) (by rw [b1.length, b2.length]) (fun G F env s H _ k e => ⟨SqL.of (k.fr _ _ (e _ _ a1)), SqL.of (k.fr _ _ (e _ _ a2))⟩) (fun i v _ hv => b1.get' hv) fun i v _ hv => b2.get' hv)⟩⟩
    | _ => cases e
  | tup a1 b1 =>
    cases p2 with
    | tup a2 b2 =>
      cases e
      exact ⟨_, _, _, _, rfl, .inr ⟨SqT.of (k2.fr _ _ a1), SqT.of (k2.fr _ _ a2), q F2 H2 _ k2 (s1.trans s2) (wk_pair (walk_zipT rfl) (by rw [b1.length, b2.length]) (fun G F env s H _ k e => ⟨SqT.of (k.fr _ _ (e _ _ a1)), SqT.of (k.fr _ _ (e _ _ a2))⟩) (fun i v _ hv => b1.get' hv) fun i v _ hv => b2.get' hv)⟩⟩
    | _ => cases e
  | _ => cases e

/-! ### for -/
def forGo (g : Tf) (body : Sf) : List D → En → Option Out
  | [], env => some (.nx env)
  | d :: ds, env => (g d env).bind fun env1 => (body env1).bind fun o => match o with
    | .nx env2 => forGo g body ds env2
    | o => some o
def sFor (src : Lf) (g : Tf) (body : Sf) : Sf := fun env => (src env).bind fun r => forGo g body r.1 r.2
theorem xs_for {iter : Expr} {body : List Stmt} {src : Lf} {gt : Tf} {sl : List Nat} {fb : Sf} (hp : PassesOwn (model X.prog X.w) X.A X.env X.xe) (hi : XI X tg iter src) (hg : XG X tg gt sl) (hb : XSs X body fb) (hc : X.calm = true := by rfl)
    (hs : ∀ x, foldedSetIterable iter X.env x = pure x := by intro _; rfl) : XS X (.For tg iter body [] pos) (sFor src gt fb) := by
  obtain ⟨wi, p1, q1⟩ := hi.ex
  obtain ⟨tg', p2, q2⟩ := hg.ex
  obtain ⟨tb, p3, q3⟩ := hb.ex
  refine ⟨_, ps_for hp hc p1 p2 p3 hs, fun G F env s H o k e E q => ?_⟩
  unfold sFor at e
  obtain ⟨⟨ds, e1⟩, h1, e⟩ := Option.bind_eq_some_iff.mp e
  refine q1 G F env s H ds e1 k h1 _ fun F1 H1 J k1 s1 w => ?_
  obtain ⟨Gp, Y, w1, w2, w3⟩ := w
  refine for_it w1 (fun i s' H' => ∃ F' env', Ok X.K G F' env' s' H' ∧ Same F1 F' ∧ forGo gt fb (ds.drop i) env' = some o) ⟨F1, e1, k1, Same.refl F1, e⟩ (fun i s' H' hi ⟨F', env', k', s'', _⟩ => w2 G F' env' s' H' (Same.refl _) k' s'') (fun i x s' H' H'' hi ⟨F', env', k', s'', e'⟩ y => ?_) fun s' H' ⟨F', env', k', s'', e'⟩ => ?_
  · obtain ⟨F2, k2, s2, _, d, hd, pd⟩ := w3 i H' x H'' G F' env' s' hi (Same.refl _) k' s'' y
    have hdr : ds.drop i = d :: ds.drop (i + 1) := by
      obtain ⟨hl, hx⟩ := List.getElem?_eq_some_iff.mp hd
      rw [List.drop_eq_getElem_cons hl, hx]
    rw [hdr] at e'
    unfold forGo at e'
    obtain ⟨env2, h2, e'⟩ := Option.bind_eq_some_iff.mp e'
    obtain ⟨o2, h3, e'⟩ := Option.bind_eq_some_iff.mp e'
    refine q2 G F2 env' s' H'' x d env2 k2 pd h2 _ fun s3 k3 _ => ?_
    refine q3 G F2 env2 s3 H'' o2 k3 h3 _ ?_
    cases o2 with
    | nx env3 => exact fun F4 s4 H4 k4 s5 => ⟨F4, env3, k4, (s''.trans s2).trans s5, e'⟩
    | rt v ee =>
      cases e'
      exact (q.up (s1.trans (s''.trans s2))).same_rt rfl (by simp)
    | rn v ee =>
      cases e'
      exact (q.up (s1.trans (s''.trans s2))).same_rt rfl (by simp)
    | rp v w ee =>
      cases e'
      exact (q.up (s1.trans (s''.trans s2))).same_rt rfl (by simp)
  · rw [List.drop_length] at e'
    cases e'
    exact q F' s' H' k' (s1.trans s'')

/-! ### while -/
def whGo (c : Bf) (body : Sf) : Nat → En → Option Out
  | 0, _ => none
  | n + 1, env => (c env).bind fun r => if r.1 then (body r.2).bind fun o => match o with
    | .nx env2 => whGo c body n env2
    | o => some o
    else some (.nx r.2)
def sWh (n : Nat) (c : Bf) (body : Sf) : Sf := whGo c body n
theorem xs_while (n : Nat) {c : Expr} {body : List Stmt} {gc : Bf} {fb : Sf} (hp : PassesOwn (model X.prog X.w) X.A X.env X.xe) (hc : XB X c gc) (hb : XSs X body fb) : XS X (.While c body [] pos) (sWh n gc fb) := by
  obtain ⟨tc, p1, q1⟩ := hc.ex
  obtain ⟨tb, p2, q2⟩ := hb.ex
  refine ⟨_, ps_while hp p1 p2, fun G F env s H o k e E q => ?_⟩
  refine ⟨fun m s' H' => ∃ F' env', Ok X.K G F' env' s' H' ∧ Same F F' ∧ whGo gc fb m env' = some o, ⟨n, F, env, k, Same.refl F, e⟩, ?_⟩
  rintro m s' H' ⟨F', env', k', s'', e'⟩
  cases m with
  | zero => cases e'
  | succ m =>
    unfold whGo at e'
    obtain ⟨⟨b, e1⟩, h1, e'⟩ := Option.bind_eq_some_iff.mp e'
    refine q1 G F' env' s' H' b e1 k' h1 _ fun F1 H1 k1 s1 => ?_
    cases b with
    | true =>
      rw [if_pos rfl] at e' ⊢
      obtain ⟨o2, h3, e'⟩ := Option.bind_eq_some_iff.mp e'
      refine ⟨fun s2 H2 => ∃ F2 env2, Ok X.K G F2 env2 s2 H2 ∧ Same F F2 ∧ whGo gc fb m env2 = some o, fun s2 H2 h => ⟨m, Nat.lt_succ_self m, h⟩, ?_⟩
      refine q2 G F1 e1 s' H1 o2 k1 h3 _ ?_
      cases o2 with
      | nx env3 => exact fun F4 s4 H4 k4 s5 => ⟨F4, env3, k4, (s''.trans s1).trans s5, e'⟩
      | rt v ee =>
        cases e'
        exact (q.up (s''.trans s1)).same_rt rfl (by simp)
      | rn v ee =>
        cases e'
        exact (q.up (s''.trans s1)).same_rt rfl (by simp)
      | rp v w ee =>
        cases e'
        exact (q.up (s''.trans s1)).same_rt rfl (by simp)
    | false =>
      rw [if_neg Bool.false_ne_true] at e' ⊢
      cases e'
      exact q F1 s' H1 k1 (s''.trans s1)

/-! ### list comprehensions -/
def wipeE (env : En) : List Nat → En
  | [] => env
  | v :: vs => (wipeE env vs).set v .no
def backE (old env : En) : List Nat → En
  | [] => env
  | v :: vs => match old[v]? with
    | some x => (backE old env vs).set v x
    | none => backE old env vs
def noOwn (env : En) : List Nat → Bool
  | [] => true
  | v :: vs => (!isOwn env v && !isDct env v) && noOwn env vs
def lcGo (vs : List Nat) (g : Tf) (c : Bf) (f : Ef) : List D → En → Option (List D × En)
  | [], env => some ([], env)
  | d :: ds, env => (g d env).bind fun env1 => (c env1).bind fun r => if r.1 then (f r.2).bind fun q => (lcGo vs g c f ds (wipeE q.2 vs)).map fun w => (q.1 :: w.1, w.2)
    else lcGo vs g c f ds (wipeE r.2 vs)
def lComp (src : Lf) (vs : List Nat) (g : Tf) (c : Bf) (f : Ef) : Lf := fun env => (src env).bind fun r => if noOwn r.2 vs && fits r.1.length then (lcGo vs g c f r.1 (wipeE r.2 vs)).map fun w => (w.1, backE r.2 w.2 vs) else none
theorem wipeE_length (env : En) : ∀ vs : List Nat, (wipeE env vs).length = env.length
  | [] => rfl
  | v :: vs => by unfold wipeE; rw [List.length_set, wipeE_length env vs]
theorem wipeE_get (env : En) : ∀ (vs : List Nat) (j : Nat), (wipeE env vs)[j]? = if j ∈ vs ∧ j < env.length then some .no else env[j]?
  | [], j => by simp [wipeE]
  | v :: vs, j => by
    unfold wipeE
    by_cases hj : v = j
    · subst hj
      by_cases hl : v < env.length
      · rw [List.getElem?_set_self (by rw [wipeE_length]; exact hl)]
        simp [hl]
      · rw [List.getElem?_eq_none (by rw [List.length_set, wipeE_length]; omega), List.getElem?_eq_none (by omega)]
        simp [hl]
    · rw [List.getElem?_set_ne hj, wipeE_get env vs j]
      have : ¬ j = v := fun e => hj e.symm
      simp [this]
theorem backE_length (old env : En) : ∀ vs : List Nat, (backE old env vs).length = env.length
  | [] => rfl
  | v :: vs => by
    unfold backE
    split
    · rw [List.length_set, backE_length old env vs]
    · exact backE_length old env vs
theorem backE_get (old env : En) (hl : old.length = env.length) : ∀ (vs : List Nat) (j : Nat), (backE old env vs)[j]? = if j ∈ vs then old[j]? else env[j]?
  | [], j => by simp [backE]
  | v :: vs, j => by
    unfold backE
    by_cases hj : v = j
    · subst hj
      cases hx : old[v]? with
      | some x =>
        have hv : v < old.length := (List.getElem?_eq_some_iff.mp hx).1
        simp only
        rw [List.getElem?_set_self (by rw [backE_length, ← hl]; exact hv)]
        simp
      | none =>
        simp only
        rw [backE_get old env hl vs v, hx]
        have : env[v]? = none := by rw [List.getElem?_eq_none_iff] at hx ⊢; omega
        simp [this]
    · have hn : ¬ j = v := fun e => hj e.symm
      cases hx : old[v]? with
      | some x => simp only; rw [List.getElem?_set_ne hj, backE_get old env hl vs j]; simp [hn]
      | none => simp only; rw [backE_get old env hl vs j]; simp [hn]
theorem noOwn_get {env : En} : ∀ {vs : List Nat} {j : Nat}, noOwn env vs = true → j ∈ vs → ∀ l ds, env[j]? ≠ some (.own l ds)
  | v :: vs, j, h, hj, l, ds => fun e => by
    unfold noOwn at h
    simp only [Bool.and_eq_true, Bool.not_eq_true'] at h
    rcases List.mem_cons.mp hj with rfl | hj
    · have := h.1.1
      unfold isOwn at this
      rw [e] at this; cases this
    · exact noOwn_get h.2 hj l ds e
theorem noOwn_dct {env : En} : ∀ {vs : List Nat} {j : Nat}, noOwn env vs = true → j ∈ vs → ∀ w kvs, env[j]? ≠ some (.dct w kvs)
  | v :: vs, j, h, hj, w, kvs => fun e => by
    unfold noOwn at h
    simp only [Bool.and_eq_true, Bool.not_eq_true'] at h
    rcases List.mem_cons.mp hj with rfl | hj
    · have := h.1.2
      unfold isDct at this
      rw [e] at this; cases this
    · exact noOwn_dct h.2 hj w kvs e
theorem ok_wipe {G : Gm} {F : Hp} {env : En} {s : L2.St} {H : Hp} (vs : List Nat) (k : Ok K G F env s H) : Ok K G F (wipeE env vs) (wipe s vs) H := by
  have key : ∀ {j : Nat} {x : Sl}, (wipeE env vs)[j]? = some x → x ≠ .no → env[j]? = some x ∧ (wipe s vs)[j]? = s[j]? := fun {j x} e hx => by
    rw [wipeE_get] at e
    rw [wipe_get]
    split at e
    · cases e; exact absurd rfl hx
    · rename_i hn
      exact ⟨e, by rw [k.len]; rw [if_neg hn]⟩
  refine ⟨by rw [wipe_length, wipeE_length, k.len], k.fr, fun j d e => ?_, fun j l ds e => ?_, fun j ds e => ?_, fun i j l ds m es e1 e2 e3 => ?_, k.pin, k.dom, k.grow, k.new, k.rin, k.dct.slots fun j w kvs e => key e (by simp)⟩
  · obtain ⟨h1, h2⟩ := key e (by simp)
    rw [h2]; exact k.val j d h1
  · obtain ⟨h1, h2⟩ := key e (by simp)
    rw [h2]; exact k.own j l ds h1
  · obtain ⟨h1, h2⟩ := key e (by simp)
    rw [h2]; exact k.ro j ds h1
  · obtain ⟨h1, h2⟩ := key e1 (by simp)
    obtain ⟨h3, h4⟩ := key e2 (by simp)
    rw [h2, h4] at e3
    exact k.sep i j _ _ _ _ h1 h3 e3
/-- a frame with one more pinned object -/
abbrev Gm.pin (G : Gm) (p : Addr) (o : HO) : Gm := { G with P := upd G.P p o, H0 := upd G.H0 p o }
theorem ok_pin {G : Gm} {F : Hp} {env : En} {s : L2.St} {H : Hp} {p : Addr} {o : HO} (k : Ok K G F env s H) (hp : H p = some o) (hn : ∀ (j : Nat) l es, env[j]? = some (.own l es) → s[j]? ≠ some (some (.ref p))) (hP : G.P p = none) (hF : F p = none) (hD : ∀ (j : Nat) w kvs, env[j]? = some (.dct w kvs) → s[j]? ≠ some (some (.ref p))) : Ok K (G.pin p o) F env s H := by
  refine ⟨k.len, k.fr, k.val, fun j l ds e => ?_, k.ro, k.sep, fun a u e => ?_, fun a e => ?_, k.grow, fun a u e => ?_, k.rin.trans (same_upd hP), k.dct.move (fun _ _ e => e) (fun _ _ _ e => ⟨e, rfl⟩) fun a es g1 g2 g3 g4 ⟨i, w, kvs, g5, g6⟩ => ?_⟩
  · obtain ⟨a, vs, h1, h2, h3, h4, h5, h6, h7⟩ := k.own j l ds e
    have ne : a ≠ p := fun z => by subst z; exact hn j l ds e h1
    exact ⟨a, vs, h1, h2, h3, by show upd G.P p o a = none; rw [upd_ne ne]; exact h4, h5, fun z => by show upd G.H0 p o a = none; rw [upd_ne ne]; exact h6 z, h7⟩
  · have e : upd G.P p o a = some u := e
    by_cases h : a = p
    · subst h; rw [upd_same] at e; rw [hp]; exact e
    · rw [upd_ne h] at e; exact k.pin a u e
  · show upd G.H0 p o a = none
    have ne : a ≠ p := fun z => by subst z; rw [hp] at e; cases e
    rw [upd_ne ne]; exact k.dom a e
  · rcases k.new a u e with z | z
    · exact .inl z
    · have ne : a ≠ p := fun z => by subst z; rw [hF] at e; cases e
      exact .inr (by show upd G.H0 p o a = none; rw [upd_ne ne]; exact z)
  · have ne : a ≠ p := fun z => by subst z; exact hD i w kvs g5 g6
    exact ⟨g1, g2, by show upd G.P p o a = none; rw [upd_ne ne]; exact g3, by show upd G.H0 p o a = none; rw [upd_ne ne]; exact g4⟩
theorem ok_unpin {G : Gm} {F : Hp} {env : En} {s : L2.St} {H : Hp} {p : Addr} {o : HO} (k : Ok K (G.pin p o) F env s H) (hP : G.P p = none) (h0 : G.H0 p = none) (hr : Same G.R G.P) : Ok K G F env s H := by
  have pn : ∀ a, upd G.P p o a = none → G.P a = none ∧ a ≠ p := fun a e => by
    by_cases h : a = p
    · subst h; rw [upd_same] at e; cases e
    · rw [upd_ne h] at e; exact ⟨e, h⟩
  refine ⟨k.len, k.fr, k.val, fun j l ds e => ?_, k.ro, k.sep, fun a u e => k.pin a u (same_upd hP a u e), fun a e => ?_, k.grow, fun a u e => ?_, hr, k.dct.move (fun _ _ e => e) (fun _ _ _ e => ⟨e, rfl⟩) fun a es g1 g2 g3 g4 _ => ?_⟩
  · obtain ⟨a, vs, h1, h2, h3, h4, h5, h6, h7⟩ := k.own j l ds e
    obtain ⟨h8, h9⟩ := pn a h4
    exact ⟨a, vs, h1, h2, h3, h8, h5, fun z => by have q : upd G.H0 p o a = none := h6 z; rw [upd_ne h9] at q; exact q, h7⟩
  · by_cases h : a = p
    · subst h; exact h0
    · have q : upd G.H0 p o a = none := k.dom a e
      rw [upd_ne h] at q; exact q
  · rcases k.new a u e with z | z
    · exact .inl z
    · have z : upd G.H0 p o a = none := z
      by_cases h : a = p
      · subst h; rw [upd_same] at z; cases z
      · rw [upd_ne h] at z; exact .inr z
  · obtain ⟨h8, h9⟩ := pn a g3
    exact ⟨g1, g2, h8, by have q : upd G.H0 p o a = none := g4; rw [upd_ne h9] at q; exact q⟩
/-- a pinned object is never frozen -/
theorem pin_nofrz {G : Gm} {F : Hp} {env : En} {s : L2.St} {H : Hp} {p : Addr} {o : HO} (k : Ok K (G.pin p o) F env s H) (h : G.F0 p = none) : F p = none := by
  cases hx : F p with
  | none => rfl
  | some u =>
    rcases k.new p u hx with z | z
    · have z : G.F0 p = some u := z
      rw [h] at z; cases z
    · have z : upd G.H0 p o p = none := z
      rw [upd_same] at z; cases z
theorem pin_at {G : Gm} {F : Hp} {env : En} {s : L2.St} {H : Hp} {p : Addr} {o : HO} (k : Ok K (G.pin p o) F env s H) : H p = some o := k.pin p o (by show upd G.P p o p = some o; rw [upd_same])
/-- an object that is pinned changes its content -/
theorem ok_repin {G : Gm} {F : Hp} {env : En} {s : L2.St} {H : Hp} {p : Addr} {o o' : HO} (k : Ok K (G.pin p o) F env s H) (hP : G.P p = none) (hF : F p = none) (hr : Same G.R G.P) : Ok K (G.pin p o') F env s (upd H p o') := by
  have pn : ∀ a, upd G.P p o a = none → upd G.P p o' a = none ∧ a ≠ p := fun a e => by
    by_cases h : a = p
    · subst h; rw [upd_same] at e; cases e
    · rw [upd_ne h] at e; exact ⟨by rw [upd_ne h]; exact e, h⟩
  have hn : ∀ a, upd G.H0 p o a = none → upd G.H0 p o' a = none := fun a e => by
    by_cases h : a = p
    · subst h; rw [upd_same] at e; cases e
    · rw [upd_ne h] at e ⊢; exact e
  refine ⟨k.len, fun a u e => ?_, k.val, fun j l ds e => ?_, k.ro, k.sep, fun a u e => ?_, fun a e => ?_, k.grow, fun a u e => ?_, hr.trans (same_upd hP), k.dct.move (fun _ _ e => e) (fun _ _ _ e => ⟨e, rfl⟩) fun a es g1 g2 g3 g4 _ => ?_⟩
  · have ne : a ≠ p := fun z => by subst z; rw [hF] at e; cases e
    rw [upd_ne ne]; exact k.fr a u e
  · obtain ⟨a, vs, h1, h2, h3, h4, h5, h6, h7⟩ := k.own j l ds e
    obtain ⟨h8, h9⟩ := pn a h4
    exact ⟨a, vs, h1, by rw [upd_ne h9]; exact h2, h3, h8, h5, fun z => hn a (h6 z), h7⟩
  · have e : upd G.P p o' a = some u := e
    by_cases h : a = p
    · subst h; rw [upd_same] at e ⊢; exact e
    · rw [upd_ne h] at e ⊢
      exact k.pin a u (by show upd G.P p o a = some u; rw [upd_ne h]; exact e)
  · by_cases h : a = p
    · subst h; rw [upd_same] at e; cases e
    · rw [upd_ne h] at e; exact hn a (k.dom a e)
  · rcases k.new a u e with z | z
    · exact .inl z
    · exact .inr (hn a z)
  · obtain ⟨h8, h9⟩ := pn a g3
    exact ⟨by rw [upd_ne h9]; exact g1, g2, h8, hn a g4⟩
theorem lcGo_some {vs : List Nat} {g : Tf} {c : Bf} {f : Ef} {d : D} {ds : List D} {env env' : En} {zs : List D} (e : lcGo vs g c f (d :: ds) env = some (zs, env')) :
    ∃ env1 env2, g d env = some env1 ∧ ((∃ y env3 ws, c env1 = some (true, env2) ∧ f env2 = some (y, env3) ∧ lcGo vs g c f ds (wipeE env3 vs) = some (ws, env') ∧ zs = y :: ws) ∨ (c env1 = some (false, env2) ∧ lcGo vs g c f ds (wipeE env2 vs) = some (zs, env'))) := by
  unfold lcGo at e
  obtain ⟨env1, h1, e⟩ := Option.bind_eq_some_iff.mp e
  obtain ⟨⟨b, env2⟩, h2, e⟩ := Option.bind_eq_some_iff.mp e
  cases b with
  | true =>
    rw [if_pos rfl] at e
    obtain ⟨⟨y, env3⟩, h3, e⟩ := Option.bind_eq_some_iff.mp e
    obtain ⟨⟨ws, env4⟩, h4, e⟩ := Option.map_eq_some_iff.mp e
    cases e
    exact ⟨env1, env2, h1, .inl ⟨y, env3, ws, h2, h3, h4, rfl⟩⟩
  | false =>
    rw [if_neg Bool.false_ne_true] at e
    exact ⟨env1, env2, h1, .inr ⟨h2, e⟩⟩
theorem rn_comp {wi : TI} {gt : TG} {tt : TT} {te : TE} {src : Lf} {vs : List Nat} {g : Tf} {c : Bf} {f : Ef} {sl : List Nat} (hi : RI K wi src) (hg : RG K gt g sl) (ht : RB K tt c) (he : RE K te f) (hsl : ∀ i ∈ sl, i ∈ vs) :
    RN K (tLc wi gt tt te vs) (lComp src vs g c f) := fun G F env s H zs env' k e Q q => by
  unfold lComp at e
  obtain ⟨⟨ds, e1⟩, h1, e⟩ := Option.bind_eq_some_iff.mp e
  dsimp only at e
  split at e
  · rename_i hno
    rw [Bool.and_eq_true] at hno
    have hfit := fits_line hno.2
    obtain ⟨⟨ws, e2⟩, h2, e⟩ := Option.map_eq_some_iff.mp e
    cases e
    refine hi G F env s H ds e1 k h1 _ fun F1 H1 J k1 s1 w => ?_
    obtain ⟨Gp, Y, w1, w2, w3⟩ := w
    intro L hL
    have n1 : F1 L = none := k1.fr.free hL
    have n2 : G.P L = none := k1.pin.free hL
    have n3 : G.H0 L = none := k1.dom L hL
    have nown : ∀ (j : Nat) l es, e1[j]? = some (.own l es) → s[j]? ≠ some (some (.ref L)) := k1.notown hL
    have kw := ok_wipe vs k1
    have nw : ∀ (j : Nat) l es, (wipeE e1 vs)[j]? = some (.own l es) → (wipe s vs)[j]? ≠ some (some (.ref L)) := kw.notown hL
    have nF0 : G.F0 L = none := k1.grow.free n1
    -- the state at each turn
    refine lc_it w1 (fun i H' => ∃ F' env' accV accD rest, Ok K (G.pin L (.lst accV)) F' env' (wipe s vs) H' ∧ Same F1 F' ∧ Da F' accV accD ∧ accD.length ≤ i ∧ lcGo vs g c f (ds.drop i) env' = some (rest, e2) ∧ ws = accD ++ rest) ?_ ?_ ?_ ?_
    · refine ⟨F1, wipeE e1 vs, [], [], ws, ?_, Same.refl F1, .nil, Nat.zero_le _, h2, rfl⟩
      exact ok_pin (kw.laid hL) upd_same nw n2 n1 (kw.notdctN hL)
    · rintro i H' _ ⟨F', env', accV, accD, rest, k', s', _⟩
      exact w2 (G.pin L (.lst accV)) F' env' _ H' (Same.refl _) k' s'
    · rintro i x H' H'' hin ⟨F', env', accV, accD, rest, k', s', da, hlen, e', hw⟩ y
      obtain ⟨F2, k2, s2, hh, d, hd, pd⟩ := w3 i H' x H'' (G.pin L (.lst accV)) F' env' (wipe s vs) hin (Same.refl _) k' s' y
      have hdr : ds.drop i = d :: ds.drop (i + 1) := by
        obtain ⟨hl, hx⟩ := List.getElem?_eq_some_iff.mp hd
        rw [List.drop_eq_getElem_cons hl, hx]
      rw [hdr] at e'
      obtain ⟨env1, env2, g1, h3⟩ := lcGo_some e'
      refine hg _ F2 env' (wipe s vs) H'' x d env1 k2 pd g1 _ fun s3 k3 w3' => ?_
      have hwp : wipe s3 vs = wipe (wipe s vs) vs := w3' vs hsl
      have hww : wipe (wipe s vs) vs = wipe s vs := by
        refine List.ext_getElem? fun j => ?_
        rw [wipe_get, wipe_get, wipe_length]
        by_cases hj : j ∈ vs ∧ j < s.length
        · rw [if_pos hj, if_pos hj]
        · rw [if_neg hj, if_neg hj]
      refine ⟨by rw [hwp, hww], ?_⟩
      -- a turn's end
      have again : ∀ {F5 : Hp} {env5 : En} {H5 : Hp} {acc : List V}, Ok K (G.pin L (.lst acc)) F5 env5 s3 H5 → Ok K (G.pin L (.lst acc)) F5 (wipeE env5 vs) (wipe s vs) H5 := fun {F5 env5 H5 acc} k5 => by
        have := ok_wipe vs k5
        rw [hwp, hww] at this
        exact this
      rcases h3 with ⟨yv, env3, wr, hc, hf, hr, rfl⟩ | ⟨hc, hr⟩
      · refine ht _ F2 env1 s3 H'' true env2 k3 hc _ fun F3 H3 k4 s4 => ?_
        rw [if_pos rfl]
        refine he _ F3 env2 s3 H3 yv env3 k4 hf _ fun F4 H4 v k5 s5 p5 => ?_
        have ss : Same F1 F4 := ((s'.trans s2).trans s4).trans s5
        have ss' : Same F' F4 := (s2.trans s4).trans s5
        refine ⟨accV, pin_at k5, by rw [da.length]; omega, F4, wipeE env3 vs, accV ++ [v], accD ++ [yv], wr, again (ok_repin k5 n2 (pin_nofrz k5 nF0) k1.rin), ss, (Da.mono ss' _ _ da).append (.cons p5 .nil), by simp; omega, hr, by rw [hw]; simp⟩
      · refine ht _ F2 env1 s3 H'' false env2 k3 hc _ fun F3 H3 k4 s4 => ?_
        rw [if_neg Bool.false_ne_true]
        have ss : Same F1 F3 := (s'.trans s2).trans s4
        exact ⟨F3, wipeE env2 vs, accV, accD, rest, again k4, ss, Da.mono (s2.trans s4) _ _ da, by omega, hr, hw⟩
    · rintro H' ⟨F', env', accV, accD, rest, k', s', da, hlen, e', hw⟩
      rw [List.drop_length] at e'
      cases e'
      rw [List.append_nil] at hw
      subst hw
      have ku := ok_unpin k' n2 n3 k1.rin
      have f' := pin_nofrz k' nF0
      have hLL := pin_at k'
      have hle : e1.length = e2.length := by rw [← k1.len, ← ku.len, wipe_length]
      -- the slots of the comprehension's own names are as they were
      have kb : Ok K G F' (backE e1 e2 vs) s H' := by
        have key : ∀ {j : Nat} {x : Sl}, (backE e1 e2 vs)[j]? = some x → (j ∈ vs ∧ e1[j]? = some x) ∨ (j ∉ vs ∧ e2[j]? = some x ∧ s[j]? = (wipe s vs)[j]?) := fun {j x} e => by
          rw [backE_get e1 e2 hle] at e
          by_cases hj : j ∈ vs
          · rw [if_pos hj] at e; exact .inl ⟨hj, e⟩
          · rw [if_neg hj] at e
            refine .inr ⟨hj, e, ?_⟩
            rw [wipe_get, if_neg (fun z => hj z.1)]
        refine ⟨by rw [backE_length, ← hle]; exact k1.len, ku.fr, fun j d e => ?_, fun j l es e => ?_, fun j es e => ?_, fun j j' l es m fs e1' e2' e3' => ?_, ku.pin, ku.dom, ku.grow, ku.new, ku.rin, ku.dct.slots fun j w kvs e => ?_⟩
        · rcases key e with ⟨_, h⟩ | ⟨_, h, hs⟩
          · obtain ⟨v, q1, q2⟩ := k1.val j d h
            exact ⟨v, q1, Dt.mono s' _ _ q2⟩
          · rw [hs]; exact ku.val j d h
        · rcases key e with ⟨hj, h⟩ | ⟨_, h, hs⟩
          · exact absurd h (noOwn_get hno.1 hj l es)
          · rw [hs]; exact ku.own j l es h
        · rcases key e with ⟨_, h⟩ | ⟨_, h, hs⟩
          · obtain ⟨a, us, q1, q2, q3⟩ := k1.ro j es h
            exact ⟨a, us, q1, q2, Da.mono s' _ _ q3⟩
          · rw [hs]; exact ku.ro j es h
        · rcases key e1' with ⟨hj, h⟩ | ⟨_, h, hs⟩
          · exact absurd h (noOwn_get hno.1 hj l es)
          · rcases key e2' with ⟨hj2, h2⟩ | ⟨_, h2, hs2⟩
            · exact absurd h2 (noOwn_get hno.1 hj2 m fs)
            · rw [hs, hs2] at e3'
              exact ku.sep j j' _ _ _ _ h h2 e3'
        · rcases key e with ⟨hj, h⟩ | ⟨_, h, hs⟩
          · exact absurd h (noOwn_dct hno.1 hj w kvs)
          · exact ⟨h, hs⟩
      refine q F' H' L accV kb (s1.trans s') hLL f' n3 n2 (fun j l es e z => ?_) da
      obtain ⟨a, us, q1, q2, q3, q4, _⟩ := kb.own j l es e
      rw [z] at q1
      cases q1
      -- L is pinned in the frame of the block, so none of its own lists
      rw [backE_get e1 e2 hle] at e
      by_cases hj : j ∈ vs
      · rw [if_pos hj] at e
        exact noOwn_get hno.1 hj l es e
      · rw [if_neg hj] at e
        obtain ⟨b, us', g1, g2, g3, g4, _⟩ := k'.own j l es e
        rw [wipe_get, if_neg (fun w => hj w.1)] at g1
        rw [z] at g1
        cases g1
        have g4 : upd G.P L (.lst accV) L = none := g4
        rw [upd_same] at g4; cases g4
  · cases e
end
end M

namespace M
open PySem PySem.Spec PyProof.Rows L2

/-! ### the reading that hangs on the mirror alone -/
def cE (K : Frg) (f : Ef) : TE := fun s H Q => ∃ G F env d env', Ok K G F env s H ∧ f env = some (d, env') ∧ ∀ F' H' v, Ok K G F' env' s H' → Same F F' → Dt F' v d → Q v H'
def cB (K : Frg) (f : Bf) : TT := fun s H Q => ∃ G F env d env', Ok K G F env s H ∧ f env = some (d, env') ∧ ∀ F' H', Ok K G F' env' s H' → Same F F' → Q d H'
def cG (K : Frg) (g : Tf) (sl : List Nat) : TG := fun v s H Q => ∃ G F env d env', Ok K G F env s H ∧ Dt F v d ∧ g d env = some env' ∧ ∀ s', Ok K G F env' s' H → (∀ vs : List Nat, (∀ i ∈ sl, i ∈ vs) → wipe s' vs = wipe s vs) → Q s' H
structure XTs (X : Cx) (ifs : List Expr) (c : Bf) : Prop where
  ex : ∃ t, PTs X ifs t ∧ RB X.K t c
section
variable {X : Cx} {e tg : Expr} {f : Ef} {c : Bf} {g : Tf} {sl : List Nat} {K : Frg}
theorem XE.can (h : XE X e f) : PE X e (cE X.K f) := by
  obtain ⟨t, h1, h2⟩ := h.ex
  exact ⟨fun pins s σ H Q I ⟨G, F, env, d, env', k, e, q⟩ => h1.run pins s σ H Q I (h2 G F env σ H d env' k e Q q)⟩
theorem re_can : RE K (cE K f) f := fun G F env s H d env' k e Q q => ⟨G, F, env, d, env', k, e, q⟩
def bYes : Bf := fun env => some (true, env)
theorem xts_nil : XTs X [] bYes := ⟨_, pts_nil, fun G F env s H d env' k e Q q => by cases e; exact q F H k (Same.refl F)⟩
theorem xts_one (h : XB X e c) : XTs X [e] c := let ⟨_, h1, h2⟩ := h.ex; ⟨_, pts_one h1, h2⟩
theorem XTs.can {ifs : List Expr} (h : XTs X ifs c) : PTs X ifs (cB X.K c) := by
  obtain ⟨t, h1, h2⟩ := h.ex
  exact ⟨fun pins s σ H Q I ⟨G, F, env, d, env', k, e, q⟩ => h1.run pins s σ H Q I (h2 G F env σ H d env' k e Q q)⟩
theorem rb_can : RB K (cB K c) c := fun G F env s H d env' k e Q q => ⟨G, F, env, d, env', k, e, q⟩
theorem XG.can (h : XG X tg g sl) : PG X tg (cG X.K g sl) := by
  obtain ⟨t, h1, h2⟩ := h.ex
  exact ⟨fun pins s σ H v u Q I r ⟨G, F, env, d, env', k, p, e, q⟩ => h1.run pins s σ H v u Q I r (h2 G F env σ H v d env' k p e Q q)⟩
theorem rg_can : RG K (cG K g sl) g sl := fun G F env s H v d env' k p e Q q => ⟨G, F, env, d, env', k, p, e, q⟩

variable {elt iter : Expr} {ifs : List Expr} {scope : Scope} {own : List (Str × Nat)} {pos spos : Pos} {src : Lf}
theorem blkOk_to {N : List Str} {sc sc' scope : Scope} {own : List (Str × Nat)} (h : sc' = sc) (b : BlkOk N sc scope own) : BlkOk N sc' scope own := by subst h; exact b
/-- the context of a comprehension's block -/
abbrev Blk (X : Cx) (scope : Scope) (s : Shared) (H : Hp) (C : Addr) (cl : List (Str × Addr)) (fp : List Addr) : Cx := X.blk s H scope (compEnvC scope cl C X.env) fp
theorem xn_comp (hi : XI X tg iter src) (hN : X.N.Nodup) (ok : BlkOk X.N X.env.scope scope own) (hg : ∀ s H C cl fp, XG (Blk X scope s H C cl fp) tg g sl) (ht : ∀ s H C cl fp, XTs (Blk X scope s H C cl fp) ifs c) (he : ∀ s H C cl fp, XE (Blk X scope s H C cl fp) elt f)
    (hsl : ∀ i ∈ sl, i ∈ own.map (·.2) := by decide) (hc : X.calm = true := by rfl) (hs : ∀ x, foldedSetIterable iter X.env x = pure x := by intro _; rfl) : XN X (.ListComp elt [⟨tg, iter, ifs, 0⟩] scope pos) (lComp src (own.map (·.2)) g c f) := by
  obtain ⟨wi, p1, q1⟩ := hi.ex
  exact ⟨_, pe_lc hc hN p1 ok (fun s H C cl fp => (hg s H C cl fp).can) (fun s H C cl fp => (ht s H C cl fp).can) (fun s H C cl fp => (he s H C cl fp).can) hs, rn_comp q1 rg_can rb_can re_can hsl⟩
theorem xs_setComp (i : Nat) {y : Str} {py : Pos} (hi : XI X tg iter src) (hN : X.N.Nodup) (ok : BlkOk X.N X.env.scope scope own) (hg : ∀ s H C cl fp, XG (Blk X scope s H C cl fp) tg g sl) (ht : ∀ s H C cl fp, XTs (Blk X scope s H C cl fp) ifs c) (he : ∀ s H C cl fp, XE (Blk X scope s H C cl fp) elt f)
    (hsw : swapsWith (.ListComp elt [⟨tg, iter, ifs, 0⟩] scope pos) (some (.Name y py)) spos.line X.env = pure true) (hy : X.N[i]? = some y := by rfl) (hyl : X.env.scope.names.lookup y = some .local := by rfl)
    (hsl : ∀ i ∈ sl, i ∈ own.map (·.2) := by decide) (hc : X.calm = true := by rfl) (hs : ∀ x, foldedSetIterable iter X.env x = pure x := by intro _; rfl) :
    XS X (.Assign [.Name y py] (.ListComp elt [⟨tg, iter, ifs, 0⟩] scope pos) spos) (sSet i (eFz (lComp src (own.map (·.2)) g c f))) := by
  obtain ⟨wi, p1, q1⟩ := hi.ex
  exact ⟨_, ps_setLc hc hN hy hyl hsw p1 ok (fun s H C cl fp => (hg s H C cl fp).can) (fun s H C cl fp => (ht s H C cl fp).can) (fun s H C cl fp => (he s H C cl fp).can) hs, rs_set i (rn_comp q1 rg_can rb_can re_can hsl).re⟩
end

/-! ### a def -/
def fnRun (n np : Nat) (f : Sf) : Gf := fun args => if args.length = np then match f (args ++ List.replicate (n - np) .no) with
  | some (.nx env) => some (.none, env.take np)
  | some (.rt d env) => some (d, env.take np)
  | some (.rn ds env) => some (.list ds, env.take np)
  | some (.rp as ds env) => some (.tuple (as ++ [.list ds]), env.take np)
  | none => none
  else none
abbrev Hf := List Sl → Option (List D × List Sl)
/-- a def that hands back a new list -/
def fnNew (n np : Nat) (f : Sf) : Hf := fun args => if args.length = np then match f (args ++ List.replicate (n - np) .no) with
  | some (.rn ds env) => some (ds, env.take np)
  | _ => none
  else none
structure PostN (F H F' H' : Hp) (args args' : List Sl) (vs : List V) (p : Addr) (us : List V) (ds : List D) : Prop where
  keep : Same (minus H args vs) H'
  dom : ∀ a, H' a = none → H a = none
  grow : Same F F'
  fr : Same F' H'
  new : ∀ a o, F' a = some o → F a = some o ∨ H a = none
  at_ : H' p = some (.lst us)
  nf : F' p = none
  fresh : H p = none
  res : Da F' us ds
  own : ∀ (i : Nat) l ds, args[i]? = some (.own l ds) → ∀ ds', args'[i]? = some (.own false ds') → ∀ a, vs[i]? = some (.ref a) → ∃ us, H' a = some (.lst us) ∧ F' a = none ∧ Da F' us ds'
def spN (K : Frg) (g : Hf) : Sp := fun vs H Q _ => ∃ F args ds args', g args = some (ds, args') ∧ Same F H ∧ ArgsOk K F H args vs ∧ ∀ F' H' p us, PostN F H F' H' args args' vs p us ds → Q (.ref p) H'
def lCall (g : Hf) (fa : Af) : Lf := fun env => (fa env).bind fun r =>
  match rSlots r.1 with
  | [] => (resArs r.2 r.1).bind fun args => (g args).map fun q => (q.1, r.2)
  | [i] => if (oSlots r.1).contains i then none else (resArs r.2 r.1).bind fun args => (g args).bind fun q => (backAr r.2 r.1 q.2).map fun env' => (q.1, env')
  | _ => none
theorem rn_call {K : Frg} {g : Hf} {fa : Af} {t : TA} {E : XK} (ha : RA K t fa) : RN K (tCall (spN K g) [] E t) (lCall g fa) := fun G F env s H d env' k e Q q => by
  unfold lCall at e
  obtain ⟨⟨as, e1⟩, h1, e⟩ := Option.bind_eq_some_iff.mp e
  refine ha G F env s H as e1 k h1 _ fun F1 H1 vs k1 s1 p1 => ?_
  rw [List.append_nil]
  dsimp only at e
  -- the post in the other one's words, the list left out
  have po0 : ∀ {args args' : List Sl} {F' H' : Hp} {p : Addr} {us : List V} {ds : List D}, PostN F1 H1 F' H' args args' vs p us ds → Post F1 H1 F' H' args args' vs .non .none := fun po => ⟨po.keep, po.dom, po.grow, po.fr, po.new, .non, po.own⟩
  have noP : ∀ {args args' : List Sl} {F' H' : Hp} {p : Addr} {us : List V} {ds : List D}, PostN F1 H1 F' H' args args' vs p us ds → G.H0 p = none ∧ G.P p = none := fun po => ⟨k1.dom _ po.fresh, k1.pin.free po.fresh⟩
  -- none of the caller's own lists
  have no : ∀ {args args' : List Sl} {F' H' : Hp} {p : Addr} {us : List V} {ds : List D} {env2 : En}, PostN F1 H1 F' H' args args' vs p us ds → (∀ (j : Nat) l es, env2[j]? = some (.own l es) → ∃ fs, e1[j]? = some (.own l fs)) → ∀ (j : Nat) l es, env2[j]? = some (.own l es) → s[j]? ≠ some (some (.ref p)) := fun po bk j l es e z => by
    obtain ⟨fs, e2⟩ := bk j l es e
    exact k1.notown po.fresh j l fs e2 z
  split at e
  · rename_i hrs
    obtain ⟨args, h2, e⟩ := Option.bind_eq_some_iff.mp e
    obtain ⟨⟨d', args'⟩, h3, e⟩ := Option.map_eq_some_iff.mp e
    cases e
    refine ⟨F1, args, d', args', h3, k1.fr, args_ok k1 p1 h2 (by rw [hrs]; intro i hi; cases hi) (by rw [hrs]; intro i hi; cases hi), fun F' H' p us po => ?_⟩
    exact q F' H' p us (ok_after k1 p1 h2 (po0 po) rfl (fun j => .inl rfl) (by rw [hrs]; intro i hi; cases hi)) (s1.trans po.grow) po.at_ po.nf (noP po).1 (noP po).2 (no po fun j l es e => ⟨es, e⟩) po.res
  · rename_i i hrs
    split at e
    · cases e
    · rename_i hc
      obtain ⟨args, h2, e⟩ := Option.bind_eq_some_iff.mp e
      obtain ⟨⟨d', args'⟩, h3, e⟩ := Option.bind_eq_some_iff.mp e
      obtain ⟨env2, h4, e⟩ := Option.map_eq_some_iff.mp e
      cases e
      obtain ⟨j, l, ds, es, g1, g2, g3, g4⟩ := backAr_one hrs h4
      subst g4
      have hil : i < e1.length := (List.getElem?_eq_some_iff.mp g3).1
      refine ⟨F1, args, d', args', h3, k1.fr, args_ok k1 p1 h2 (by rw [hrs]; intro i' hi'; simp at hi'; subst hi'; intro hm; apply hc; simp [hm]) (by rw [hrs]; intro i' hi' j1 j2 q1 q2; simp at hi'; subst hi'; exact rSlots_one hrs j1 j2 q1 q2), fun F' H' p us po => ?_⟩
      refine q F' H' p us (ok_after k1 p1 h2 (po0 po) (by simp) (fun j' => ?_) ?_) (s1.trans po.grow) po.at_ po.nf (noP po).1 (noP po).2 (no po fun j' l' es' e' => ?_) po.res
      · by_cases hj : i = j'
        · subst hj
          exact .inr ⟨j, l, ds, es, g1, g2, g3, by rw [List.getElem?_set_self hil]⟩
        · exact .inl (List.getElem?_set_ne hj)
      · rw [hrs]
        intro i' hi' j' _
        simp at hi'
        subst hi'
        exact ⟨j, l, ds, g2, g1, by rw [List.getElem?_set_self hil]⟩
      · rcases set_get e' with ⟨rfl, _, z⟩ | ⟨_, z⟩
        · cases z; exact ⟨_, g3⟩
        · exact ⟨_, z⟩
  · cases e
section
variable {X : Cx} {k : Nat} {fx : Addr} {fd : FuncData} {ps : List Str} {x : Str} {p pos : Pos} {e : Expr} {es : List Expr} {fa : Af} {g : Hf}
theorem xn_call (FF : FnOk X.prog X.w X.K X.mg X.base CX0 k fx fd ps (spN X.K g)) (hr : Room k X.A) (hm : X.mg x = some (.ref fx)) (hk : PySem.W.keepIn X.K (.ref fx) = true) (hb : Binds X.K fd ps []) (ha : XA X (e :: es) fa) (hg : Gl X x := by rfl)
    (hdb : (x == ("__debug__" : Str)) = false := by decide) (he : starEach (e :: es) X.env = (false, eval e X.env) :: starEach es X.env := by rfl) (hpl : (backTo pos (starEach es X.env)).any (·.1) = false := by rfl) :
    XN X (.Call (.Name x p) (e :: es) [] pos) (lCall g fa) :=
  let ⟨_, h1, h2⟩ := ha.ex; ⟨_, pe_call FF hr hg hm hk hb .nil pass0 h1 hdb he hpl, rn_call h2⟩
end
theorem start_get {N : List Str} {vs : List V} {i : Nat} {v : V} (h : vs[i]? = some v) : (L2.start N vs)[i]? = some (some v) := by
  have hi : i < vs.length := (List.getElem?_eq_some_iff.mp h).1
  unfold L2.start
  rw [List.getElem?_append_left (by simpa using hi), List.getElem?_map, h]
  rfl
theorem app_get {args : List Sl} {m : Nat} {i : Nat} {x : Sl} (h : (args ++ List.replicate m .no)[i]? = some x) (hx : x ≠ .no) : args[i]? = some x := by
  by_cases hi : i < args.length
  · rw [List.getElem?_append_left hi] at h; exact h
  · rw [List.getElem?_append_right (by omega), List.getElem?_replicate] at h
    split at h
    · cases h; exact absurd rfl hx
    · cases h
theorem ok_start {K : Frg} {F H : Hp} {args : List Sl} {vs : List V} {N ps : List Str} (hl : ps.length = args.length) (hN : ps.length ≤ N.length) (fr : Same F H) (a : ArgsOk K F H args vs) :
    Ok K ⟨F, H, minus H args vs, minus H args vs, L2.start N vs⟩ F (args ++ List.replicate (N.length - ps.length) .no) (L2.start N vs) H where
  len := by unfold L2.start; simp only [List.length_append, List.length_map, List.length_replicate]; have := a.len; omega
  fr := fr
  val := fun i d e => by
    obtain ⟨v, h1, h2⟩ := a.val i d (app_get e (by simp))
    exact ⟨v, start_get h1, h2⟩
  own := fun i l ds e => by
    have e' := app_get e (by simp)
    obtain ⟨rfl, p, us, h1, h2, h3, h4⟩ := a.own i l ds e'
    refine ⟨p, us, start_get h1, h2, h3, ?_, h4, fun z => (by cases z), fun _ => start_get h1⟩
    show minus H args vs p = none
    unfold minus
    exact if_pos ⟨i, _, _, e', h1⟩
  ro := fun i ds e => by
    obtain ⟨p, us, h1, h2, h3⟩ := a.ro i ds (app_get e (by simp))
    exact ⟨p, us, start_get h1, h2, h3⟩
  sep := fun i j l ds m es e1 e2 e3 => by
    have e1' := app_get e1 (by simp)
    have e2' := app_get e2 (by simp)
    obtain ⟨_, p, us, h1, _⟩ := a.own i l ds e1'
    obtain ⟨_, q, us', h2, _⟩ := a.own j m es e2'
    rw [start_get h1, start_get h2] at e3
    exact a.sep i j _ _ _ _ e1' e2' (by rw [h1, h2]; exact Option.some.inj e3)
  pin := fun x o e => (minus_of e).1
  dom := fun x e => e
  grow := Same.refl F
  new := fun x o e => .inl e
  rin := Same.refl _
  dct := ⟨fun i w kvs e => absurd (app_get e (by simp)) (a.dct i w kvs), fun i j w kvs w' kvs' e _ _ => absurd (app_get e (by simp)) (a.dct i w kvs)⟩
theorem post_of {K : Frg} {F F' H H' : Hp} {args : List Sl} {vs : List V} {N : List Str} {env : En} {s : L2.St} {v : V} {d : D} {np : Nat} (a : ArgsOk K F H args vs) (hl : np = args.length) (k : Ok K ⟨F, H, minus H args vs, minus H args vs, L2.start N vs⟩ F' env s H') (p : Dt F' v d) : Post F H F' H' args (env.take np) vs v d where
  keep := k.pin
  dom := k.dom
  grow := k.grow
  fr := k.fr
  new := k.new
  res := p
  own := fun i l ds e ds' e' q hq => by
    have e2 : env[i]? = some (.own false ds') := by
      rw [List.getElem?_take] at e'
      split at e'
      · exact e'
      · cases e'
    obtain ⟨b, us, h1, h2, h3, _, h4, _, h5⟩ := k.own i false ds' e2
    have h6 : (L2.start N vs)[i]? = some (some (.ref b)) := h5 rfl
    rw [start_get hq] at h6
    cases h6
    exact ⟨us, h2, h3, h4⟩
section
variable {P : Program} {w : World} {K : Frg} {mg : Str → Option Value} {base : Heap}
theorem fn_ok {x qual : Str} {st : Stmt} {f : Addr} {fd : FuncData} {N ps : List Str} {k : Nat} {fb : Sf} (F : Fun K x qual st f fd) (S : FnScope N ps (defScope st))
    (hbody : ∀ (cdv : Value) (A : Around) (outer : List Env) (s : Shared) (H : Hp) (E : XK), Room k (A.deeper (envOfC qual (defScope st) s.heap.objs.size f cdv)) →
      XSs (cxOf CX0 P w K mg base N qual (defScope st) f cdv A outer s H E).nox (defBody st) fb) : FnOk P w K mg base CX0 (k + 1) f fd ps (spF K (fnRun N.length ps.length fb)) := by
  refine F.ok S (fun vs H Q E h => ?_) (fun cdv A outer s H vs Q E hr h => ?_)
  · obtain ⟨Fz, args, d, args', hg, fr, a, _⟩ := h
    unfold fnRun at hg
    split at hg
    · rename_i hl
      rw [a.len, hl]
    · cases hg
  · obtain ⟨Fz, args, d, args', hg, fr, a, q⟩ := h
    obtain ⟨t, h1, h2⟩ := (hbody cdv A outer s H E hr).ex
    refine ⟨t, h1, ?_⟩
    have hpl : ps.length ≤ N.length := by have := congrArg List.length S.pre; rw [List.length_take] at this; omega
    unfold fnRun at hg
    split at hg
    · rename_i hl
      have k0 := ok_start hl.symm hpl fr a
      split at hg
      · rename_i env he
        cases hg
        refine h2 _ Fz _ _ H _ k0 he _ ?_
        exact fun F' s' H' k' s1 => q F' H' .non (post_of a hl.symm k' .non)
      · rename_i d' env he
        cases hg
        refine h2 _ Fz _ _ H _ k0 he _ ?_
        exact fun F' s' H' v k' s1 p => q F' H' v (post_of a hl.symm k' p)
      · rename_i ds env he
        cases hg
        refine h2 _ Fz _ _ H _ k0 he _ ?_
        intro F' s' H' p us k' s1 g1 g2 g3 g4 g5 g6
        exact q _ H' (.ref p) (post_of a hl.symm (k'.freeze g1 g2 g3 g5 (k'.notdctL g1)) (.lst upd_same (Da.mono (same_upd g2) _ _ g6)))
      · rename_i as ds env he
        cases hg
        refine h2 _ Fz _ _ H _ k0 he _ ?_
        intro F' s' H' t p ws us k' s1 n
        obtain ⟨F2, k2, s2, pd, _⟩ := n.frz k'
        exact q F2 H' (.ref t) (post_of a hl.symm k2 pd)
      · cases hg
    · cases hg
theorem fn_new {x qual : Str} {st : Stmt} {f : Addr} {fd : FuncData} {N ps : List Str} {k : Nat} {fb : Sf} (F : Fun K x qual st f fd) (S : FnScope N ps (defScope st))
    (hbody : ∀ (cdv : Value) (A : Around) (outer : List Env) (s : Shared) (H : Hp) (E : XK), Room k (A.deeper (envOfC qual (defScope st) s.heap.objs.size f cdv)) →
      XSs (cxOf CX0 P w K mg base N qual (defScope st) f cdv A outer s H E).nox (defBody st) fb) : FnOk P w K mg base CX0 (k + 1) f fd ps (spN K (fnNew N.length ps.length fb)) := by
  refine F.ok S (fun vs H Q E h => ?_) (fun cdv A outer s H vs Q E hr h => ?_)
  · obtain ⟨Fz, args, d, args', hg, fr, a, _⟩ := h
    unfold fnNew at hg
    split at hg
    · rename_i hl
      rw [a.len, hl]
    · cases hg
  · obtain ⟨Fz, args, d, args', hg, fr, a, q⟩ := h
    obtain ⟨t, h1, h2⟩ := (hbody cdv A outer s H E hr).ex
    refine ⟨t, h1, ?_⟩
    have hpl : ps.length ≤ N.length := by have := congrArg List.length S.pre; rw [List.length_take] at this; omega
    unfold fnNew at hg
    split at hg
    · rename_i hl
      have k0 := ok_start hl.symm hpl fr a
      split at hg
      · rename_i ds env he
        cases hg
        refine h2 _ Fz _ _ H _ k0 he _ ?_
        intro F' s' H' p us k' s1 g1 g2 g3 g4 g5 g6
        have po := post_of (v := .non) (d := .none) a hl.symm k' .non
        exact q F' H' p us ⟨po.keep, po.dom, po.grow, po.fr, po.new, g1, g2, g3, g6, po.own⟩
      · cases hg
    · cases hg
end
end M

namespace M
open PySem PySem.Spec PyProof.Rows L2
section
variable {X : Cx} {e a b : Expr} {f fa fb : Ef} {p pos : Pos} {K : Frg}

/-! ### built-ins of one argument -/
def gLen : D → Option D
  | .list ds => some (.int (ds.length : Int))
  | .tuple ds => some (.int (ds.length : Int))
  | .str x => if fits x.length then some (.int (x.length : Int)) else none
  | _ => none
def rLen (K : Frg) : List V → Hp → VK → Prop := fun xs H Q => ∃ x n, xs = [x] ∧ LenV K x H n ∧ Q (.int n) H
theorem gc_len : GC K (rLen K) gLen := by
  intro G F env s H x d z k h1 h3 Q q
  unfold gLen at h3
  split at h3
  · cases h3
    obtain ⟨p, vs, rfl, h4, h5⟩ := h1.list k.fr
    refine ⟨_, vs.length, rfl, .inl ⟨vs, h4, rfl⟩, ?_⟩
    rw [h5.length]
    exact q F H _ k (Same.refl F) (.int _)
  · cases h3
    obtain ⟨p, vs, rfl, h4, _, h5⟩ := h1.tup k.fr
    refine ⟨_, vs.length, rfl, .inr ⟨vs, SqT.of h4, rfl⟩, ?_⟩
    rw [h5.length]
    exact q F H _ k (Same.refl F) (.int _)
  · split at h3
    · rename_i hf
      cases h3
      cases h1.str
      exact ⟨_, _, rfl, ⟨fits_line hf, rfl⟩, q F H _ k (Same.refl F) (.int _)⟩
    · cases h3
  · cases h3
theorem xe_len (hm : X.mg "len" = none) (ha : XO X e f) (hg : Gl X "len" := by rfl) (he : starEach [e] X.env = (false, eval e X.env) :: starEach [] X.env := by rfl) (hpl : (backTo pos (starEach [] X.env)).any (·.1) = false := by rfl) : XE X (.Call (.Name "len" p) [e] [] pos) (eUn gLen f) :=
  xe_cbB call_len PySem.boot_len gc_len hm ha hg (by decide) (by decide) he hpl
def gAbs : D → Option D
  | .int i => some (.int (if i < 0 then -i else i))
  | _ => none
theorem gc_abs : GC K (fun xs H Q => ∃ i, xs = [.int i] ∧ Q (.int (if i < 0 then -i else i)) H) gAbs := by
  intro G F env s H x d z k h1 h3 Q q
  unfold gAbs at h3
  split at h3
  · cases h3; cases h1.int
    exact ⟨_, rfl, q F H _ k (Same.refl F) (.int _)⟩
  · cases h3
theorem xe_abs (hm : X.mg "abs" = none) (ha : XO X e f) (hg : Gl X "abs" := by rfl) (he : starEach [e] X.env = (false, eval e X.env) :: starEach [] X.env := by rfl) (hpl : (backTo pos (starEach [] X.env)).any (·.1) = false := by rfl) : XE X (.Call (.Name "abs" p) [e] [] pos) (eUn gAbs f) :=
  xe_cbB call_abs boot_abs gc_abs hm ha hg (by decide) (by decide) he hpl
def gInt : D → Option D
  | .int i => some (.int i)
  | .bool k => some (.int (if k then 1 else 0))
  | _ => none
theorem gc_int : GC K (fun xs H Q => (∃ i, xs = [.int i] ∧ Q (.int i) H) ∨ ∃ k, xs = [.bl k] ∧ Q (.int (if k then 1 else 0)) H) gInt := by
  intro G F env s H x d z k h1 h3 Q q
  unfold gInt at h3
  split at h3
  · cases h3; cases h1.int
    exact .inl ⟨_, rfl, q F H _ k (Same.refl F) (.int _)⟩
  · cases h3; cases h1.bl
    exact .inr ⟨_, rfl, q F H _ k (Same.refl F) (.int _)⟩
  · cases h3
theorem xe_int1 (hm : X.mg "int" = none) (ha : XO X e f) (hg : Gl X "int" := by rfl) (he : starEach [e] X.env = (false, eval e X.env) :: starEach [] X.env := by rfl) (hpl : (backTo pos (starEach [] X.env)).any (·.1) = false := by rfl) : XE X (.Call (.Name "int" p) [e] [] pos) (eUn gInt f) :=
  xe_cbT call_int1 boot_int gc_int hm ha hg (by decide) (by decide) he hpl
def gList : D → Option (List D)
  | .list ds => some ds
  | .tuple ds => some ds
  | _ => none
theorem gc_list : GCN K (fun xs H Q => ∃ p ys, xs = [.ref p] ∧ (SqL K H p ys ∨ SqT K H p ys) ∧ ∀ l, H l = none → Q (.ref l) (upd H l (.lst ys))) gList := by
  intro G F env s H x d z k h1 h3 Q q
  unfold gList at h3
  split at h3
  · cases h3
    obtain ⟨p, vs, rfl, h4, h5⟩ := h1.list k.fr
    exact ⟨p, vs, rfl, .inl h4, fun l hl => q F _ l vs (k.laid hl) (Same.refl F) upd_same (k.fr.free hl) (k.dom l hl) (k.pin.free hl) (k.notown hl) h5⟩
  · cases h3
    obtain ⟨p, vs, rfl, h4, _, h5⟩ := h1.tup k.fr
    exact ⟨p, vs, rfl, .inr (SqT.of h4), fun l hl => q F _ l vs (k.laid hl) (Same.refl F) upd_same (k.fr.free hl) (k.dom l hl) (k.pin.free hl) (k.notown hl) h5⟩
  · cases h3
theorem xn_list (hm : X.mg "list" = none) (ha : XO X e f) (hg : Gl X "list" := by rfl) (he : starEach [e] X.env = (false, eval e X.env) :: starEach [] X.env := by rfl) (hpl : (backTo pos (starEach [] X.env)).any (·.1) = false := by rfl) : XN X (.Call (.Name "list" p) [e] [] pos) (lUn gList f) :=
  xn_cbT call_list_of boot_list gc_list hm ha hg (by decide) (by decide) he hpl
def gTuple : D → Option D
  | .list ds => some (.tuple ds)
  | .tuple ds => some (.tuple ds)
  | _ => none
theorem gc_tuple : GC K (fun xs H Q => ∃ p ys, xs = [.ref p] ∧ ((SqL K H p ys ∧ ∀ l, H l = none → Q (.ref l) (upd H l (.tup ys))) ∨ (SqT K H p ys ∧ Q (.ref p) H))) gTuple := by
  intro G F env s H x d z k h1 h3 Q q
  unfold gTuple at h3
  split at h3
  · cases h3
    obtain ⟨p, vs, rfl, h4, h5⟩ := h1.list k.fr
    exact ⟨p, vs, rfl, .inl ⟨h4, fun l hl => q _ _ _ (k.alloc hl) (same_upd (k.fr.free hl)) (.tup upd_same (Da.mono (same_upd (k.fr.free hl)) _ _ h5))⟩⟩
  · cases h3
    obtain ⟨p, vs, rfl, h4, h6, h5⟩ := h1.tup k.fr
    exact ⟨p, vs, rfl, .inr ⟨SqT.of h4, q F H _ k (Same.refl F) (.tup h6 h5)⟩⟩
  · cases h3
theorem xe_tuple (hm : X.mg "tuple" = none) (ha : XO X e f) (hg : Gl X "tuple" := by rfl) (he : starEach [e] X.env = (false, eval e X.env) :: starEach [] X.env := by rfl) (hpl : (backTo pos (starEach [] X.env)).any (·.1) = false := by rfl) : XE X (.Call (.Name "tuple" p) [e] [] pos) (eUn gTuple f) :=
  xe_cbT call_tuple_of boot_tuple gc_tuple hm ha hg (by decide) (by decide) he hpl
/-! whole numbers, truths in a list -/
def intsOf : List D → Option (List Int)
  | [] => some []
  | .int i :: ds => (intsOf ds).map fun r => i :: r
  | _ :: _ => none
def blsOf : List D → Option (List Bool)
  | [] => some []
  | .bool i :: ds => (blsOf ds).map fun r => i :: r
  | _ :: _ => none
theorem intsOf_some : ∀ {ds : List D} {ns : List Int}, intsOf ds = some ns → ds = ns.map .int
  | [], _, h => by cases h; rfl
  | .int i :: ds, ns, h => by
    unfold intsOf at h
    obtain ⟨r, h1, h⟩ := Option.map_eq_some_iff.mp h
    subst h
    rw [intsOf_some h1]; rfl
  | .none :: _, _, h => by cases h
  | .bool _ :: _, _, h => by cases h
  | .str _ :: _, _, h => by cases h
  | .list _ :: _, _, h => by cases h
  | .tuple _ :: _, _, h => by cases h
  | .dict _ :: _, _, h => by cases h
theorem blsOf_some : ∀ {ds : List D} {ns : List Bool}, blsOf ds = some ns → ds = ns.map .bool
  | [], _, h => by cases h; rfl
  | .bool i :: ds, ns, h => by
    unfold blsOf at h
    obtain ⟨r, h1, h⟩ := Option.map_eq_some_iff.mp h
    subst h
    rw [blsOf_some h1]; rfl
  | .none :: _, _, h => by cases h
  | .int _ :: _, _, h => by cases h
  | .str _ :: _, _, h => by cases h
  | .list _ :: _, _, h => by cases h
  | .tuple _ :: _, _, h => by cases h
  | .dict _ :: _, _, h => by cases h
theorem intsOf_map : ∀ ns : List Int, intsOf (ns.map .int) = some ns
  | [] => rfl
  | n :: ns => by show (intsOf (ns.map .int)).map _ = _; rw [intsOf_map ns]; rfl
theorem blsOf_map : ∀ ns : List Bool, blsOf (ns.map .bool) = some ns
  | [] => rfl
  | n :: ns => by show (blsOf (ns.map .bool)).map _ = _; rw [blsOf_map ns]; rfl
theorem Da.bls {F : Hp} : ∀ {ns : List Bool} {vs : List V}, Da F vs (ns.map .bool) → vs = ns.map V.bl
  | [], _, r => by cases r; rfl
  | n :: ns, _, r => by
    cases r with
    | cons a b => cases a; rw [Da.bls b]; rfl
theorem Da.irs {F : Hp} : ∀ {ns : List Int} {vs : List V}, Da F vs (ns.map .int) → vs = ns.map V.int
  | [], _, r => by cases r; rfl
  | n :: ns, _, r => by
    cases r with
    | cons a b => cases a; rw [Da.irs b]; rfl
def gSum : D → Option D
  | .list ds => (intsOf ds).map fun ns => .int ns.sum
  | _ => none
theorem gc_sum : GC K (rSum K) gSum := by
  intro G F env s H x d z k h1 h3 Q q
  unfold gSum at h3
  split at h3
  · obtain ⟨ns, h4, h5⟩ := Option.map_eq_some_iff.mp h3
    cases h5
    obtain ⟨p, vs, rfl, h6, h7⟩ := h1.list k.fr
    rw [intsOf_some h4] at h7
    rw [h7.irs] at h6
    exact ⟨p, ns, rfl, h6, q F H _ k (Same.refl F) (.int _)⟩
  · cases h3
theorem xe_sum (hm : X.mg "sum" = none) (ha : XO X e f) (hc : X.calm = true := by rfl) (hg : Gl X "sum" := by rfl) (he : starEach [e] X.env = (false, eval e X.env) :: starEach [] X.env := by rfl) (hpl : (backTo pos (starEach [] X.env)).any (·.1) = false := by rfl) : XE X (.Call (.Name "sum" p) [e] [] pos) (eUn gSum f) :=
  xe_cbB (cr_sum hc) boot_sum gc_sum hm ha hg (by decide) (by decide) he hpl
def gAll : D → Option D
  | .list ds => (blsOf ds).map fun ns => .bool (ns.all id)
  | _ => none
def gAny : D → Option D
  | .list ds => (blsOf ds).map fun ns => .bool (ns.any id)
  | _ => none
theorem gc_all : GC K (rAll K) gAll := by
  intro G F env s H x d z k h1 h3 Q q
  unfold gAll at h3
  split at h3
  · obtain ⟨ns, h4, h5⟩ := Option.map_eq_some_iff.mp h3
    cases h5
    obtain ⟨p, vs, rfl, h6, h7⟩ := h1.list k.fr
    rw [blsOf_some h4] at h7
    rw [h7.bls] at h6
    exact ⟨p, ns, rfl, h6, q F H _ k (Same.refl F) (.bl _)⟩
  · cases h3
theorem gc_any : GC K (rAny K) gAny := by
  intro G F env s H x d z k h1 h3 Q q
  unfold gAny at h3
  split at h3
  · obtain ⟨ns, h4, h5⟩ := Option.map_eq_some_iff.mp h3
    cases h5
    obtain ⟨p, vs, rfl, h6, h7⟩ := h1.list k.fr
    rw [blsOf_some h4] at h7
    rw [h7.bls] at h6
    exact ⟨p, ns, rfl, h6, q F H _ k (Same.refl F) (.bl _)⟩
  · cases h3
theorem xe_all (hm : X.mg "all" = none) (ha : XO X e f) (hc : X.calm = true := by rfl) (hg : Gl X "all" := by rfl) (he : starEach [e] X.env = (false, eval e X.env) :: starEach [] X.env := by rfl) (hpl : (backTo pos (starEach [] X.env)).any (·.1) = false := by rfl) : XE X (.Call (.Name "all" p) [e] [] pos) (eUn gAll f) :=
  xe_cbB (cr_all hc) boot_all gc_all hm ha hg (by decide) (by decide) he hpl
theorem xe_any (hm : X.mg "any" = none) (ha : XO X e f) (hc : X.calm = true := by rfl) (hg : Gl X "any" := by rfl) (he : starEach [e] X.env = (false, eval e X.env) :: starEach [] X.env := by rfl) (hpl : (backTo pos (starEach [] X.env)).any (·.1) = false := by rfl) : XE X (.Call (.Name "any" p) [e] [] pos) (eUn gAny f) :=
  xe_cbB (cr_any hc) boot_any gc_any hm ha hg (by decide) (by decide) he hpl
/-! of two -/
def gMax2 : D → D → Option D
  | .int i, .int j => some (.int (if j > i then j else i))
  | _, _ => none
def gMin2 : D → D → Option D
  | .int i, .int j => some (.int (if j < i then j else i))
  | _, _ => none
theorem gc_max2 : GC2 K (fun xs H Q => ∃ i j, xs = [.int i, .int j] ∧ Q (.int (if j > i then j else i)) H) gMax2 := by
  intro G F env s H x y d e z k h1 h2 h3 Q q
  unfold gMax2 at h3
  split at h3
  · cases h3; cases h1; cases h2
    exact ⟨_, _, rfl, q F H _ k (Same.refl F) (.int _)⟩
  · cases h3
theorem xe_max2 (hm : X.mg "max" = none) (ha : XE X a fa) (hb : XE X b fb) (hc : X.calm = true := by rfl) (hg : Gl X "max" := by rfl) (he : starEach [a, b] X.env = (false, eval a X.env) :: starEach [b] X.env := by rfl) (he2 : starEach [b] X.env = (false, eval b X.env) :: starEach [] X.env := by rfl) (hpl : (backTo pos (starEach [b] X.env)).any (·.1) = false := by rfl) : XE X (.Call (.Name "max" p) [a, b] [] pos) (eBin gMax2 fa fb) :=
  xe_cb2 (call_max2 hc) boot_max gc_max2 hm ha hb hg (by decide) (by decide) he he2 hpl
/-! isinstance -/
inductive Ty where
  | int | bool | str | lst | tup
def Ty.nm : Ty → String
  | .int => "int" | .bool => "bool" | .str => "str" | .lst => "list" | .tup => "tuple"
def isi : Ty → D → Option Bool
  | _, .dict _ => none
  | .int, .int _ => some true
  | .int, .bool _ => some true
  | .int, _ => some false
  | .bool, .bool _ => some true
  | .bool, _ => some false
  | .str, .str _ => some true
  | .str, _ => some false
  | .lst, .list _ => some true
  | .lst, _ => some false
  | .tup, .tuple _ => some true
  | .tup, _ => some false
def tyD : D → String
  | .none => "NoneType" | .bool _ => "bool" | .int _ => "int" | .str _ => "str" | .list _ => "list" | .tuple _ => "tuple" | .dict _ => "dict"
theorem isi_kit {T : Ty} {d : D} {b : Bool} (h : isi T d = some b) : kitB (tyD d) T.nm = some b := by
  cases T <;> cases d <;> cases h <;> simp only [tyD, Ty.nm] <;> decide +kernel
theorem ty_of {G : Gm} {F : Hp} {env : En} {s : L2.St} {H : Hp} {d : D} {v : V} (k : Ok K G F env s H) (h : Dt F v d) (n : ∀ x, d ≠ .dict x) : TyX K H v (.type (tyD d)) := by
  cases h with
  | xc _ => exact absurd rfl (n _)
  | xf _ _ => exact absurd rfl (n _)
  | non => exact .base .non
  | bl b => exact .base (.bl b)
  | int i => exact .base (.int i)
  | str x => exact .base (.str x)
  | lst a b => exact .base (.lst (k.fr _ _ a))
  | tup a b => exact .base (.tup (k.fr _ _ a))
def gIsi (T : Ty) (d : D) : Option D := (isi T d).map .bool
theorem xe_isi {p2 : Pos} (T : Ty) {y : Str} (hv : bootBuiltins y = some (.type T.nm)) (hm : X.mg "isinstance" = none) (hmy : X.mg y = none) (ha : XE X e f) (hgy : Gl X y := by rfl) (hg : Gl X "isinstance" := by rfl) (hn : y ≠ "__name__" := by decide) (hdb : (y == ("__debug__" : Str)) = false := by decide)
    (he : starEach [e, .Name y p2] X.env = (false, eval e X.env) :: starEach [.Name y p2] X.env := by rfl) (he2 : starEach [.Name y p2] X.env = (false, eval (.Name y p2) X.env) :: starEach [] X.env := by rfl) (hpl : (backTo pos (starEach [.Name y p2] X.env)).any (·.1) = false := by rfl) :
    XE X (.Call (.Name "isinstance" p) [e, .Name y p2] [] pos) (eUn (gIsi T) f) := by
  obtain ⟨t, h1, h2⟩ := ha.ex
  refine ⟨_, pe_callB call_isi hg hm boot_isinstance (pa_cons h1 (pa_cons (pe_bltn (v := .ty T.nm) hgy hmy hv rfl hn hdb) pa_nil he2) he) (by decide) (by decide) he hpl, fun G F env s H d env' k e Q q => ?_⟩
  obtain ⟨d1, h3, h4⟩ := un_some e
  unfold gIsi at h4
  obtain ⟨b, h5, h6⟩ := Option.map_eq_some_iff.mp h4
  cases h6
  refine h2 G F env s H d1 env' k h3 _ fun F1 H1 v1 k1 s1 p1 => ?_
  exact ⟨v1, .ty T.nm, _, _, b, rfl, .ty _, ty_of k1 p1 (fun x z => by subst z; cases T <;> cases h5), kit_ty (isi_kit h5), q F1 H1 _ k1 s1 (.bl _)⟩

/-! ### in, not in -/
def flatD : D → Bool
  | .none => true
  | .bool _ => true
  | .int _ => true
  | .str _ => true
  | _ => false
def isIn (d e : D) : Option Bool := match d, e with
  | .str x, .str y => some (!(Builtin.Str.occurrences y x 0 y.length 1).isEmpty)
  | d, .list ds => if shp d && shp (.list ds) then some (ds.any fun e => PyData.eqv e d) else none
  | d, .tuple ds => if flatD d && ds.all flatD then some (ds.any fun e => PyData.eqv e d) else none
  | _, _ => none
def gIs (d e : D) : Option D := (isIn d e).map .bool
def gNi (d e : D) : Option D := (isIn d e).map fun b => .bool !b
def rInA (K : Frg) : R2 := fun x y H Q => (∃ i j, x = .str i ∧ y = .str j ∧ Q (.bl (!(Builtin.Str.occurrences j i 0 j.length 1).isEmpty)) H) ∨ rInD K x y H Q ∨ rIn K false x y H Q
def rNiA (K : Frg) : R2 := fun x y H Q => (∃ i j, x = .str i ∧ y = .str j ∧ Q (.bl (!(!(Builtin.Str.occurrences j i 0 j.length 1).isEmpty))) H) ∨ rNotInD K x y H Q ∨ rIn K true x y H Q
theorem op_inA (hu : X.A.units + 65 < cLine) : OpR X (compareOp .In) (rInA X.K) := op_in_str.or ((op_inD hu).or op_in_seq)
theorem op_niA (hu : X.A.units + 65 < cLine) : OpR X (compareOp .NotIn) (rNiA X.K) := op_notin_str.or ((op_notInD hu).or op_notIn_seq)
theorem flat_v {F : Hp} {v : V} {d : D} (h : Dt F v d) (f : flatD d = true) : flatV v = true := by
  cases h <;> first | rfl | (exact absurd f Bool.false_ne_true)
theorem eq_flat {F : Hp} {v u : V} {d e : D} (h : Dt F v d) (g : Dt F u e) (f : flatD d = true) (f' : flatD e = true) : eqV v u = PyData.eqv d e := by
  cases h <;> cases g <;> first | (exact absurd f Bool.false_ne_true) | (exact absurd f' Bool.false_ne_true) | simp [eqV, PyData.eqv]
theorem any_flat {F : Hp} {u : V} {e : D} (g : Dt F u e) (f' : flatD e = true) : ∀ {ds : List D} {vs : List V}, Da F vs ds → ds.all flatD = true → vs.all flatV = true ∧ (vs.any fun y => eqV y u) = ds.any fun y => PyData.eqv y e
  | [], _, h, _ => by cases h; exact ⟨rfl, rfl⟩
  | d :: ds, _, h, f => by
    cases h with
    | cons h1 h2 =>
      rw [List.all_cons, Bool.and_eq_true] at f
      obtain ⟨q1, q2⟩ := any_flat g f' h2 f.2
      refine ⟨by rw [List.all_cons, flat_v h1 f.1, q1]; rfl, ?_⟩
      rw [List.any_cons, List.any_cons, eq_flat h1 g f.1 f', q2]
theorem in_cases {G : Gm} {F : Hp} {env : En} {s : L2.St} {H : Hp} {x y : V} {d e : D} {b : Bool} (k : Ok K G F env s H) (h1 : Dt F x d) (h2 : Dq K F H y e) (h : isIn d e = some b) :
    (∃ i j, x = .str i ∧ y = .str j ∧ b = !(Builtin.Str.occurrences j i 0 j.length 1).isEmpty) ∨ (∃ ds, Dp K H x d ∧ Dp K H y (.list ds) ∧ SeqAt.shaped d = true ∧ SeqAt.shaped (.list ds) = true ∧ b = ds.any fun e => PyData.eqv e d) ∨
      ∃ p xs, y = .ref p ∧ (SqL K H p xs ∨ SqT K H p xs) ∧ flatV x = true ∧ xs.all flatV = true ∧ b = inV x xs := by
  unfold isIn at h
  split at h
  · cases h; cases h1
    exact .inl ⟨_, _, rfl, h2.str, rfl⟩
  · split at h
    · rename_i hf
      cases h
      rw [Bool.and_eq_true] at hf
      exact .inr (.inl ⟨_, (Dq.dp k.fr (nd_sh hf.1) (.inl h1)), h2.dp k.fr (nd_sh hf.2), hf.1, hf.2, rfl⟩)
    · cases h
  · split at h
    · rename_i hf
      cases h
      rw [Bool.and_eq_true] at hf
      obtain ⟨p, vs, rfl, h3, _, h4⟩ := h2.tup k.fr
      obtain ⟨q1, q2⟩ := any_flat h1 hf.1 h4 hf.2
      exact .inr (.inr ⟨p, vs, rfl, .inr (SqT.of h3), flat_v h1 hf.1, q1, q2.symm⟩)
    · cases h
  · cases h
theorem re_in {ta tb : TE} (h1 : RE K ta fa) (h2 : RO K tb fb) : RE K (tOp (rInA K) ta tb) (eBin gIs fa fb) := fun G F env s H d env' k e Q q => by
  obtain ⟨d1, e1, d2, h3, h4, h5⟩ := bin_some e
  unfold gIs at h5
  obtain ⟨b, h6, h7⟩ := Option.map_eq_some_iff.mp h5
  cases h7
  refine h1 G F env s H d1 e1 k h3 _ fun F1 H1 v1 k1 s1 p1 => ?_
  refine h2 G F1 e1 s H1 d2 env' k1 h4 _ fun F2 H2 v2 k2 s2 p2 => ?_
  have fin := q F2 H2 (.bl b) k2 (s1.trans s2) (.bl b)
  rcases in_cases k2 (Dt.mono s2 _ _ p1) p2 h6 with ⟨i, j, rfl, rfl, rfl⟩ | ⟨ds, g1, g2, g3, g4, rfl⟩ | ⟨p, xs, rfl, g1, g2, g3, rfl⟩
  · exact .inl ⟨_, _, rfl, rfl, fin⟩
  · exact .inr (.inl ⟨_, _, g1, g2, g3, g4, fin⟩)
  · exact .inr (.inr ⟨_, _, rfl, g1, g2, g3, fin⟩)
theorem re_ni {ta tb : TE} (h1 : RE K ta fa) (h2 : RO K tb fb) : RE K (tOp (rNiA K) ta tb) (eBin gNi fa fb) := fun G F env s H d env' k e Q q => by
  obtain ⟨d1, e1, d2, h3, h4, h5⟩ := bin_some e
  unfold gNi at h5
  obtain ⟨b, h6, h7⟩ := Option.map_eq_some_iff.mp h5
  cases h7
  refine h1 G F env s H d1 e1 k h3 _ fun F1 H1 v1 k1 s1 p1 => ?_
  refine h2 G F1 e1 s H1 d2 env' k1 h4 _ fun F2 H2 v2 k2 s2 p2 => ?_
  have fin := q F2 H2 (.bl !b) k2 (s1.trans s2) (.bl !b)
  rcases in_cases k2 (Dt.mono s2 _ _ p1) p2 h6 with ⟨i, j, rfl, rfl, rfl⟩ | ⟨ds, g1, g2, g3, g4, rfl⟩ | ⟨p, xs, rfl, g1, g2, g3, rfl⟩
  · exact .inl ⟨_, _, rfl, rfl, fin⟩
  · exact .inr (.inl ⟨_, _, g1, g2, g3, g4, fin⟩)
  · exact .inr (.inr ⟨_, _, rfl, g1, g2, g3, fin⟩)
theorem xb_in (hu : X.A.units + 65 < cLine) (ha : XE X a fa) (hb : XO X b fb) (hm : behindInMarks .In b = false := by rfl) : XB X (.Compare a [.In] [b] pos) (bV (eBin gIs fa fb)) :=
  let ⟨_, h1, h2⟩ := ha.ex; let ⟨_, h3, h4⟩ := hb.ex; ⟨_, pt_cmpR (op_inA hu) h1 h3 hm, rb_test (re_in h2 h4)⟩
theorem xb_ni (hu : X.A.units + 65 < cLine) (ha : XE X a fa) (hb : XO X b fb) (hm : behindInMarks .NotIn b = false := by rfl) : XB X (.Compare a [.NotIn] [b] pos) (bV (eBin gNi fa fb)) :=
  let ⟨_, h1, h2⟩ := ha.ex; let ⟨_, h3, h4⟩ := hb.ex; ⟨_, pt_cmpR (op_niA hu) h1 h3 hm, rb_test (re_ni h2 h4)⟩
end
/-! ### is None -/
def isNone : D → Bool
  | .none => true
  | _ => false
def gIsN : D → D → Option D
  | d, .none => some (.bool (isNone d))
  | _, _ => none
def gNtN : D → D → Option D
  | d, .none => some (.bool (!isNone d))
  | _, _ => none
theorem none_dq {K : Frg} {F H : Hp} {x : V} {d : D} (h : Dq K F H x d) : decide (x = .non) = isNone d := by
  rcases h with h | ⟨a, vs, ds, rfl, rfl, _⟩
  · cases h <;> rfl
  · rfl
def qNotN : R2 := fun x y H Q => y = .non ∧ Q (.bl (!decide (x = .non))) H
theorem op_notNo {X : Cx} : OpR X (compareOp .IsNot) qNotN := op_notN
theorem gq_ntN {K : Frg} : GQ K qNotN gNtN := by
  intro G F env s H x y d e z k h1 h2 h3 Q q
  unfold gNtN at h3
  split at h3
  · cases h3
    rcases h2 with h2 | ⟨a, vs, ds, _, h, _⟩
    · cases h2
      have q' := q F H (.bl (!isNone d)) k (Same.refl F) (.bl _)
      rw [← none_dq h1] at q'
      unfold qNotN
      exact And.intro rfl q'
    · cases h
  · cases h3
end M

namespace M
open PySem PySem.Spec PyProof.Rows L2
def FU : Nat := 10 ^ 300
theorem hu65 {k : Nat} {A : Around} (hr : Room k A) : A.units + 65 < cLine := by have := hr.un; omega
theorem da_irs {F : Hp} : ∀ ns : List Int, Da F (ns.map V.int) (ns.map .int)
  | [] => .nil
  | n :: ns => .cons (.int n) (da_irs ns)
theorem law_sp {K : Frg} {H : Hp} {a : Addr} {ns : List Int} {g : Gf} (hS : SqL K H a (ns.map V.int)) (h : ∃ args', g [.ro (ns.map .int)] = some (.bool true, args')) :
    spF K g [.ref a] H (fun v _ => v = .bl true) fun _ _ _ => False := by
  obtain ⟨args', h⟩ := h
  have hm : minus H [.ro (ns.map .int)] [.ref a] = H := by
    funext b
    unfold minus
    rw [if_neg]
    rintro ⟨j, l, es, h1, _⟩
    cases j with
    | zero => cases h1
    | succ j => simp at h1
  refine ⟨fun _ => none, _, _, args', h, fun b o e => (by cases e), ⟨rfl, fun i d e => ?_, fun i l ds e => ?_, fun i ds e => ?_, fun i j l ds m es e1 e2 e3 => ?_, fun i w kvs e => ?_⟩, fun F' H' v po => ?_⟩
  · cases i with
    | zero => cases e
    | succ j => simp at e
  · cases i with
    | zero => cases e
    | succ j => simp at e
  · cases i with
    | zero =>
      cases e
      exact ⟨a, _, rfl, by rw [hm]; exact hS, da_irs ns⟩
    | succ j => simp at e
  · cases i with
    | zero => cases e1
    | succ j => simp at e1
  · cases i with
    | zero => cases e
    | succ j => simp at e
  · have := po.res
    cases this
    rfl
theorem fn_okE {P : Program} {w : World} {K : Frg} {mg : Str → Option Value} {base : Heap} {x qual : Str} {st : Stmt} {f : Addr} {fd : FuncData} {N ps : List Str} {k : Nat} {g : Gf} (fb : Sf) (n np : Nat) (F : Fun K x qual st f fd) (S : FnScope N ps (defScope st))
    (hn : N.length = n) (hp : ps.length = np) (hg : g = fnRun n np fb)
    (hbody : ∀ (cdv : Value) (A : Around) (outer : List Env) (s : Shared) (H : Hp) (E : XK), Room k (A.deeper (envOfC qual (defScope st) s.heap.objs.size f cdv)) →
      XSs (cxOf CX0 P w K mg base N qual (defScope st) f cdv A outer s H E).nox (defBody st) fb) : FnOk P w K mg base CX0 (k + 1) f fd ps (spF K g) := by
  subst hn hp hg
  exact fn_ok F S hbody
theorem fn_newE {P : Program} {w : World} {K : Frg} {mg : Str → Option Value} {base : Heap} {x qual : Str} {st : Stmt} {f : Addr} {fd : FuncData} {N ps : List Str} {k : Nat} {g : Hf} (fb : Sf) (n np : Nat) (F : Fun K x qual st f fd) (S : FnScope N ps (defScope st))
    (hn : N.length = n) (hp : ps.length = np) (hg : g = fnNew n np fb)
    (hbody : ∀ (cdv : Value) (A : Around) (outer : List Env) (s : Shared) (H : Hp) (E : XK), Room k (A.deeper (envOfC qual (defScope st) s.heap.objs.size f cdv)) →
      XSs (cxOf CX0 P w K mg base N qual (defScope st) f cdv A outer s H E).nox (defBody st) fb) : FnOk P w K mg base CX0 (k + 1) f fd ps (spN K g) := by
  subst hn hp hg
  exact fn_new F S hbody
end M

/-! the least that must hold ahead: rules to reason about the mirrors, no program in sight -/
namespace M
open PySem PySem.Spec PyProof.Rows L2
def WO {α : Type} (o : Option α) (Q : α → Prop) : Prop := ∃ x, o = some x ∧ Q x
def WE (f : Ef) (env : En) (Q : D → En → Prop) : Prop := ∃ d e, f env = some (d, e) ∧ Q d e
def WL (f : Lf) (env : En) (Q : List D → En → Prop) : Prop := ∃ d e, f env = some (d, e) ∧ Q d e
def WB (f : Bf) (env : En) (Q : Bool → En → Prop) : Prop := ∃ d e, f env = some (d, e) ∧ Q d e
def WA (f : Af) (env : En) (Q : List Ar → En → Prop) : Prop := ∃ d e, f env = some (d, e) ∧ Q d e
def WP (f : Pf) (env : En) (Q : Option Int → En → Prop) : Prop := ∃ d e, f env = some (d, e) ∧ Q d e
def WT (g : Tf) (d : D) (env : En) (Q : En → Prop) : Prop := ∃ e, g d env = some e ∧ Q e
def WTs (g : List D → En → Option En) (d : List D) (env : En) (Q : En → Prop) : Prop := ∃ e, g d env = some e ∧ Q e
def WG (g : Gf) (args : List Sl) (Q : D → List Sl → Prop) : Prop := ∃ d e, g args = some (d, e) ∧ Q d e
def WH (g : Hf) (args : List Sl) (Q : List D → List Sl → Prop) : Prop := ∃ d e, g args = some (d, e) ∧ Q d e
/-- what a statement leaves -/
structure Po where
  n : En → Prop
  r : D → En → Prop
  l : List D → En → Prop
def Po.at (Q : Po) : Out → Prop
  | .nx e => Q.n e
  | .rt d e => Q.r d e
  | .rn ds e => Q.l ds e
  | .rp as ds e => Q.r (.tuple (as ++ [.list ds])) e
def WS (f : Sf) (env : En) (Q : Po) : Prop := ∃ o, f env = some o ∧ Q.at o
/-- slots to be worked out first -/
def Nrm (e : En) (Q : En → Prop) : Prop := Q e
def IfB (b : Bool) (A B : Prop) : Prop := if b then A else B
def IsB (d : D) (Q : Bool → Prop) : Prop := match d with
  | .bool b => Q b
  | _ => False
def IsL (d : D) (Q : List D → Prop) : Prop := match d with
  | .list b => Q b
  | _ => False
def IsS (d : D) (Q : List D → Prop) : Prop := match d with
  | .list b => Q b
  | .tuple b => Q b
  | _ => False
def Fit (n : Nat) (Q : Prop) : Prop := fits n = true ∧ Q
def Sml (n : Int) (Q : Prop) : Prop := smallI n = true ∧ Q
def Own (s : Option Sl) (Q : Bool → List D → Prop) : Prop := ∃ b ds, s = some (.own b ds) ∧ Q b ds
def Any (s : Option Sl) (Q : List D → Prop) : Prop := ∃ b ds, (s = some (.own b ds) ∨ s = some (.ro ds)) ∧ Q ds
def CallG (g : Gf) (as : List Ar) (e : En) (Q : D → En → Prop) : Prop :=
  (rSlots as = [] ∧ WO (resArs e as) fun args => WG g args fun d _ => Q d e) ∨ (∃ i, rSlots as = [i] ∧ (oSlots as).contains i = false ∧ WO (resArs e as) fun args => WG g args fun d a' => WO (backAr e as a') fun e' => Q d e')
def CallH (g : Hf) (as : List Ar) (e : En) (Q : List D → En → Prop) : Prop :=
  (rSlots as = [] ∧ WO (resArs e as) fun args => WH g args fun d _ => Q d e) ∨ (∃ i, rSlots as = [i] ∧ (oSlots as).contains i = false ∧ WO (resArs e as) fun args => WH g args fun d a' => WO (backAr e as a') fun e' => Q d e')
def Two (ds : List D) (Q : D → D → Prop) : Prop := match ds with
  | [x, y] => Q x y
  | _ => False
def WC (vs : List Nat) (g : Tf) (c : Bf) (f : Ef) (ds : List D) (env : En) (Q : List D → En → Prop) : Prop := ∃ xs e, lcGo vs g c f ds env = some (xs, e) ∧ Q xs e
def IsI (d : D) (Q : Int → Prop) : Prop := match d with
  | .int b => Q b
  | _ => False
section
variable {env : En} {d e : D} {f fa fb fc : Ef} {p q c : Bf} {l : Lf} {i j : Nat} {g : D → D → Option D}
theorem ifb_dec {P : Prop} [Decidable P] {A B : Prop} (h1 : P → A) (h2 : ¬ P → B) : IfB (decide P) A B := by
  unfold IfB
  by_cases h : P
  · simp [h, h1 h]
  · simp [h, h2 h]
theorem ifb_decT {P : Prop} [Decidable P] {A B : Prop} (h : P) (a : A) : IfB (decide P) A B := ifb_dec (fun _ => a) fun n => absurd h n
theorem ifb_decF {P : Prop} [Decidable P] {A B : Prop} (h : ¬ P) (b : B) : IfB (decide P) A B := ifb_dec (fun p => absurd p h) fun _ => b
theorem ifb_not {b : Bool} {A B : Prop} (h : IfB b B A) : IfB (!b) A B := by cases b <;> exact h
theorem ifb_t {A B : Prop} (h : A) : IfB true A B := h
theorem ifb_f {A B : Prop} (h : B) : IfB false A B := h
theorem ifb_eT {b : Bool} {A B : Prop} (h : b = true) (a : A) : IfB b A B := by subst h; exact a
theorem ifb_eF {b : Bool} {A B : Prop} (h : b = false) (a : B) : IfB b A B := by subst h; exact a
theorem ifb_any {b : Bool} {A B : Prop} (h1 : b = true → A) (h2 : b = false → B) : IfB b A B := by cases b; exact h2 rfl; exact h1 rfl
theorem isb {b : Bool} {Q : Bool → Prop} (h : Q b) : IsB (.bool b) Q := h
theorem isi_ {b : Int} {Q : Int → Prop} (h : Q b) : IsI (.int b) Q := h

theorem isl {b : List D} {Q : List D → Prop} (h : Q b) : IsL (.list b) Q := h
theorem iss_l {b : List D} {Q : List D → Prop} (h : Q b) : IsS (.list b) Q := h
theorem iss_t {b : List D} {Q : List D → Prop} (h : Q b) : IsS (.tuple b) Q := h
theorem nrm_ {e e' : En} {Q : En → Prop} (h : e = e') (q : Q e') : Nrm e Q := by subst h; exact q
theorem two_ {x y : D} {Q : D → D → Prop} (h : Q x y) : Two [x, y] Q := h
theorem fit_ {n : Nat} {Q : Prop} (h : fits n = true) (q : Q) : Fit n Q := ⟨h, q⟩
theorem sml_ {n : Int} {Q : Prop} (h1 : -1000000000 ≤ n) (h2 : n ≤ 1000000000) (q : Q) : Sml n Q := ⟨by unfold smallI; rw [decide_eq_true h1, decide_eq_true h2]; rfl, q⟩
theorem own_ {s : Option Sl} {b : Bool} {ds : List D} {Q : Bool → List D → Prop} (h : s = some (.own b ds)) (q : Q b ds) : Own s Q := ⟨b, ds, h, q⟩
theorem any_o {s : Option Sl} {b : Bool} {ds : List D} {Q : List D → Prop} (h : s = some (.own b ds)) (q : Q ds) : Any s Q := ⟨b, ds, .inl h, q⟩
theorem any_r {s : Option Sl} {ds : List D} {Q : List D → Prop} (h : s = some (.ro ds)) (q : Q ds) : Any s Q := ⟨true, ds, .inr h, q⟩
theorem WO.mono {α : Type} {o : Option α} {Q Q' : α → Prop} (h : WO o Q) (m : ∀ x, Q x → Q' x) : WO o Q' := let ⟨x, e, q⟩ := h; ⟨x, e, m x q⟩
theorem WE.mono {Q Q' : D → En → Prop} (h : WE f env Q) (m : ∀ x e, Q x e → Q' x e) : WE f env Q' := let ⟨x, y, e, q⟩ := h; ⟨x, y, e, m x y q⟩
theorem WB.mono {Q Q' : Bool → En → Prop} (h : WB p env Q) (m : ∀ x e, Q x e → Q' x e) : WB p env Q' := let ⟨x, y, e, q⟩ := h; ⟨x, y, e, m x y q⟩
theorem WL.mono {Q Q' : List D → En → Prop} (h : WL l env Q) (m : ∀ x e, Q x e → Q' x e) : WL l env Q' := let ⟨x, y, e, q⟩ := h; ⟨x, y, e, m x y q⟩
theorem WG.mono {g : Gf} {as : List Sl} {Q Q' : D → List Sl → Prop} (h : WG g as Q) (m : ∀ x e, Q x e → Q' x e) : WG g as Q' := let ⟨x, y, e, q⟩ := h; ⟨x, y, e, m x y q⟩
theorem WH.mono {g : Hf} {as : List Sl} {Q Q' : List D → List Sl → Prop} (h : WH g as Q) (m : ∀ x e, Q x e → Q' x e) : WH g as Q' := let ⟨x, y, e, q⟩ := h; ⟨x, y, e, m x y q⟩
theorem WS.mono {f : Sf} {Q Q' : Po} (h : WS f env Q) (m1 : ∀ e, Q.n e → Q'.n e) (m2 : ∀ d e, Q.r d e → Q'.r d e) (m3 : ∀ d e, Q.l d e → Q'.l d e) : WS f env Q' := by
  obtain ⟨o, e, q⟩ := h
  refine ⟨o, e, ?_⟩
  cases o with
  | nx e => exact m1 _ q
  | rt d e => exact m2 _ _ q
  | rn d e => exact m3 _ _ q
  | rp as ds e => exact m2 _ _ q
/-! expressions -/
theorem we_v {Q : D → En → Prop} (h : env[i]? = some (.val d)) (q : Q d env) : WE (eV i) env Q := ⟨d, env, by unfold eV; rw [h], q⟩
theorem we_oV {Q : D → En → Prop} (h : env[i]? = some (.val d)) (q : Q d env) : WE (eO i) env Q := ⟨d, env, by unfold eO; rw [h], q⟩
theorem we_oW {Q : D → En → Prop} {b : Bool} {ds : List D} (h : env[i]? = some (.own b ds)) (q : Q (.list ds) env) : WE (eO i) env Q := ⟨_, env, by unfold eO; rw [h], q⟩
theorem we_oR {Q : D → En → Prop} {ds : List D} (h : env[i]? = some (.ro ds)) (q : Q (.list ds) env) : WE (eO i) env Q := ⟨_, env, by unfold eO; rw [h], q⟩
theorem we_c {Q : D → En → Prop} (q : Q d env) : WE (eC d) env Q := ⟨_, _, rfl, q⟩
theorem we_un {g : D → Option D} {Q : D → En → Prop} (h : WE fa env fun x e => WO (g x) fun z => Q z e) : WE (eUn g fa) env Q := by
  obtain ⟨x, e, h1, z, h2, q⟩ := h
  exact ⟨z, e, by unfold eUn; rw [h1]; simp [h2], q⟩
theorem we_bin {Q : D → En → Prop} (h : WE fa env fun x e => WE fb e fun y e' => WO (g x y) fun z => Q z e') : WE (eBin g fa fb) env Q := by
  obtain ⟨x, e, h1, y, e', h2, z, h3, q⟩ := h
  exact ⟨z, e', by unfold eBin; simp [h1, h2, h3], q⟩
theorem we_bV {Q : D → En → Prop} {ds : List D} {b : Bool} (h0 : env[i]? = some (.own b ds)) (h : WE fb env fun y e' => WE (eO i) e' fun x _ => WO (g x y) fun z => Q z e') : WE (eBinV g i fb) env Q := by
  obtain ⟨y, e', h2, x, e2, h1, z, h3, q⟩ := h
  exact ⟨z, e', by unfold eBinV; rw [show eO i env = _ from by unfold eO; rw [h0]]; simp only [Option.bind_some, h2, h1, h3, Option.map_some], q⟩
theorem we_bVr {Q : D → En → Prop} {ds : List D} (h0 : env[i]? = some (.ro ds)) (h : WE fb env fun y e' => WE (eO i) e' fun x _ => WO (g x y) fun z => Q z e') : WE (eBinV g i fb) env Q := by
  obtain ⟨y, e', h2, x, e2, h1, z, h3, q⟩ := h
  exact ⟨z, e', by unfold eBinV; rw [show eO i env = _ from by unfold eO; rw [h0]]; simp only [Option.bind_some, h2, h1, h3, Option.map_some], q⟩
theorem we_bVv {Q : D → En → Prop} (h0 : env[i]? = some (.val d)) (h : WE fb env fun y e' => WE (eO i) e' fun x _ => WO (g x y) fun z => Q z e') : WE (eBinV g i fb) env Q := by
  obtain ⟨y, e', h2, x, e2, h1, z, h3, q⟩ := h
  exact ⟨z, e', by unfold eBinV; rw [show eO i env = _ from by unfold eO; rw [h0]]; simp only [Option.bind_some, h2, h1, h3, Option.map_some], q⟩
theorem we_chain {g g' : D → D → Option D} {Q : D → En → Prop} (h : WE fa env fun x e => WE fb e fun y e' => WO (g x y) fun z => IsB z fun b => IfB b (WE fc e' fun w e2 => WO (g' y w) fun z => Q z e2) (Q (.bool false) e')) : WE (eChain g g' fa fb fc) env Q := by
  obtain ⟨x, e, h1, y, e', h2, z, h3, h⟩ := h
  cases z with
  | bool b =>
    cases b with
    | true =>
      obtain ⟨w, e2, h4, z, h5, q⟩ : WE fc e' fun w e2 => WO (g' y w) fun z => Q z e2 := h
      exact ⟨z, e2, by unfold eChain; simp [h1, h2, h3, h4, h5], q⟩
    | false => exact ⟨_, e', by unfold eChain; simp [h1, h2, h3]; (try rfl), h⟩
  | _ => cases h
theorem we_and {Q : D → En → Prop} (h : WE fa env fun x e => IsB x fun b => IfB b (WE fb e Q) (Q (.bool false) e)) : WE (eAnd fa fb) env Q := by
  obtain ⟨x, e, h1, h⟩ := h
  cases x with
  | bool b =>
    cases b with
    | true =>
      obtain ⟨w, e2, h4, q⟩ : WE fb e Q := h
      exact ⟨w, e2, by unfold eAnd; simp [h1, h4], q⟩
    | false => exact ⟨_, e, by unfold eAnd; simp [h1]; (try rfl), h⟩
  | _ => cases h
theorem we_or {Q : D → En → Prop} (h : WE fa env fun x e => IsB x fun b => IfB b (Q (.bool true) e) (WE fb e Q)) : WE (eOr fa fb) env Q := by
  obtain ⟨x, e, h1, h⟩ := h
  cases x with
  | bool b =>
    cases b with
    | false =>
      obtain ⟨w, e2, h4, q⟩ : WE fb e Q := h
      exact ⟨w, e2, by unfold eOr; simp [h1, h4], q⟩
    | true => exact ⟨_, e, by unfold eOr; simp [h1]; (try rfl), h⟩
  | _ => cases h
theorem we_not {Q : D → En → Prop} (h : WE fa env fun x e => IsB x fun b => Q (.bool !b) e) : WE (eNot fa) env Q := by
  obtain ⟨x, e, h1, h⟩ := h
  cases x with
  | bool b => exact ⟨_, e, by unfold eNot; simp [h1]; (try rfl), h⟩
  | _ => cases h
theorem we_if {Q : D → En → Prop} (h : WB p env fun b e => IfB b (WE fa e Q) (WE fb e Q)) : WE (eIf p fa fb) env Q := by
  obtain ⟨b, e, h1, h⟩ := h
  cases b with
  | true => obtain ⟨w, e2, h2, q⟩ : WE fa e Q := h; exact ⟨w, e2, by unfold eIf; simp [h1, h2], q⟩
  | false => obtain ⟨w, e2, h2, q⟩ : WE fb e Q := h; exact ⟨w, e2, by unfold eIf; simp [h1, h2], q⟩
theorem we_fz {Q : D → En → Prop} (h : WL l env fun ds e => Q (.list ds) e) : WE (eFz l) env Q := by
  obtain ⟨x, e, h1, h⟩ := h
  exact ⟨_, e, by unfold eFz; rw [h1]; (try rfl), h⟩
theorem we_tup {Q : D → En → Prop} (h : WL l env fun ds e => Fit ds.length (Q (.tuple ds) e)) : WE (eTup l) env Q := by
  obtain ⟨x, e, h1, h2, h⟩ := h
  exact ⟨_, e, by unfold eTup; simp [h1, h2]; (try rfl), h⟩
def cutOf (x : D) (a b : Option Int) : Option D := match x with
  | .list ds => some (.list (cutD ds a b))
  | .tuple ds => some (.tuple (cutD ds a b))
  | _ => none
theorem wo_cutL {ds : List D} {a b : Option Int} {Q : D → Prop} (q : Q (.list (cutD ds a b))) : WO (cutOf (.list ds) a b) Q := ⟨_, rfl, q⟩
theorem wo_cutT {ds : List D} {a b : Option Int} {Q : D → Prop} (q : Q (.tuple (cutD ds a b))) : WO (cutOf (.tuple ds) a b) Q := ⟨_, rfl, q⟩
theorem we_sl {lo hi : Pf} {Q : D → En → Prop} (h : WE fa env fun x e => WP lo e fun a e1 => WP hi e1 fun b e2 => WO (cutOf x a b) fun z => Q z e2) : WE (eSl fa lo hi) env Q := by
  obtain ⟨x, e, h1, a, e1, h2, b, e2, h3, z, h4, h⟩ := h
  unfold cutOf at h4
  split at h4 <;> cases h4
  · exact ⟨_, e2, by unfold eSl; simp [h1, h2, h3]; (try rfl), h⟩
  · exact ⟨_, e2, by unfold eSl; simp [h1, h2, h3]; (try rfl), h⟩
theorem wp_no {Q : Option Int → En → Prop} (q : Q none env) : WP pNo env Q := ⟨_, _, rfl, q⟩
theorem wp_e {Q : Option Int → En → Prop} (h : WE f env fun x e => IsI x fun n => Q (some n) e) : WP (pE f) env Q := by
  obtain ⟨x, e, h1, h⟩ := h
  cases x with
  | int n => exact ⟨_, e, by unfold pE; rw [h1]; (try rfl), h⟩
  | _ => cases h

/-! lists -/
theorem wl_nil {Q : List D → En → Prop} (q : Q [] env) : WL lNil env Q := ⟨_, _, rfl, q⟩
theorem wl_cons {Q : List D → En → Prop} (h : WE f env fun x e => WL l e fun xs e' => Q (x :: xs) e') : WL (lCons f l) env Q := by
  obtain ⟨x, e, h1, xs, e', h2, q⟩ := h
  exact ⟨_, e', by unfold lCons; simp [h1, h2]; (try rfl), q⟩
theorem wl_lst {Q : List D → En → Prop} (h : WL l env fun ds e => Fit ds.length (Q ds e)) : WL (lLst l) env Q := by
  obtain ⟨x, e, h1, h2, q⟩ := h
  exact ⟨_, e, by unfold lLst; simp [h1, h2]; (try rfl), q⟩
theorem wl_un {g : D → Option (List D)} {Q : List D → En → Prop} (h : WE fa env fun x e => WO (g x) fun z => Q z e) : WL (lUn g fa) env Q := by
  obtain ⟨x, e, h1, z, h2, q⟩ := h
  exact ⟨z, e, by unfold lUn; rw [h1]; simp [h2], q⟩
theorem wl_slV {lo hi : Pf} {Q : List D → En → Prop} {b : Bool} {ds0 : List D} (h0 : env[i]? = some (.own b ds0) ∨ env[i]? = some (.ro ds0)) (h : WP lo env fun a e1 => WP hi e1 fun b e2 => Any e2[i]? fun ds => Q (cutD ds a b) e2) : WL (lSlV i lo hi) env Q := by
  obtain ⟨a, e1, h2, b, e2, h3, c, ds, h4, q⟩ := h
  refine ⟨_, e2, ?_, q⟩
  unfold lSlV
  rcases h0 with h0 | h0 <;> rcases h4 with h4 | h4 <;> · simp [eO, h0, h2, h3]; simp [h4]
theorem wl_slO {lo hi : Pf} {Q : List D → En → Prop} {b : Bool} {ds0 : List D} (h0 : env[i]? = some (.own b ds0)) (h : WP lo env fun a e1 => WP hi e1 fun b e2 => Any e2[i]? fun ds => Q (cutD ds a b) e2) : WL (lSlV i lo hi) env Q := wl_slV (.inl h0) h
theorem wl_slR {lo hi : Pf} {Q : List D → En → Prop} {ds0 : List D} (h0 : env[i]? = some (.ro ds0)) (h : WP lo env fun a e1 => WP hi e1 fun b e2 => Any e2[i]? fun ds => Q (cutD ds a b) e2) : WL (lSlV i lo hi) env Q := wl_slV (b := true) (.inr h0) h
theorem wl_it {Q : List D → En → Prop} (h : WE f env fun x e => IsS x fun ds => Q ds e) : WL (lIt f) env Q := by
  obtain ⟨x, e, h1, h⟩ := h
  cases x with
  | list ds => exact ⟨_, e, by unfold lIt; rw [h1]; rfl, h⟩
  | tuple ds => exact ⟨_, e, by unfold lIt; rw [h1]; rfl, h⟩
  | _ => cases h
theorem wl_rng1 {Q : List D → En → Prop} (h : WE f env fun x e => IsI x fun n => Sml n (Q (irange 0 n.toNat) e)) : WL (lRng1 f) env Q := by
  obtain ⟨x, e, h1, h⟩ := h
  cases x with
  | int n => exact ⟨_, e, by unfold lRng1; rw [h1]; show (if _ then _ else _) = _; rw [if_pos h.1], h.2⟩
  | _ => cases h
theorem wl_rng2 {f' : Ef} {Q : List D → En → Prop} (h : WE f env fun x e => WE f' e fun y e' => IsI x fun m => IsI y fun n => Sml m (Sml n (Q (irange m (n - m).toNat) e'))) : WL (lRng2 f f') env Q := by
  obtain ⟨x, e, h1, y, e', h2, h⟩ := h
  cases x with
  | int m => cases y with
    | int n => exact ⟨_, e', by unfold lRng2; simp [h1, h2, h.1, h.2.1]; (try rfl), h.2.2⟩
    | _ => cases h
  | _ => cases h
theorem wl_enum {Q : List D → En → Prop} (h : WE f env fun x e => IsL x fun ds => Q (pairs (irange 0 ds.length) ds) e) : WL (lEnum f) env Q := by
  obtain ⟨x, e, h1, h⟩ := h
  cases x with
  | list ds => exact ⟨_, e, by unfold lEnum; rw [h1]; rfl, h⟩
  | _ => cases h
theorem wl_zip {f' : Ef} {Q : List D → En → Prop} (h : WE f env fun x e => WE f' e fun y e' => ∃ ds es, ((x = .list ds ∧ y = .list es) ∨ (x = .tuple ds ∧ y = .tuple es)) ∧ Q (pairs ds es) e') : WL (lZip f f') env Q := by
  obtain ⟨x, e, h1, y, e', h2, ds, es, h3, q⟩ := h
  exact ⟨_, e', by unfold lZip; rcases h3 with ⟨rfl, rfl⟩ | ⟨rfl, rfl⟩ <;> simp [h1, h2], q⟩
/-- a comprehension, by what has been gathered -/
theorem lc_inv {vs : List Nat} {g : Tf} {c : Bf} {f : Ef} (I : List D → List D → En → Prop) : ∀ (ds acc : List D) (env : En), I ds acc env →
    (∀ d ds acc env, I (d :: ds) acc env → WT g d env fun e1 => WB c e1 fun b e2 => IfB b (WE f e2 fun x e3 => I ds (acc ++ [x]) (wipeE e3 vs)) (I ds acc (wipeE e2 vs))) →
    ∃ xs e, lcGo vs g c f ds env = some (xs, e) ∧ I [] (acc ++ xs) e
  | [], acc, env, h, _ => ⟨[], env, rfl, by rw [List.append_nil]; exact h⟩
  | d :: ds, acc, env, h, s => by
    obtain ⟨e1, h1, b, e2, h2, h3⟩ := s d ds acc env h
    cases b with
    | true =>
      obtain ⟨x, e3, h4, h5⟩ : WE f e2 fun x e3 => I ds (acc ++ [x]) (wipeE e3 vs) := h3
      obtain ⟨xs, e4, h6, h7⟩ := lc_inv I ds (acc ++ [x]) _ h5 s
      exact ⟨x :: xs, e4, by unfold lcGo; simp [h1, h2, h4, h6], by rw [List.append_assoc] at h7; exact h7⟩
    | false =>
      obtain ⟨xs, e4, h6, h7⟩ := lc_inv I ds acc _ (show I ds acc (wipeE e2 vs) from h3) s
      exact ⟨xs, e4, by unfold lcGo; simp [h1, h2, h6], h7⟩
theorem wl_comp {vs : List Nat} {g : Tf} {c : Bf} {f : Ef} {Q : List D → En → Prop} (I : List D → List D → List D → En → En → Prop)
    (h : WL l env fun ds e => noOwn e vs = true ∧ fits ds.length = true ∧ I ds ds [] (wipeE e vs) e ∧
      (∀ d rs acc e', I ds (d :: rs) acc e' e → WT g d e' fun e1 => WB c e1 fun b e2 => IfB b (WE f e2 fun x e3 => I ds rs (acc ++ [x]) (wipeE e3 vs) e) (I ds rs acc (wipeE e2 vs) e)) ∧
      ∀ xs e', I ds [] xs e' e → Q xs (backE e e' vs)) : WL (lComp l vs g c f) env Q := by
  obtain ⟨ds, e, h1, h2, h3, h4, h5, h6⟩ := h
  obtain ⟨xs, e', h7, h8⟩ := lc_inv (fun rs acc e' => I ds rs acc e' e) ds [] (wipeE e vs) h4 h5
  exact ⟨xs, backE e e' vs, by unfold lComp; simp [h1, h2, h3, h7], h6 xs e' h8⟩
theorem lc_pure {vs : List Nat} {g : Tf} {c : Bf} {f : Ef} {P : D → Bool} {F : D → D} {env : En} : ∀ (ds : List D),
    (∀ d ∈ ds, WT g d env fun e1 => WB c e1 fun b e2 => b = P d ∧ IfB b (WE f e2 fun x e3 => x = F d ∧ wipeE e3 vs = env) (wipeE e2 vs = env)) →
    lcGo vs g c f ds env = some ((ds.filter P).map F, env)
  | [], _ => rfl
  | d :: ds, s => by
    have ih := lc_pure (vs := vs) (g := g) (c := c) (f := f) (P := P) (F := F) (env := env) ds fun d hd => s d (List.mem_cons_of_mem _ hd)
    obtain ⟨e1, h1, b, e2, h2, h3, h4⟩ := s d List.mem_cons_self
    cases b with
    | true =>
      obtain ⟨x, e3, h4, h5, h6⟩ : WE f e2 fun x e3 => x = F d ∧ wipeE e3 vs = env := h4
      unfold lcGo; simp [h1, h2, h4, h5, h6, ih, ← h3]
    | false =>
      have h6 : wipeE e2 vs = env := h4
      unfold lcGo; simp [h1, h2, h6, ih, ← h3]
/-- a comprehension that touches no slot -/
theorem wl_compP {vs : List Nat} {g : Tf} {c : Bf} {f : Ef} {Q : List D → En → Prop} (P : List D → D → Bool) (F : List D → D → D)
    (h : WL l env fun ds e => noOwn e vs = true ∧ fits ds.length = true ∧
      (∀ d ∈ ds, WT g d (wipeE e vs) fun e1 => WB c e1 fun b e2 => b = P ds d ∧ IfB b (WE f e2 fun x e3 => x = F ds d ∧ wipeE e3 vs = wipeE e vs) (wipeE e2 vs = wipeE e vs)) ∧
      Q ((ds.filter (P ds)).map (F ds)) (backE e (wipeE e vs) vs)) : WL (lComp l vs g c f) env Q := by
  obtain ⟨ds, e, h1, h2, h3, h4, q⟩ := h
  exact ⟨_, _, by unfold lComp; simp [h1, h2, h3, lc_pure ds h4], q⟩

theorem wc_nil {vs : List Nat} {g : Tf} {c : Bf} {f : Ef} {Q : List D → En → Prop} (q : Q [] env) : WC vs g c f [] env Q := ⟨[], env, rfl, q⟩
theorem wc_cons {vs : List Nat} {g : Tf} {c : Bf} {f : Ef} {ds : List D} {Q : List D → En → Prop} (h : WT g d env fun e1 => WB c e1 fun b e2 => IfB b (WE f e2 fun x e3 => Nrm (wipeE e3 vs) fun e4 => WC vs g c f ds e4 fun xs e => Q (x :: xs) e) (Nrm (wipeE e2 vs) fun e4 => WC vs g c f ds e4 Q)) : WC vs g c f (d :: ds) env Q := by
  obtain ⟨e1, h1, b, e2, h2, h3⟩ := h
  cases b with
  | true =>
    obtain ⟨x, e3, h4, xs, e, h5, q⟩ : WE f e2 fun x e3 => WC vs g c f ds (wipeE e3 vs) fun xs e => Q (x :: xs) e := h3
    exact ⟨x :: xs, e, by unfold lcGo; simp [h1, h2, h4, h5], q⟩
  | false =>
    obtain ⟨xs, e, h5, q⟩ : WC vs g c f ds (wipeE e2 vs) Q := h3
    exact ⟨xs, e, by unfold lcGo; simp [h1, h2, h5], q⟩
/-- a comprehension over a list that is known, item by item -/
theorem wl_compU {vs : List Nat} {g : Tf} {c : Bf} {f : Ef} {Q : List D → En → Prop} (ds : List D)
    (h : WL l env fun ds' e => ds' = ds ∧ noOwn e vs = true ∧ fits ds.length = true ∧ Nrm (wipeE e vs) fun e4 => WC vs g c f ds e4 fun xs e' => Nrm (backE e e' vs) (Q xs)) : WL (lComp l vs g c f) env Q := by
  obtain ⟨_, e, h1, rfl, h2, h3, xs, e', h4, q⟩ := h
  exact ⟨xs, _, by unfold lComp; simp [h1, h2, h3, h4], q⟩
/-! tests -/
theorem wb_v {Q : Bool → En → Prop} (h : WE f env fun x e => IsB x fun b => Q b e) : WB (bV f) env Q := by
  obtain ⟨x, e, h1, h⟩ := h
  cases x with
  | bool b => exact ⟨_, e, by unfold bV; rw [h1]; (try rfl), h⟩
  | _ => cases h
theorem wb_and {Q : Bool → En → Prop} (h : WB p env fun b e => IfB b (WB q e Q) (Q false e)) : WB (bAnd p q) env Q := by
  obtain ⟨b, e, h1, h⟩ := h
  cases b with
  | true => obtain ⟨b, e', h2, q⟩ : WB q e Q := h; exact ⟨b, e', by unfold bAnd; simp [h1, h2], q⟩
  | false => exact ⟨_, e, by unfold bAnd; simp [h1]; (try rfl), h⟩
theorem wb_or {Q : Bool → En → Prop} (h : WB p env fun b e => IfB b (Q true e) (WB q e Q)) : WB (bOr p q) env Q := by
  obtain ⟨b, e, h1, h⟩ := h
  cases b with
  | false => obtain ⟨b, e', h2, q⟩ : WB q e Q := h; exact ⟨b, e', by unfold bOr; simp [h1, h2], q⟩
  | true => exact ⟨_, e, by unfold bOr; simp [h1]; (try rfl), h⟩
theorem wb_not {Q : Bool → En → Prop} (h : WB p env fun b e => Q (!b) e) : WB (bNot p) env Q := by
  obtain ⟨b, e, h1, h⟩ := h
  exact ⟨_, e, by unfold bNot; rw [h1]; (try rfl), h⟩
theorem wb_yes {Q : Bool → En → Prop} (q : Q true env) : WB bYes env Q := ⟨_, _, rfl, q⟩

/-! targets -/
theorem wt_n {Q : En → Prop} (q : Nrm (env.set i (.val d)) Q) : WT (tN i) d env Q := ⟨_, rfl, q⟩
theorem wt_t {n : Nat} {r : List D → En → Option En} {ds : List D} {Q : En → Prop} (hl : ds.length = n) (h : WTs r ds env Q) : WT (tT n r) (.tuple ds) env Q := by
  obtain ⟨e, h, q⟩ := h
  exact ⟨e, by unfold tT; simp [hl, h], q⟩
theorem wts_nil {Q : En → Prop} (q : Q env) : WTs gsN [] env Q := ⟨_, rfl, q⟩
theorem wts_cons {g : Tf} {r : List D → En → Option En} {ds : List D} {Q : En → Prop} (h : WT g d env fun e => WTs r ds e Q) : WTs (gsC g r) (d :: ds) env Q := by
  obtain ⟨e, h1, e', h2, q⟩ := h
  exact ⟨e', by unfold gsC; simp [h1, h2], q⟩

/-! calls -/
theorem wa_nil {Q : List Ar → En → Prop} (q : Q [] env) : WA aNil env Q := ⟨_, _, rfl, q⟩
theorem wa_v {a : Af} {Q : List Ar → En → Prop} (h : WE f env fun x e => WA a e fun xs e' => Q (.v x :: xs) e') : WA (aV f a) env Q := by
  obtain ⟨x, e, h1, xs, e', h2, q⟩ := h
  exact ⟨_, e', by unfold aV; simp [h1, h2]; (try rfl), q⟩
theorem wa_r {a : Af} {Q : List Ar → En → Prop} {b : Bool} {ds : List D} (h0 : env[i]? = some (.own b ds)) (h : WA a env fun xs e' => Q (.r i :: xs) e') : WA (aR i a) env Q := by
  obtain ⟨xs, e', h2, q⟩ := h
  exact ⟨_, e', by unfold aR; simp [eO, h0, h2]; (try rfl), q⟩
theorem wa_o {a : Af} {Q : List Ar → En → Prop} (h0 : ∃ d, eO i env = some (d, env)) (h : WA a env fun xs e' => Q (.o i :: xs) e') : WA (aO i a) env Q := by
  obtain ⟨_, h0⟩ := h0
  obtain ⟨xs, e', h2, q⟩ := h
  exact ⟨_, e', by unfold aO; simp [h0, h2]; (try rfl), q⟩
theorem wa_oR {a : Af} {Q : List Ar → En → Prop} {ds : List D} (h0 : env[i]? = some (.ro ds)) (h : WA a env fun xs e' => Q (.o i :: xs) e') : WA (aO i a) env Q := wa_o ⟨_, by unfold eO; rw [h0]⟩ h
theorem wa_oO {a : Af} {Q : List Ar → En → Prop} {b : Bool} {ds : List D} (h0 : env[i]? = some (.own b ds)) (h : WA a env fun xs e' => Q (.o i :: xs) e') : WA (aO i a) env Q := wa_o ⟨_, by unfold eO; rw [h0]⟩ h
theorem wa_oV {a : Af} {Q : List Ar → En → Prop} (h0 : env[i]? = some (.val d)) (h : WA a env fun xs e' => Q (.o i :: xs) e') : WA (aO i a) env Q := wa_o ⟨_, by unfold eO; rw [h0]⟩ h
theorem we_call {g : Gf} {fa : Af} {Q : D → En → Prop} (h : WA fa env fun as e => CallG g as e Q) : WE (eCall g fa) env Q := by
  obtain ⟨as, e, h1, h⟩ := h
  rcases h with ⟨h3, args, h2, d, a', h4, q⟩ | ⟨i, h3, h4, args, h2, d, a', h5, e', h6, q⟩
  · exact ⟨d, e, by unfold eCall; simp [h1, h2, h3, h4], q⟩
  · exact ⟨d, e', by unfold eCall; simp only [h1, Option.bind_some, h3]; simp [show i ∉ oSlots as from fun z => by simp [z] at h4, h2, h5, h6], q⟩
theorem wl_call {g : Hf} {fa : Af} {Q : List D → En → Prop} (h : WA fa env fun as e => CallH g as e Q) : WL (lCall g fa) env Q := by
  obtain ⟨as, e, h1, h⟩ := h
  rcases h with ⟨h3, args, h2, d, a', h4, q⟩ | ⟨i, h3, h4, args, h2, d, a', h5, e', h6, q⟩
  · exact ⟨d, e, by unfold lCall; simp [h1, h2, h3, h4], q⟩
  · exact ⟨d, e', by unfold lCall; simp only [h1, Option.bind_some, h3]; simp [show i ∉ oSlots as from fun z => by simp [z] at h4, h2, h5, h6], q⟩
theorem cg0 {g : Gf} {as : List Ar} {Q : D → En → Prop} (h : rSlots as = []) (q : WO (resArs env as) fun args => WG g args fun d _ => Q d env) : CallG g as env Q := .inl ⟨h, q⟩
theorem cg1 {g : Gf} {as : List Ar} {Q : D → En → Prop} (h : rSlots as = [i]) (h2 : (oSlots as).contains i = false) (q : WO (resArs env as) fun args => WG g args fun d a' => WO (backAr env as a') fun e' => Q d e') : CallG g as env Q := .inr ⟨i, h, h2, q⟩
theorem ch0 {g : Hf} {as : List Ar} {Q : List D → En → Prop} (h : rSlots as = []) (q : WO (resArs env as) fun args => WH g args fun d _ => Q d env) : CallH g as env Q := .inl ⟨h, q⟩
theorem ch1 {g : Hf} {as : List Ar} {Q : List D → En → Prop} (h : rSlots as = [i]) (h2 : (oSlots as).contains i = false) (q : WO (resArs env as) fun args => WH g args fun d a' => WO (backAr env as a') fun e' => Q d e') : CallH g as env Q := .inr ⟨i, h, h2, q⟩
theorem res_nil {Q : List Sl → Prop} (q : Q []) : WO (resArs env []) Q := ⟨_, rfl, q⟩
theorem res_cons {a : Ar} {as : List Ar} {x : Sl} {Q : List Sl → Prop} (h : resAr env a = some x) (q : WO (resArs env as) fun xs => Q (x :: xs)) : WO (resArs env (a :: as)) Q := by
  obtain ⟨xs, h2, q⟩ := q
  exact ⟨_, by unfold resArs; simp [h, h2], q⟩
theorem res_v {as : List Ar} {Q : List Sl → Prop} (q : WO (resArs env as) fun xs => Q (.val d :: xs)) : WO (resArs env (.v d :: as)) Q := res_cons rfl q
theorem res_r {as : List Ar} {b : Bool} {ds : List D} {Q : List Sl → Prop} (h : env[i]? = some (.own b ds)) (q : WO (resArs env as) fun xs => Q (.own false ds :: xs)) : WO (resArs env (.r i :: as)) Q := res_cons (by unfold resAr; dsimp only; rw [h]) q
theorem res_oO {as : List Ar} {b : Bool} {ds : List D} {Q : List Sl → Prop} (h : env[i]? = some (.own b ds)) (q : WO (resArs env as) fun xs => Q (.ro ds :: xs)) : WO (resArs env (.o i :: as)) Q := res_cons (by unfold resAr; dsimp only; rw [h]) q
theorem res_oR {as : List Ar} {ds : List D} {Q : List Sl → Prop} (h : env[i]? = some (.ro ds)) (q : WO (resArs env as) fun xs => Q (.ro ds :: xs)) : WO (resArs env (.o i :: as)) Q := res_cons (by unfold resAr; dsimp only; rw [h]) q
theorem res_oV {as : List Ar} {ds : List D} {Q : List Sl → Prop} (h : env[i]? = some (.val (.list ds))) (q : WO (resArs env as) fun xs => Q (.ro ds :: xs)) : WO (resArs env (.o i :: as)) Q := res_cons (by unfold resAr; dsimp only; rw [h]) q
theorem back_nil {xs : List Sl} {Q : En → Prop} (q : Q env) : WO (backAr env [] xs) Q := ⟨_, by unfold backAr; (try rfl), q⟩
theorem back_v {as : List Ar} {x : Sl} {xs : List Sl} {Q : En → Prop} (q : WO (backAr env as xs) Q) : WO (backAr env (.v d :: as) (x :: xs)) Q := q
theorem back_o {as : List Ar} {x : Sl} {xs : List Sl} {Q : En → Prop} (q : WO (backAr env as xs) Q) : WO (backAr env (.o i :: as) (x :: xs)) Q := q
theorem back_r {as : List Ar} {ds ds0 : List D} {b : Bool} {xs : List Sl} {Q : En → Prop} (h : env[i]? = some (.own b ds0)) (q : Nrm (env.set i (.own b ds)) fun e => WO (backAr e as xs) Q) : WO (backAr env (.r i :: as) (.own false ds :: xs)) Q := by
  obtain ⟨e, h1, q⟩ := q
  exact ⟨e, by unfold backAr; rw [h]; exact h1, q⟩

/-! methods -/
theorem we_mut {g : List D → D → Option (List D × D)} {Q : D → En → Prop} {b : Bool} {ds0 : List D} (h0 : env[i]? = some (.own b ds0)) (h : WE f env fun x e => Own e[i]? fun l ds => WO (g ds x) fun r => Nrm (e.set i (.own l r.1)) (Q r.2)) : WE (eMut g i f) env Q := by
  obtain ⟨x, e, h1, l, ds, h2, r, h3, q⟩ := h
  exact ⟨_, _, by unfold eMut isOwn; rw [h0]; simp only [if_true, h1, Option.bind_some, h2, h3]; (try rfl), q⟩
theorem we_mut0 {g : List D → Option (List D × D)} {Q : D → En → Prop} {b : Bool} {ds : List D} (h0 : env[i]? = some (.own b ds)) (h : WO (g ds) fun r => Nrm (env.set i (.own b r.1)) (Q r.2)) : WE (eMut0 g i) env Q := by
  obtain ⟨r, h3, q⟩ := h
  exact ⟨_, _, by unfold eMut0; rw [h0]; simp only [h3]; (try rfl), q⟩

/-! statements -/
theorem ws_nil {N : En → Prop} {R : D → En → Prop} {L : List D → En → Prop} (q : N env) : WS sNil env ⟨N, R, L⟩ := ⟨.nx env, rfl, q⟩
theorem ws_seq {f g : Sf} {N : En → Prop} {R : D → En → Prop} {L : List D → En → Prop} (h : WS f env ⟨fun e => WS g e ⟨N, R, L⟩, R, L⟩) : WS (sSeq f g) env ⟨N, R, L⟩ := by
  obtain ⟨o, h1, h⟩ := h
  cases o with
  | nx e =>
    obtain ⟨o, h2, q⟩ : WS g e ⟨N, R, L⟩ := h
    exact ⟨o, by unfold sSeq; simp [h1, h2], q⟩
  | rt d e => exact ⟨.rt d e, by unfold sSeq; simp [h1]; (try rfl), h⟩
  | rn d e => exact ⟨.rn d e, by unfold sSeq; simp [h1]; (try rfl), h⟩
  | rp d d2 e => exact ⟨.rp d d2 e, by unfold sSeq; simp [h1]; (try rfl), h⟩
theorem ws_cut {f : Sf} {N : En → Prop} {R : D → En → Prop} {L : List D → En → Prop} (I : En → Prop) (h : WS f env ⟨I, R, L⟩) (h2 : ∀ e, I e → N e) : WS f env ⟨N, R, L⟩ := h.mono (fun e q => h2 e q) (fun _ _ q => q) fun _ _ q => q
/-- with a resting place between the two -/
theorem ws_mid {f g : Sf} {N : En → Prop} {R : D → En → Prop} {L : List D → En → Prop} (I : En → Prop) (h : WS f env ⟨I, R, L⟩) (h2 : ∀ e, I e → WS g e ⟨N, R, L⟩) : WS (sSeq f g) env ⟨N, R, L⟩ := ws_seq (h.mono (fun e q => h2 e q) (fun _ _ q => q) fun _ _ q => q)
theorem ws_expr {N : En → Prop} {R : D → En → Prop} {L : List D → En → Prop} (h : WE f env fun _ e => N e) : WS (sExpr f) env ⟨N, R, L⟩ := by
  obtain ⟨x, e, h1, q⟩ := h
  exact ⟨.nx e, by unfold sExpr; rw [h1]; (try rfl), q⟩
theorem ws_ret {N : En → Prop} {R : D → En → Prop} {L : List D → En → Prop} (h : WE f env R) : WS (sRet f) env ⟨N, R, L⟩ := by
  obtain ⟨x, e, h1, q⟩ := h
  exact ⟨.rt x e, by unfold sRet; rw [h1]; (try rfl), q⟩
theorem ws_retL {N : En → Prop} {R : D → En → Prop} {L : List D → En → Prop} (h : WL l env L) : WS (sRetL l) env ⟨N, R, L⟩ := by
  obtain ⟨x, e, h1, q⟩ := h
  exact ⟨.rn x e, by unfold sRetL; rw [h1]; (try rfl), q⟩
theorem ws_retN {N : En → Prop} {R : D → En → Prop} {L : List D → En → Prop} (q : R .none env) : WS sRetN env ⟨N, R, L⟩ := ⟨.rt .none env, rfl, q⟩
theorem ws_retO {N : En → Prop} {R : D → En → Prop} {L : List D → En → Prop} {ds : List D} (h : env[i]? = some (.own true ds)) (q : Nrm (env.set i .no) (L ds)) : WS (sRetO i) env ⟨N, R, L⟩ := ⟨.rn ds _, by unfold sRetO; rw [h], q⟩
theorem ws_frz {f : Sf} {N : En → Prop} {R : D → En → Prop} {L : List D → En → Prop} {ds : List D} (h : env[i]? = some (.own true ds)) (q : Nrm (env.set i (.val (.list ds))) fun e => WS f e ⟨N, R, L⟩) : WS (sFrz i f) env ⟨N, R, L⟩ := by
  obtain ⟨o, h1, q⟩ := q
  exact ⟨o, by unfold sFrz frz; rw [h]; exact h1, q⟩
theorem ws_frzV {f : Sf} {N : En → Prop} {R : D → En → Prop} {L : List D → En → Prop} (h : env[i]? = some (.val d)) (q : WS f env ⟨N, R, L⟩) : WS (sFrz i f) env ⟨N, R, L⟩ := by
  obtain ⟨o, h1, q⟩ := q
  exact ⟨o, by unfold sFrz frz; rw [h]; exact h1, q⟩
theorem ws_if {f g : Sf} {N : En → Prop} {R : D → En → Prop} {L : List D → En → Prop} (h : WB c env fun b e => IfB b (WS f e ⟨N, R, L⟩) (WS g e ⟨N, R, L⟩)) : WS (sIf c f g) env ⟨N, R, L⟩ := by
  obtain ⟨b, e, h1, h⟩ := h
  cases b with
  | true => obtain ⟨o, h2, q⟩ : WS f e ⟨N, R, L⟩ := h; exact ⟨o, by unfold sIf; simp [h1, h2], q⟩
  | false => obtain ⟨o, h2, q⟩ : WS g e ⟨N, R, L⟩ := h; exact ⟨o, by unfold sIf; simp [h1, h2], q⟩
theorem ws_set {N : En → Prop} {R : D → En → Prop} {L : List D → En → Prop} (h : WE f env fun x e => Nrm (e.set i (.val x)) N) : WS (sSet i f) env ⟨N, R, L⟩ := by
  obtain ⟨x, e, h1, q⟩ := h
  exact ⟨.nx _, by unfold sSet; rw [h1]; (try rfl), q⟩
theorem ws_setO {N : En → Prop} {R : D → En → Prop} {L : List D → En → Prop} (h : WL l env fun x e => Nrm (e.set i (.own true x)) N) : WS (sSetO i l) env ⟨N, R, L⟩ := by
  obtain ⟨x, e, h1, q⟩ := h
  exact ⟨.nx _, by unfold sSetO; rw [h1]; (try rfl), q⟩
theorem ws_asg {g : Tf} {N : En → Prop} {R : D → En → Prop} {L : List D → En → Prop} (h : WE f env fun x e => WT g x e N) : WS (sAsg f g) env ⟨N, R, L⟩ := by
  obtain ⟨x, e, h1, e', h2, q⟩ := h
  exact ⟨.nx _, by unfold sAsg; simp [h1, h2]; (try rfl), q⟩
theorem ws_par {N : En → Prop} {R : D → En → Prop} {L : List D → En → Prop} (h : WL l env fun ds e => Two ds fun x y => Nrm ((e.set i (.val x)).set j (.val y)) N) : WS (sPar i j l) env ⟨N, R, L⟩ := by
  obtain ⟨x, e, h1, h⟩ := h
  unfold Two at h
  split at h
  case h_2 => cases h
  have q := h
  exact ⟨.nx _, by unfold sPar; rw [h1]; (try rfl), q⟩
theorem ws_putI {fk fe : Ef} {N : En → Prop} {R : D → En → Prop} {L : List D → En → Prop} {b : Bool} {ds0 : List D} (h0 : env[i]? = some (.own b ds0)) (h : WE fe env fun x e => WE fk e fun y e' => IsI y fun k => Own e'[i]? fun l ds => WO (ixN ds.length k) fun j => Nrm (e'.set i (.own l (ds.set j x))) N) : WS (sPutI i fk fe) env ⟨N, R, L⟩ := by
  obtain ⟨x, e, h1, y, e', h2, h⟩ := h
  cases y with
  | int k =>
    obtain ⟨l, ds, h3, j, h4, q⟩ := h
    exact ⟨.nx _, by unfold sPutI isOwn; rw [h0]; simp only [if_true]; unfold sPut; simp only [h1, h2, Option.bind_some, h3, h4]; (try rfl), q⟩
  | _ => cases h
/-- for: by what is still to be walked -/
theorem for_go {g : Tf} {body : Sf} {N : En → Prop} {R : D → En → Prop} {L : List D → En → Prop} (I : List D → En → Prop) : ∀ (ds : List D) (env : En), I ds env →
    (∀ d rs e, I (d :: rs) e → WT g d e fun e1 => WS body e1 ⟨I rs, R, L⟩) → (∀ e, I [] e → N e) → WS (forGo g body ds) env ⟨N, R, L⟩
  | [], env, h, _, q => ⟨.nx env, rfl, q env h⟩
  | d :: ds, env, h, s, q => by
    obtain ⟨e1, h1, o, h2, h3⟩ := s d ds env h
    cases o with
    | nx e =>
      obtain ⟨o, h4, h5⟩ := for_go I ds e h3 s q
      exact ⟨o, by unfold forGo; simp [h1, h2, h4], h5⟩
    | rt d e => exact ⟨.rt d e, by unfold forGo; simp [h1, h2]; (try rfl), h3⟩
    | rn d e => exact ⟨.rn d e, by unfold forGo; simp [h1, h2]; (try rfl), h3⟩
    | rp d d2 e => exact ⟨.rp d d2 e, by unfold forGo; simp [h1, h2]; (try rfl), h3⟩
theorem ws_for {g : Tf} {body : Sf} {N : En → Prop} {R : D → En → Prop} {L : List D → En → Prop} (I : List D → List D → En → Prop) (h : WL l env fun ds e => I ds ds e ∧ (∀ d rs e, I ds (d :: rs) e → WT g d e fun e1 => WS body e1 ⟨I ds rs, R, L⟩) ∧ ∀ e, I ds [] e → N e) : WS (sFor l g body) env ⟨N, R, L⟩ := by
  obtain ⟨ds, e, h1, h2, h3, h4⟩ := h
  obtain ⟨o, h5, q⟩ := for_go (I ds) ds e h2 h3 h4
  exact ⟨o, by unfold sFor; simp [h1, h5], q⟩
/-- for: by the turn -/
theorem ws_forN {g : Tf} {body : Sf} {N : En → Prop} {R : D → En → Prop} {L : List D → En → Prop} (I : List D → Nat → En → Prop) (h : WL l env fun ds e => I ds 0 e ∧ (∀ k d e, k < ds.length → ds[k]? = some d → I ds k e → WT g d e fun e1 => WS body e1 ⟨I ds (k + 1), R, L⟩) ∧ ∀ e, I ds ds.length e → N e) : WS (sFor l g body) env ⟨N, R, L⟩ := by
  obtain ⟨ds, e, h1, h2, h3, h4⟩ := h
  obtain ⟨o, h5, q⟩ := for_go (N := N) (R := R) (L := L) (body := body) (g := g) (fun rs e => ∃ k, k ≤ ds.length ∧ ds.drop k = rs ∧ I ds k e) ds e ⟨0, Nat.zero_le _, rfl, h2⟩ (fun d rs e ⟨k, hk, h5, h6⟩ => by
    have hlt : k < ds.length := by
      rcases Nat.lt_or_ge k ds.length with h | h
      · exact h
      · rw [List.drop_eq_nil_of_le h] at h5; cases h5
    have e1 : ds[k]? = some d := by
      rw [List.drop_eq_getElem_cons hlt] at h5
      injection h5 with h5 _
      rw [List.getElem?_eq_getElem hlt, h5]
    obtain ⟨x1, h7, o, h8, h9⟩ := h3 k d e hlt e1 h6
    refine ⟨x1, h7, o, h8, ?_⟩
    cases o with
    | nx e' =>
      refine ⟨k + 1, hlt, ?_, h9⟩
      rw [List.drop_eq_getElem_cons hlt] at h5
      injection h5 with _ h5
    | rt d e => exact h9
    | rn d e => exact h9
    | rp d d2 e => exact h9) (fun e ⟨k, hk, h5, h6⟩ => by
    have : k = ds.length := by
      rw [List.drop_eq_nil_iff] at h5
      omega
    subst this
    exact h4 e h6)
  exact ⟨o, by unfold sFor; simp [h1, h5], q⟩
theorem wh_go {body : Sf} {N : En → Prop} {R : D → En → Prop} {L : List D → En → Prop} (I : Nat → En → Prop) : ∀ (n m : Nat) (env : En), m < n → I m env →
    (∀ m e, I m e → WB c e fun b e1 => IfB b (WS body e1 ⟨fun e2 => ∃ m', m' < m ∧ I m' e2, R, L⟩) (N e1)) → WS (whGo c body n) env ⟨N, R, L⟩
  | 0, m, env, h, _, _ => absurd h (Nat.not_lt_zero _)
  | n + 1, m, env, hn, h, s => by
    obtain ⟨b, e1, h1, h2⟩ := s m env h
    cases b with
    | false => exact ⟨.nx e1, by unfold whGo; simp [h1]; (try rfl), h2⟩
    | true =>
      obtain ⟨o, h3, h4⟩ : WS body e1 ⟨fun e2 => ∃ m', m' < m ∧ I m' e2, R, L⟩ := h2
      cases o with
      | nx e =>
        obtain ⟨m', h5, h6⟩ := h4
        obtain ⟨o, h7, h8⟩ := wh_go I n m' e (by omega) h6 s
        exact ⟨o, by unfold whGo; simp [h1, h3, h7], h8⟩
      | rt d e => exact ⟨.rt d e, by unfold whGo; simp [h1, h3]; (try rfl), h4⟩
      | rn d e => exact ⟨.rn d e, by unfold whGo; simp [h1, h3]; (try rfl), h4⟩
      | rp d d2 e => exact ⟨.rp d d2 e, by unfold whGo; simp [h1, h3]; (try rfl), h4⟩
/-- while: with a measure that falls -/
theorem ws_wh {body : Sf} {n : Nat} {N : En → Prop} {R : D → En → Prop} {L : List D → En → Prop} (I : Nat → En → Prop) (m : Nat) (hm : m < n) (h0 : I m env)
    (h : ∀ m e, I m e → WB c e fun b e1 => IfB b (WS body e1 ⟨fun e2 => ∃ m', m' < m ∧ I m' e2, R, L⟩) (N e1)) : WS (sWh n c body) env ⟨N, R, L⟩ := by
  obtain ⟨o, h5, q⟩ := wh_go I n m env hm h0 h
  exact ⟨o, h5, q⟩

/-! defs -/
theorem wg_run {n np : Nat} {f : Sf} {args : List Sl} {Q : D → List Sl → Prop} (hl : args.length = np) (h : Nrm (args ++ List.replicate (n - np) .no) fun e => WS f e ⟨fun e => Q .none (e.take np), fun d e => Q d (e.take np), fun ds e => Q (.list ds) (e.take np)⟩) : WG (fnRun n np f) args Q := by
  obtain ⟨o, h1, q⟩ := h
  cases o with
  | nx e => exact ⟨_, _, by unfold fnRun; rw [if_pos hl, h1], q⟩
  | rt d e => exact ⟨_, _, by unfold fnRun; rw [if_pos hl, h1], q⟩
  | rn d e => exact ⟨_, _, by unfold fnRun; rw [if_pos hl, h1], q⟩
  | rp d d2 e => exact ⟨_, _, by unfold fnRun; rw [if_pos hl, h1], q⟩
theorem wh_new {n np : Nat} {f : Sf} {args : List Sl} {Q : List D → List Sl → Prop} (hl : args.length = np) (h : Nrm (args ++ List.replicate (n - np) .no) fun e => WS f e ⟨fun e => False, fun d e => False, fun ds e => Q ds (e.take np)⟩) : WH (fnNew n np f) args Q := by
  obtain ⟨o, h1, q⟩ := h
  cases o with
  | nx e => cases q
  | rt d e => cases q
  | rn d e => exact ⟨_, _, by unfold fnNew; rw [if_pos hl, h1], q⟩
  | rp d d2 e => cases q

/-! what is worked out -/
variable {Q : D → Prop} {a b : Int}
theorem wo_add (q : Q (.int (a + b))) : WO (gAdd (.int a) (.int b)) Q := ⟨_, rfl, q⟩
theorem wo_addL {xs ys : List D} (h : fits (xs.length + ys.length) = true) (q : Q (.list (xs ++ ys))) : WO (gAdd (.list xs) (.list ys)) Q := ⟨_, by unfold gAdd; dsimp only; rw [if_pos h], q⟩
theorem wo_addT {xs ys : List D} (h : fits (xs.length + ys.length) = true) (q : Q (.tuple (xs ++ ys))) : WO (gAdd (.tuple xs) (.tuple ys)) Q := ⟨_, by unfold gAdd; dsimp only; rw [if_pos h], q⟩
theorem wo_sub (q : Q (.int (a - b))) : WO (gSub (.int a) (.int b)) Q := ⟨_, rfl, q⟩
theorem wo_mul (h : mulOk a b = true) (q : Q (.int (a * b))) : WO (gMul (.int a) (.int b)) Q := ⟨_, by unfold gMul; dsimp only; rw [if_pos h], q⟩
theorem wo_div (h1 : 0 < b) (h2 : b < 10 ^ 250 * 10 ^ 250) (q : Q (.int (a / b))) : WO (gDiv (.int a) (.int b)) Q := ⟨_, by unfold gDiv divOk; dsimp only; rw [decide_eq_true h1, decide_eq_true h2]; (try rfl), q⟩
theorem wo_mod (h1 : 0 < b) (q : Q (.int (a % b))) : WO (gMod (.int a) (.int b)) Q := ⟨_, by unfold gMod; dsimp only; rw [decide_eq_true h1]; (try rfl), q⟩
theorem wo_neg (q : Q (.int (-a))) : WO (gNeg (.int a)) Q := ⟨_, rfl, q⟩
theorem wo_lt (q : Q (.bool (decide (a < b)))) : WO (gLt (.int a) (.int b)) Q := ⟨_, rfl, q⟩
theorem wo_le (q : Q (.bool (decide (a ≤ b)))) : WO (gLe (.int a) (.int b)) Q := ⟨_, rfl, q⟩
theorem wo_gt (q : Q (.bool (decide (b < a)))) : WO (gGt (.int a) (.int b)) Q := ⟨_, rfl, q⟩
theorem wo_ge (q : Q (.bool (decide (b ≤ a)))) : WO (gGe (.int a) (.int b)) Q := ⟨_, rfl, q⟩
theorem shp_int : shp (.int a) = true := rfl
theorem eqv_int : PyData.eqv (.int a) (.int b) = decide (a = b) := by unfold PyData.eqv; by_cases h : a = b <;> simp [h]
theorem wo_eq (q : Q (.bool (decide (a = b)))) : WO (gEq (.int a) (.int b)) Q := ⟨_, by unfold gEq; rw [shp_int, shp_int]; simp only [Bool.and_self, if_true]; rw [eqv_int], q⟩
theorem wo_ne (q : Q (.bool (!decide (a = b)))) : WO (gNe (.int a) (.int b)) Q := ⟨_, by unfold gNe; rw [shp_int, shp_int]; simp only [Bool.and_self, if_true]; rw [eqv_int], q⟩
theorem eqv_bool {a b : Bool} : PyData.eqv (.bool a) (.bool b) = (a == b) := by unfold PyData.eqv; rfl
theorem wo_eqB {a b : Bool} (q : Q (.bool (a == b))) : WO (gEq (.bool a) (.bool b)) Q := ⟨_, by unfold gEq; rw [show shp (.bool a) = true from rfl, show shp (.bool b) = true from rfl]; simp only [Bool.and_self, if_true]; rw [eqv_bool], q⟩
theorem wo_neB {a b : Bool} (q : Q (.bool (!(a == b)))) : WO (gNe (.bool a) (.bool b)) Q := ⟨_, by unfold gNe; rw [show shp (.bool a) = true from rfl, show shp (.bool b) = true from rfl]; simp only [Bool.and_self, if_true]; rw [eqv_bool], q⟩
theorem wo_eqD (h1 : shp d = true) (h2 : shp e = true) (q : Q (.bool (PyData.eqv d e))) : WO (gEq d e) Q := ⟨_, by unfold gEq; rw [h1, h2]; (try rfl), q⟩
theorem wo_neD (h1 : shp d = true) (h2 : shp e = true) (q : Q (.bool (!PyData.eqv d e))) : WO (gNe d e) Q := ⟨_, by unfold gNe; rw [h1, h2]; (try rfl), q⟩
theorem atI_ix {α : Type} {xs : List α} {k : Int} (h1 : 0 ≤ k) (h2 : k < xs.length) : atI xs k = some (xs[k.toNat]'(by omega)) := by
  unfold atI ixN
  rw [if_pos h1, if_pos h2]
  simp only [Option.bind_some]
  exact List.getElem?_eq_getElem _
theorem wo_idxL {ds : List D} {k : Int} (h1 : 0 ≤ k) (h2 : k < ds.length) (q : ∀ d, ds[k.toNat]? = some d → d ∈ ds → Q d) : WO (gIdx (.list ds) (.int k)) Q :=
  ⟨_, atI_ix h1 h2, q _ (List.getElem?_eq_getElem _) (List.getElem_mem _)⟩
theorem wo_idxT {ds : List D} {k : Int} (h1 : 0 ≤ k) (h2 : k < ds.length) (q : ∀ d, ds[k.toNat]? = some d → d ∈ ds → Q d) : WO (gIdx (.tuple ds) (.int k)) Q :=
  ⟨_, atI_ix h1 h2, q _ (List.getElem?_eq_getElem _) (List.getElem_mem _)⟩
theorem wo_idxE {x d : D} {k : Int} (h : gIdx d (.int k) = some x) (q : Q x) : WO (gIdx d (.int k)) Q := ⟨_, h, q⟩
theorem wo_lenL {ds : List D} (q : Q (.int (ds.length : Int))) : WO (gLen (.list ds)) Q := ⟨_, rfl, q⟩
theorem wo_lenT {ds : List D} (q : Q (.int (ds.length : Int))) : WO (gLen (.tuple ds)) Q := ⟨_, rfl, q⟩
theorem wo_abs (q : Q (.int (if a < 0 then -a else a))) : WO (gAbs (.int a)) Q := ⟨_, rfl, q⟩
theorem wo_intB {b : Bool} (q : Q (.int (if b then 1 else 0))) : WO (gInt (.bool b)) Q := ⟨_, rfl, q⟩
theorem wo_intI (q : Q (.int a)) : WO (gInt (.int a)) Q := ⟨_, rfl, q⟩
theorem wo_listL {ds : List D} {Q : List D → Prop} (q : Q ds) : WO (gList (.list ds)) Q := ⟨_, rfl, q⟩
theorem wo_listT {ds : List D} {Q : List D → Prop} (q : Q ds) : WO (gList (.tuple ds)) Q := ⟨_, rfl, q⟩
theorem wo_tupL {ds : List D} (q : Q (.tuple ds)) : WO (gTuple (.list ds)) Q := ⟨_, rfl, q⟩
theorem wo_tupT {ds : List D} (q : Q (.tuple ds)) : WO (gTuple (.tuple ds)) Q := ⟨_, rfl, q⟩
theorem wo_sum {ns : List Int} {ds : List D} (h : ds = ns.map .int) (q : Q (.int ns.sum)) : WO (gSum (.list ds)) Q := ⟨_, by subst h; unfold gSum; dsimp only; rw [intsOf_map]; (try rfl), q⟩
theorem wo_all {ns : List Bool} {ds : List D} (h : ds = ns.map .bool) (q : Q (.bool (ns.all id))) : WO (gAll (.list ds)) Q := ⟨_, by subst h; unfold gAll; dsimp only; rw [blsOf_map]; (try rfl), q⟩
theorem wo_any {ns : List Bool} {ds : List D} (h : ds = ns.map .bool) (q : Q (.bool (ns.any id))) : WO (gAny (.list ds)) Q := ⟨_, by subst h; unfold gAny; dsimp only; rw [blsOf_map]; (try rfl), q⟩
theorem wo_max (q : Q (.int (if b > a then b else a))) : WO (gMax2 (.int a) (.int b)) Q := ⟨_, rfl, q⟩
theorem wo_min (q : Q (.int (if b < a then b else a))) : WO (gMin2 (.int a) (.int b)) Q := ⟨_, rfl, q⟩
theorem wo_app {ds : List D} {Q : List D × D → Prop} (h : fits (ds.length + 1) = true) (q : Q (ds ++ [d], .none)) : WO (mAppend ds d) Q := ⟨_, by unfold mAppend; rw [if_pos h], q⟩
theorem wo_ext {ds es : List D} {Q : List D × D → Prop} (h : fits (ds.length + es.length) = true) (q : Q (ds ++ es, .none)) : WO (mExtend ds (.list es)) Q := ⟨_, by unfold mExtend; dsimp only; rw [if_pos h], q⟩
theorem wo_isN (q : Q (.bool (isNone d))) : WO (gIsN d .none) Q := ⟨_, rfl, q⟩
theorem wo_ntN (q : Q (.bool (!isNone d))) : WO (gNtN d .none) Q := ⟨_, rfl, q⟩
theorem wo_isiE {T : Ty} {z : D} (h : gIsi T d = some z) (q : Q z) : WO (gIsi T d) Q := ⟨z, h, q⟩
theorem wo_allE {z : D} (h : gAll d = some z) (q : Q z) : WO (gAll d) Q := ⟨z, h, q⟩
theorem wo_anyE {z : D} (h : gAny d = some z) (q : Q z) : WO (gAny d) Q := ⟨z, h, q⟩
theorem wo_eqT (h : (shp d && shp e && PyData.eqv d e) = true) (q : Q (.bool true)) : WO (gEq d e) Q := by
  simp only [Bool.and_eq_true] at h
  exact ⟨_, by unfold gEq; rw [h.1.1, h.1.2, h.2]; rfl, q⟩
theorem wo_eqF (h : (shp d && shp e && !PyData.eqv d e) = true) (q : Q (.bool false)) : WO (gEq d e) Q := by
  simp only [Bool.and_eq_true, Bool.not_eq_true'] at h
  exact ⟨_, by unfold gEq; rw [h.1.1, h.1.2, h.2]; rfl, q⟩
theorem wo_neT (h : (shp d && shp e && !PyData.eqv d e) = true) (q : Q (.bool true)) : WO (gNe d e) Q := by
  simp only [Bool.and_eq_true, Bool.not_eq_true'] at h
  exact ⟨_, by unfold gNe; rw [h.1.1, h.1.2, h.2]; rfl, q⟩
theorem wo_neF (h : (shp d && shp e && PyData.eqv d e) = true) (q : Q (.bool false)) : WO (gNe d e) Q := by
  simp only [Bool.and_eq_true] at h
  exact ⟨_, by unfold gNe; rw [h.1.1, h.1.2, h.2]; rfl, q⟩
theorem wo_isiI (q : Q (.bool true)) : WO (gIsi .int (.int a)) Q := ⟨_, rfl, q⟩
theorem wo_isiB (q : Q (.bool false)) : WO (gIsi .bool (.int a)) Q := ⟨_, rfl, q⟩
theorem wo_ixE {n j : Nat} {k : Int} {Q : Nat → Prop} (h : ixN n k = some j) (q : Q j) : WO (ixN n k) Q := ⟨j, h, q⟩
theorem wo_ix {n : Nat} {k : Int} {Q : Nat → Prop} (h1 : 0 ≤ k) (h2 : k < n) (q : Q k.toNat) : WO (ixN n k) Q := ⟨_, by unfold ixN; rw [if_pos h1, if_pos h2], q⟩
theorem mul_ok1 (h : a.natAbs < 2 ^ 64) : mulOk a b = true := by unfold mulOk; rw [decide_eq_true h]; rfl
theorem mul_ok2 (h : b.natAbs < 2 ^ 64) : mulOk a b = true := by unfold mulOk; rw [decide_eq_true h]; simp
theorem mul_ok3 (h1 : a.natAbs < 10 ^ 250 * 10 ^ 250) (h2 : b.natAbs < 10 ^ 250 * 10 ^ 250) : mulOk a b = true := by unfold mulOk; rw [decide_eq_true h1, decide_eq_true h2]; simp
theorem fits_of {n : Nat} (h : n ≤ 16777216) : fits n = true := decide_eq_true h
end
theorem wo_p10_60 {Q : D → Prop} (q : Q (.int 1000000000000000000000000000000000000000000000000000000000000)) : WO (gPow (.int 10) (.int 60)) Q := ⟨_, rfl, q⟩
theorem wo_p10_18 {Q : D → Prop} (q : Q (.int 1000000000000000000)) : WO (gPow (.int 10) (.int 18)) Q := ⟨_, rfl, q⟩
theorem wo_p10_30 {Q : D → Prop} (q : Q (.int 1000000000000000000000000000000)) : WO (gPow (.int 10) (.int 30)) Q := ⟨_, rfl, q⟩
theorem wo_p2_24 {Q : D → Prop} (q : Q (.int 16777216)) : WO (gPow (.int 2) (.int 24)) Q := ⟨_, rfl, q⟩
theorem wo_p10_8 {Q : D → Prop} (q : Q (.int 100000000)) : WO (gPow (.int 10) (.int 8)) Q := ⟨_, rfl, q⟩
theorem wo_p10_19 {Q : D → Prop} (q : Q (.int 10000000000000000000)) : WO (gPow (.int 10) (.int 19)) Q := ⟨_, rfl, q⟩
theorem wo_p10_55 {Q : D → Prop} (q : Q (.int 10000000000000000000000000000000000000000000000000000000)) : WO (gPow (.int 10) (.int 55)) Q := ⟨_, rfl, q⟩
theorem wo_p10_59 {Q : D → Prop} (q : Q (.int 100000000000000000000000000000000000000000000000000000000000)) : WO (gPow (.int 10) (.int 59)) Q := ⟨_, rfl, q⟩
theorem wo_p3_30 {Q : D → Prop} (q : Q (.int 205891132094649)) : WO (gPow (.int 3) (.int 30)) Q := ⟨_, rfl, q⟩
theorem wo_p2_40 {Q : D → Prop} (q : Q (.int 1099511627776)) : WO (gPow (.int 2) (.int 40)) Q := ⟨_, rfl, q⟩
theorem wo_p10_54 {Q : D → Prop} (q : Q (.int 1000000000000000000000000000000000000000000000000000000)) : WO (gPow (.int 10) (.int 54)) Q := ⟨_, rfl, q⟩
theorem wo_p3_13 {Q : D → Prop} (q : Q (.int 1594323)) : WO (gPow (.int 3) (.int 13)) Q := ⟨_, rfl, q⟩
theorem wo_p2_20 {Q : D → Prop} (q : Q (.int 1048576)) : WO (gPow (.int 2) (.int 20)) Q := ⟨_, rfl, q⟩
theorem wo_p10_57 {Q : D → Prop} (q : Q (.int 1000000000000000000000000000000000000000000000000000000000)) : WO (gPow (.int 10) (.int 57)) Q := ⟨_, rfl, q⟩
theorem wo_p10_40 {Q : D → Prop} (q : Q (.int 10000000000000000000000000000000000000000)) : WO (gPow (.int 10) (.int 40)) Q := ⟨_, rfl, q⟩
theorem wo_p10_61 {Q : D → Prop} (q : Q (.int 10000000000000000000000000000000000000000000000000000000000000)) : WO (gPow (.int 10) (.int 61)) Q := ⟨_, rfl, q⟩
theorem wo_p10_50 {Q : D → Prop} (q : Q (.int 100000000000000000000000000000000000000000000000000)) : WO (gPow (.int 10) (.int 50)) Q := ⟨_, rfl, q⟩
end M

namespace M
open PySem PySem.Spec PyProof.Rows L2
theorem irange_zero {n : Nat} {d : D} (h : d ∈ irange 0 n) : ∃ i : Int, d = .int i ∧ 0 ≤ i ∧ i < n := by
  unfold irange at h
  obtain ⟨k, h1, rfl⟩ := List.mem_map.mp h
  exact ⟨_, rfl, by omega, by have := List.mem_range.mp h1; omega⟩
theorem irange_length (lo : Int) (n : Nat) : (irange lo n).length = n := by unfold irange; rw [List.length_map, List.length_range]
theorem cut_take (xs : List D) (n : Nat) : M.cutD xs none (some (n : Int)) = xs.take n := by
  unfold M.cutD
  rw [HT.sIx_none, HT.sIx_nat, List.drop_zero, Nat.sub_zero]
  rcases Nat.le_total n xs.length with h | h
  · rw [Nat.min_eq_left h]
  · rw [Nat.min_eq_right h, List.take_of_length_le (Nat.le_refl _), List.take_of_length_le h]
theorem cut_from (xs : List D) (m n : Nat) : M.cutD xs (some (m : Int)) (some (n : Int)) = (xs.drop m).take (n - m) := by
  unfold M.cutD
  rw [HT.sIx_nat, HT.sIx_nat]
  by_cases h : m ≤ xs.length
  · rw [Nat.min_eq_left h]
    by_cases h2 : n ≤ xs.length
    · rw [Nat.min_eq_left h2]
    · rw [Nat.min_eq_right (by omega), List.take_of_length_le (by rw [List.length_drop]; omega), List.take_of_length_le (by rw [List.length_drop]; omega)]
  · rw [Nat.min_eq_right (show xs.length ≤ m by omega), List.drop_eq_nil_of_le (Nat.le_refl _), List.drop_eq_nil_of_le (show xs.length ≤ m by omega)]
    simp
theorem ints_get {cs : List Int} {k : Nat} {d : D} (h : (cs.map PyData.int)[k]? = some d) : ∃ c : Int, d = .int c := by
  rw [List.getElem?_map] at h
  cases e : cs[k]? with
  | none => rw [e] at h; cases h
  | some c => rw [e] at h; cases h; exact ⟨c, rfl⟩
theorem ints_mem {cs : List Int} {d : D} (h : d ∈ cs.map PyData.int) : ∃ c : Int, d = .int c := by
  obtain ⟨c, _, rfl⟩ := List.mem_map.mp h
  exact ⟨c, rfl⟩
theorem pairs_mem {xs ys : List D} {d : D} (h : d ∈ pairs xs ys) : ∃ x y, d = .tuple [x, y] ∧ x ∈ xs ∧ y ∈ ys := by
  unfold pairs at h
  obtain ⟨⟨x, y⟩, h1, rfl⟩ := List.mem_map.mp h
  exact ⟨x, y, rfl, (List.of_mem_zip h1).1, (List.of_mem_zip h1).2⟩
theorem pick_w {xs : List Int} {ds : List D} {k lo hi : Int} {Q : D → Prop} (h0 : 0 ≤ k) (h1 : k < ds.length) (e : ds = xs.map .int) (hb : ∀ x ∈ xs, lo ≤ x ∧ x ≤ hi) (q : ∀ x : Int, lo ≤ x → x ≤ hi → x ∈ xs → Q (.int x)) : WO (gIdx (.list ds) (.int k)) Q := by
  subst e
  refine wo_idxL h0 h1 fun d _ hd => ?_
  obtain ⟨x, hx, rfl⟩ := List.mem_map.mp hd
  exact q x (hb x hx).1 (hb x hx).2 hx
/-! ### common parts -/
mutual
theorem eqv_refl0 : ∀ d : D, d.canLay0 = true → PyData.eqv d d = true
  | .none, _ => by unfold PyData.eqv; rfl
  | .bool b, _ => by unfold PyData.eqv; simp
  | .int b, _ => by unfold PyData.eqv; simp
  | .str b, _ => by unfold PyData.eqv; simp
  | .list ds, h => by unfold PyData.eqv; exact eqvAll_refl0 ds (by unfold PyData.canLay0 at h; exact h)
  | .tuple ds, h => by unfold PyData.eqv; exact eqvAll_refl0 ds (by unfold PyData.canLay0 at h; exact h)
  | .dict _, h => by unfold PyData.canLay0 at h; cases h
theorem eqvAll_refl0 : ∀ ds : List D, PyData.canLayAll0 ds = true → PyData.eqvAll ds ds = true
  | [], _ => by unfold PyData.eqvAll; rfl
  | d :: ds, h => by
    unfold PyData.canLayAll0 at h
    unfold PyData.eqvAll
    rw [eqv_refl0 d (Bool.and_eq_true_iff.mp h).1, eqvAll_refl0 ds (Bool.and_eq_true_iff.mp h).2]
    rfl
end
theorem eqv_refl (d : D) (h : shp d = true) : PyData.eqv d d = true := eqv_refl0 d (by unfold shp SeqAt.shaped at h; exact (Bool.and_eq_true_iff.mp h).1)
theorem canLay_ints : ∀ ns : List Int, PyData.canLayAll0 (ns.map .int) = true
  | [] => rfl
  | n :: ns => canLay_ints ns
theorem depth_ints : ∀ ns : List Int, PyData.depthAll (ns.map .int) = 0
  | [] => rfl
  | n :: ns => by
    show max 0 (PyData.depthAll (ns.map .int)) = 0
    rw [depth_ints ns]
    rfl
theorem shp_ints (ns : List Int) : shp (.list (ns.map .int)) = true := by
  unfold shp SeqAt.shaped
  have h1 : (PyData.list (ns.map PyData.int)).canLay0 = true := canLay_ints ns
  have h2 : (PyData.list (ns.map PyData.int)).depth = 1 := by
    show PyData.depthAll (ns.map .int) + 1 = 1
    rw [depth_ints]
  rw [h1, h2]
  rfl
structure IsG (a b g : Int) : Prop where
  pos : 0 ≤ g
  da : g ∣ a
  db : g ∣ b
  all : ∀ d : Int, d ∣ a → d ∣ b → d ∣ g
theorem IsG.uniq {a b g h : Int} (x : IsG a b g) (y : IsG a b h) : g = h := Int.dvd_antisymm x.pos y.pos (y.all g x.da x.db) (x.all h y.da y.db)
theorem IsG.symm {a b g : Int} (x : IsG a b g) : IsG b a g := ⟨x.pos, x.db, x.da, fun d h1 h2 => x.all d h2 h1⟩
theorem IsG.ne {a b g : Int} (x : IsG a b g) (h : 0 < b) : 0 < g := by
  rcases Int.lt_or_eq_of_le x.pos with h1 | h1
  · exact h1
  · have := x.db
    rw [← h1] at this
    have := Int.zero_dvd.mp this
    omega
/-- g is made of both, s and t times -/
structure Bz (a b g s t : Int) : Prop where
  G : IsG a b g
  eq : s * a + t * b = g
  sb : s.natAbs ≤ b.natAbs + 1
  tb : t.natAbs ≤ a.natAbs + 1
/-- the turn's state of the search for the greatest common part -/
structure Eu (a b r0 s0 t0 r1 s1 t1 : Int) : Prop where
  h0 : 0 ≤ r0
  h1 : 0 ≤ r1
  e0 : s0 * a + t0 * b = r0
  e1 : s1 * a + t1 * b = r1
  dv : ∀ d : Int, (d ∣ r0 ∧ d ∣ r1) ↔ (d ∣ a ∧ d ∣ b)
  sg : ∃ e p0 p1 u0 u1 : Int, (e = 1 ∨ e = -1) ∧ 0 ≤ p0 ∧ 0 ≤ p1 ∧ 0 ≤ u0 ∧ 0 ≤ u1 ∧ s0 = e * p0 ∧ s1 = -(e * p1) ∧ t0 = -(e * u0) ∧ t1 = e * u1 ∧ p0 * r1 + p1 * r0 = b ∧ u0 * r1 + u1 * r0 = a ∧ p0 ≤ b + 1 ∧ p1 ≤ b + 1 ∧ u0 ≤ a + 1 ∧ u1 ≤ a + 1
theorem Eu.start {a b : Int} (ha : 0 ≤ a) (hb : 0 ≤ b) : Eu a b a 1 0 b 0 1 :=
  ⟨ha, hb, by omega, by omega, fun d => Iff.rfl, 1, 1, 0, 0, 1, .inl rfl, by omega, by omega, by omega, by omega, by omega, by omega, by omega, by omega, by omega, by omega, by omega, by omega, by omega, by omega⟩
theorem Eu.step {a b r0 s0 t0 r1 s1 t1 : Int} (E : Eu a b r0 s0 t0 r1 s1 t1) (hr : r1 ≠ 0) : Eu a b r1 s1 t1 (r0 - r0 / r1 * r1) (s0 - r0 / r1 * s1) (t0 - r0 / r1 * t1) ∧ (r0 - r0 / r1 * r1).toNat < r1.toNat ∧ 0 ≤ r0 / r1 ∧ r0 / r1 ≤ r0 := by
  obtain ⟨h0, h1, e0, e1, dv, e, p0, p1, u0, u1, he, hp0, hp1, hu0, hu1, rfl, rfl, rfl, rfl, i1, i2, b1, b2, b3, b4⟩ := E
  have hr1 : 0 < r1 := by omega
  have q0 : 0 ≤ r0 / r1 := Int.ediv_nonneg h0 h1
  have q1 : r0 / r1 ≤ r0 := Int.ediv_le_self _ h0
  have m1 := Int.mul_ediv_add_emod r0 r1
  have m2 := Int.emod_nonneg r0 hr
  have m3 := Int.emod_lt_of_pos r0 hr1
  have m4 : r0 - r0 / r1 * r1 = r0 % r1 := by rw [Int.mul_comm]; omega
  generalize r0 / r1 = q at *
  have k1 : 0 ≤ q * p1 := Int.mul_nonneg q0 hp1
  have k2 : 0 ≤ q * u1 := Int.mul_nonneg q0 hu1
  have k3 : p1 * (r0 - q * r1) + (p0 + q * p1) * r1 = b := by grind
  have k4 : u1 * (r0 - q * r1) + (u0 + q * u1) * r1 = a := by grind
  have k5 : 0 ≤ p1 * (r0 - q * r1) := Int.mul_nonneg hp1 (by omega)
  have k6 : 0 ≤ u1 * (r0 - q * r1) := Int.mul_nonneg hu1 (by omega)
  have k7 : (p0 + q * p1) * 1 ≤ (p0 + q * p1) * r1 := Int.mul_le_mul_of_nonneg_left (by omega) (by omega)
  have k8 : (u0 + q * u1) * 1 ≤ (u0 + q * u1) * r1 := Int.mul_le_mul_of_nonneg_left (by omega) (by omega)
  refine ⟨⟨h1, by omega, e1, by grind, fun d => ?_, -e, p1, p0 + q * p1, u1, u0 + q * u1, by omega, hp1, by omega, hu1, by omega, by grind, by grind, by grind, by grind, k3, k4, by omega, by omega, by omega, by omega⟩, by omega, q0, q1⟩
  rw [← dv d]
  constructor
  · rintro ⟨d1, d2⟩
    refine ⟨?_, d1⟩
    have : r0 = (r0 - q * r1) + q * r1 := by omega
    rw [this]
    exact Int.dvd_add d2 (Int.dvd_mul_of_dvd_right d1)
  · rintro ⟨d1, d2⟩
    exact ⟨d2, Int.dvd_sub d1 (Int.dvd_mul_of_dvd_right d2)⟩
theorem Eu.fin {a b r0 s0 t0 s1 t1 : Int} (ha : 0 ≤ a) (hb : 0 ≤ b) (E : Eu a b r0 s0 t0 0 s1 t1) : Bz a b r0 s0 t0 := by
  obtain ⟨h0, h1, e0, e1, dv, e, p0, p1, u0, u1, he, hp0, hp1, hu0, hu1, rfl, rfl, rfl, rfl, i1, i2, b1, b2, b3, b4⟩ := E
  have := (dv r0).mp ⟨Int.dvd_refl _, Int.dvd_zero _⟩
  refine ⟨⟨h0, this.1, this.2, fun d d1 d2 => ((dv d).mpr ⟨d1, d2⟩).1⟩, e0, ?_, ?_⟩
  · rcases he with rfl | rfl <;> omega
  · rcases he with rfl | rfl <;> omega
theorem Eu.sz {a b r0 s0 t0 r1 s1 t1 : Int} (E : Eu a b r0 s0 t0 r1 s1 t1) : s1.natAbs ≤ b.natAbs + 1 ∧ t1.natAbs ≤ a.natAbs + 1 := by
  obtain ⟨h0, h1, e0, e1, dv, e, p0, p1, u0, u1, he, hp0, hp1, hu0, hu1, rfl, rfl, rfl, rfl, i1, i2, b1, b2, b3, b4⟩ := E
  constructor
  · rcases he with rfl | rfl <;> omega
  · rcases he with rfl | rfl <;> omega
/-! ### values that == can be asked of -/
def scal : D → Bool
  | .none => true
  | .bool _ => true
  | .int _ => true
  | .str x => (PyData.str x).canLay0
  | _ => false
theorem scal_int (x : Int) : scal (.int x) = true := rfl
theorem scal_lay : ∀ d : D, scal d = true → d.canLay0 = true ∧ d.depth = 0
  | .none, _ => ⟨rfl, rfl⟩
  | .bool _, _ => ⟨rfl, rfl⟩
  | .int _, _ => ⟨rfl, rfl⟩
  | .str _, h => ⟨h, rfl⟩
  | .list _, h => by cases h
  | .tuple _, h => by cases h
  | .dict _, h => by cases h
theorem scal_all : ∀ ds : List D, ds.all scal = true → PyData.canLayAll0 ds = true ∧ PyData.depthAll ds = 0
  | [], _ => ⟨rfl, rfl⟩
  | d :: ds, h => by
    rw [List.all_cons, Bool.and_eq_true] at h
    obtain ⟨h1, h2⟩ := scal_lay d h.1
    obtain ⟨h3, h4⟩ := scal_all ds h.2
    refine ⟨?_, ?_⟩
    · show (d.canLay0 && PyData.canLayAll0 ds) = true
      rw [h1, h3]; rfl
    · show max d.depth (PyData.depthAll ds) = 0
      rw [h2, h4]; rfl
theorem shp_tup {ds : List D} (h : ds.all scal = true) : shp (.tuple ds) = true := by
  obtain ⟨h1, h2⟩ := scal_all ds h
  unfold shp SeqAt.shaped
  rw [show (PyData.tuple ds).canLay0 = true from h1, show (PyData.tuple ds).depth = 1 from by show PyData.depthAll ds + 1 = 1; rw [h2]]
  rfl
/-! ### stretches joined -/
def Jd (f1 s1 f2 s2 : Int) (d : D) : Prop := ∃ g : Int, IsG s1 s2 g ∧ 0 < g ∧ (((f2 - f1) % g ≠ 0 ∧ d = .tuple [.str "none", .int g]) ∨ ((f2 - f1) % g = 0 ∧ ∃ x : Int, 0 ≤ x ∧ x < s1 / g * s2 ∧ x % s1 = f1 ∧ x % s2 = f2 ∧ d = .tuple [.str "all", .int x, .int (s1 / g * s2)]))
theorem emod_of_sub {x y s : Int} (h : s ∣ x - y) (h0 : 0 ≤ y) (h1 : y < s) : x % s = y := by
  have := Int.emod_emod_of_dvd x (Int.dvd_refl s)
  rw [← Int.emod_eq_of_lt h0 h1]
  exact Int.emod_eq_emod_iff_emod_sub_eq_zero.mpr (Int.emod_eq_zero_of_dvd h)
theorem sub_of_emod {x y s : Int} (h : x % s = y % s) : s ∣ x - y := Int.dvd_of_emod_eq_zero (Int.emod_eq_emod_iff_emod_sub_eq_zero.mp h)
theorem lcm_dvd {s1 s2 g a b x : Int} (B : Bz s1 s2 g a b) (hg : 0 < g) (h1 : s1 ∣ x) (h2 : s2 ∣ x) : s1 / g * s2 ∣ x := by
  obtain ⟨p, hp⟩ := B.G.da
  obtain ⟨q, hq⟩ := B.G.db
  obtain ⟨c, rfl⟩ := h1
  obtain ⟨d, hd⟩ := h2
  have e1 : s1 / g = p := by rw [hp, Int.mul_ediv_cancel_left _ (by omega)]
  rw [e1]
  have eq := B.eq
  refine ⟨a * d + b * c * 1, ?_⟩
  have : g * (s1 * c) = g * (p * s2 * (a * d + b * c * 1)) := by grind
  exact Int.eq_of_mul_eq_mul_left (show g ≠ 0 by omega) this
theorem zero_of_dvd {x w : Int} (h : w ∣ x) (h1 : -w < x) (h2 : x < w) : x = 0 := by
  obtain ⟨k, rfl⟩ := h
  rcases Int.lt_trichotomy k 0 with h | h | h
  · have := Int.mul_le_mul_of_nonneg_left (show k ≤ -1 by omega) (show 0 ≤ w by omega)
    omega
  · rw [h, Int.mul_zero]
  · have := Int.mul_le_mul_of_nonneg_left (show 1 ≤ k by omega) (show 0 ≤ w by omega)
    omega
theorem IsG.bz {a b g : Int} (G : IsG a b g) (hb : 0 ≤ b) (ha : 0 ≤ a) : ∃ s t : Int, Bz a b g s t := by
  -- by the search itself
  have : ∀ n : Nat, ∀ r0 s0 t0 r1 s1 t1 : Int, r1.toNat < n → Eu a b r0 s0 t0 r1 s1 t1 → ∃ r s t : Int, Bz a b r s t := by
    intro n
    induction n with
    | zero => intro _ _ _ _ _ _ h; omega
    | succ n ih =>
      intro r0 s0 t0 r1 s1 t1 h E
      by_cases hr : r1 = 0
      · subst hr
        exact ⟨_, _, _, E.fin ha hb⟩
      · obtain ⟨E2, lt, _, _⟩ := E.step hr
        exact ih _ _ _ _ _ _ (by omega) E2
  obtain ⟨r, s, t, B⟩ := this (b.toNat + 1) a 1 0 b 0 1 (by omega) (Eu.start ha hb)
  have := B.G.uniq G
  subst this
  exact ⟨s, t, B⟩
theorem crt_uniq {s1 s2 g x y : Int} (G : IsG s1 s2 g) (hg : 0 < g) (h1 : 0 ≤ s1) (h2 : 0 ≤ s2) (x0 : 0 ≤ x) (x1 : x < s1 / g * s2) (y0 : 0 ≤ y) (y1 : y < s1 / g * s2) (e1 : x % s1 = y % s1) (e2 : x % s2 = y % s2) : x = y := by
  obtain ⟨s, t, B⟩ := G.bz h2 h1
  have := zero_of_dvd (lcm_dvd B hg (sub_of_emod e1) (sub_of_emod e2)) (by omega) (by omega)
  omega
theorem lcm_comm {s1 s2 g : Int} (G : IsG s1 s2 g) (hg : 0 < g) : s1 / g * s2 = s2 / g * s1 := by
  obtain ⟨p, hp⟩ := G.da
  obtain ⟨q, hq⟩ := G.db
  have e1 : s1 / g = p := by rw [hp, Int.mul_ediv_cancel_left _ (by omega)]
  have e2 : s2 / g = q := by rw [hq, Int.mul_ediv_cancel_left _ (by omega)]
  rw [e1, e2, hp, hq]
  grind
theorem Jd.uniq {f1 s1 f2 s2 : Int} {d e : D} (h1 : 0 < s1) (h2 : 0 < s2) (x : Jd f1 s1 f2 s2 d) (y : Jd f1 s1 f2 s2 e) : d = e := by
  obtain ⟨g, G, hg, x⟩ := x
  obtain ⟨g', G', _, y⟩ := y
  have := G.uniq G'
  subst this
  rcases x with ⟨n, rfl⟩ | ⟨n, x, x0, x1, x2, x3, rfl⟩
  · rcases y with ⟨_, rfl⟩ | ⟨m, _⟩
    · rfl
    · exact absurd m n
  · rcases y with ⟨m, _⟩ | ⟨m, y, y0, y1, y2, y3, rfl⟩
    · exact absurd n m
    · rw [crt_uniq G hg (by omega) (by omega) x0 x1 y0 y1 (x2.trans y2.symm) (x3.trans y3.symm)]
theorem mul_le2 {a b A B : Int} (ha : 0 ≤ a) (hb : 0 ≤ b) (h1 : a ≤ A) (h2 : b ≤ B) : a * b ≤ A * B :=
  Int.le_trans (Int.mul_le_mul_of_nonneg_left h2 ha) (Int.mul_le_mul_of_nonneg_right h1 (by omega))
/-! ### weights -/
def mapI (f : Int → Int) : D → D
  | .int x => .int (f x)
  | d => d
theorem mapI_ints (f : Int → Int) (ns : List Int) : (ns.map PyData.int).map (mapI f) = (ns.map f).map .int := by
  rw [List.map_map, List.map_map]
  rfl
theorem filter_yes (ds : List D) : ds.filter (fun _ => true) = ds := List.filter_eq_self.mpr fun _ _ => rfl
def dot : List Int → List Int → Int
  | w :: ws, n :: ns => w * n + dot ws ns
  | _, _ => 0
theorem dot_app : ∀ (ws ns : List Int) (w n : Int), ws.length = ns.length → dot (ws ++ [w]) (ns ++ [n]) = dot ws ns + w * n
  | [], [], w, n, _ => by simp [dot]
  | [], _ :: _, _, _, h => by simp at h
  | _ :: _, [], _, _, h => by simp at h
  | v :: ws, m :: ns, w, n, h => by
    have := dot_app ws ns w n (by simpa using h)
    show v * m + dot (ws ++ [w]) (ns ++ [n]) = v * m + dot ws ns + w * n
    omega
theorem dot_mod (m s : Int) : ∀ (ws ns : List Int), m ∣ dot (ws.map fun w => w * s % m) ns - s * dot ws ns
  | [], [] => ⟨0, by simp [dot]⟩
  | [], _ :: _ => ⟨0, by simp [dot]⟩
  | _ :: _, [] => ⟨0, by simp [dot]⟩
  | w :: ws, n :: ns => by
    obtain ⟨c, hc⟩ := dot_mod m s ws ns
    have e := Int.mul_ediv_add_emod (w * s) m
    refine ⟨c - w * s / m * n, ?_⟩
    show w * s % m * n + dot (ws.map fun w => w * s % m) ns - s * (w * n + dot ws ns) = _
    generalize w * s / m = q at *
    generalize w * s % m = r at *
    grind
theorem dot_sum (t : Int) : ∀ (ws ns : List Int), (List.zipWith (fun w n => w * n * t) ws ns).sum = dot ws ns * t
  | [], [] => by simp [dot]
  | [], _ :: _ => by simp [dot]
  | _ :: _, [] => by simp [dot]
  | w :: ws, n :: ns => by
    have := dot_sum t ws ns
    rw [List.zipWith_cons_cons, List.sum_cons, this]
    show w * n * t + dot ws ns * t = (w * n + dot ws ns) * t
    grind
def mapT (f : Int → Int → Int) : D → D
  | .tuple [.int x, .int y] => .int (f x y)
  | d => d
theorem pairs_ints (ws ns : List Int) : pairs (ws.map .int) (ns.map .int) = (ws.zip ns).map fun p => .tuple [.int p.1, .int p.2] := by
  unfold pairs
  rw [List.zip_map, List.map_map]
  rfl
theorem mapT_pairs (f : Int → Int → Int) (ws ns : List Int) : (pairs (ws.map .int) (ns.map .int)).map (mapT f) = (List.zipWith f ws ns).map .int := by
  rw [pairs_ints, List.map_map]
  induction ws generalizing ns with
  | nil => simp
  | cons w ws ih =>
    cases ns with
    | nil => simp
    | cons n ns =>
      rw [List.zip_cons_cons, List.zipWith_cons_cons, List.map_cons, List.map_cons, ih ns]
      rfl
structure We (m : Int) (ns : List Int) (g : Int) (ws : List Int) : Prop where
  pos : 0 < g
  dm : g ∣ m
  dn : ∀ n ∈ ns, g ∣ n
  all : ∀ d : Int, d ∣ m → (∀ n ∈ ns, d ∣ n) → d ∣ g
  len : ws.length = ns.length
  dot : m ∣ dot ws ns - g
  rng : ∀ w ∈ ws, 0 ≤ w ∧ w < m
theorem We.start {m : Int} (hm : 0 < m) : We m [] m [] := ⟨hm, Int.dvd_refl _, fun n h => (by cases h), fun d h _ => h, rfl, ⟨-1, by simp [M.dot]⟩, fun w h => (by cases h)⟩
theorem We.step {m g n g' s t : Int} {ns ws : List Int} (hm : 0 < m) (W : We m ns g ws) (B : Bz g (n % m) g' s t) : We m (ns ++ [n]) g' ((ws.map fun w => w * s % m) ++ [t % m]) := by
  have hgm := Int.dvd_trans B.G.da W.dm
  have en : n = n % m + m * (n / m) := by have := Int.mul_ediv_add_emod n m; omega
  refine ⟨?_, hgm, fun x hx => ?_, fun d d1 d2 => ?_, ?_, ?_, fun w hw => ?_⟩
  · rcases Int.lt_or_eq_of_le B.G.pos with h | h
    · exact h
    · rw [← h] at hgm
      have := Int.zero_dvd.mp hgm
      omega
  · rcases List.mem_append.mp hx with hx | hx
    · exact Int.dvd_trans B.G.da (W.dn x hx)
    · rw [List.mem_singleton] at hx
      subst hx
      rw [en]
      exact Int.dvd_add B.G.db (Int.dvd_mul_of_dvd_left hgm)
  · refine B.G.all d (W.all d d1 fun x hx => d2 x (List.mem_append_left _ hx)) ?_
    have : n % m = n - m * (n / m) := by omega
    rw [this]
    exact Int.dvd_sub (d2 n (by simp)) (Int.dvd_mul_of_dvd_left d1)
  · simp [W.len]
  · rw [dot_app _ _ _ _ (by simp [W.len])]
    obtain ⟨a, ha⟩ := dot_mod m s ws ns
    obtain ⟨b, hb⟩ := W.dot
    have et := Int.mul_ediv_add_emod t m
    have eq := B.eq
    refine ⟨a + s * b - t / m * n + t * (n / m), ?_⟩
    generalize M.dot (ws.map fun w => w * s % m) ns = X at *
    generalize M.dot ws ns = Y at *
    generalize n / m = p at *
    generalize n % m = q at *
    generalize t / m = u at *
    generalize t % m = v at *
    grind
  · rcases List.mem_append.mp hw with hw | hw
    · obtain ⟨v, _, rfl⟩ := List.mem_map.mp hw
      exact ⟨Int.emod_nonneg _ (by omega), Int.emod_lt_of_pos _ hm⟩
    · rw [List.mem_singleton] at hw
      subst hw
      exact ⟨Int.emod_nonneg _ (by omega), Int.emod_lt_of_pos _ hm⟩
theorem We.one {m f g : Int} {ws : List Int} (W : We m [f] g ws) : IsG m f g := ⟨by have := W.pos; omega, W.dm, W.dn f (by simp), fun d d1 d2 => W.all d d1 fun n hn => by rw [List.mem_singleton] at hn; subst hn; exact d2⟩
theorem wo_allM {ds : List D} {p : D → Bool} {Q : D → Prop} (q : Q (.bool (ds.all p))) : WO (gAll (.list (ds.map fun d => .bool (p d)))) Q := by
  refine wo_all (ns := ds.map p) (by rw [List.map_map]; rfl) ?_
  rw [List.all_map]
  exact q
theorem wo_anyM {ds : List D} {p : D → Bool} {Q : D → Prop} (q : Q (.bool (ds.any p))) : WO (gAny (.list (ds.map fun d => .bool (p d)))) Q := by
  refine wo_any (ns := ds.map p) (by rw [List.map_map]; rfl) ?_
  rw [List.any_map]
  exact q
theorem wo_hd {d : D} {ds : List D} {Q : D → Prop} (q : Q d) : WO (gIdx (.list (d :: ds)) (.int 0)) Q := by
  refine wo_idxL (Int.le_refl 0) (by rw [List.length_cons]; omega) fun e he _ => ?_
  cases he
  exact q
/-! ### many stretches -/
theorem Jd.all {f1 s1 f2 s2 : Int} {d : D} (h0 : 0 ≤ f1) (h1 : f1 < s1) (h2 : 0 ≤ f2) (h3 : f2 < s2) (J : Jd f1 s1 f2 s2 d) :
    (∃ g : Int, d = .tuple [.str "none", .int g] ∧ ∀ y : Int, ¬ (y % s1 = f1 ∧ y % s2 = f2)) ∨ ∃ x w : Int, d = .tuple [.str "all", .int x, .int w] ∧ 0 ≤ x ∧ x < w ∧ w ≤ s1 * s2 ∧ ∀ y : Int, (y % s1 = f1 ∧ y % s2 = f2) ↔ y % w = x := by
  obtain ⟨g, G, hg, ⟨hn, rfl⟩ | ⟨hn, x, x0, x1, x2, x3, rfl⟩⟩ := J
  · refine .inl ⟨g, rfl, fun y ⟨e1, e2⟩ => hn ?_⟩
    have a1 : s1 ∣ y - f1 := sub_of_emod (by rw [e1, Int.emod_eq_of_lt h0 h1])
    have a2 : s2 ∣ y - f2 := sub_of_emod (by rw [e2, Int.emod_eq_of_lt h2 h3])
    have := Int.dvd_sub (Int.dvd_trans G.da a1) (Int.dvd_trans G.db a2)
    rw [show y - f1 - (y - f2) = f2 - f1 by omega] at this
    exact Int.emod_eq_zero_of_dvd this
  · obtain ⟨s, t, B⟩ := G.bz (show 0 ≤ s2 by omega) (show 0 ≤ s1 by omega)
    have hd : s1 / g ≤ s1 := Int.ediv_le_self _ (by omega)
    refine .inr ⟨x, s1 / g * s2, rfl, x0, x1, Int.mul_le_mul_of_nonneg_right hd (by omega), fun y => ⟨fun ⟨e1, e2⟩ => ?_, fun e => ?_⟩⟩
    · exact emod_of_sub (lcm_dvd B hg (sub_of_emod (e1.trans x2.symm)) (sub_of_emod (e2.trans x3.symm))) x0 x1
    · have hw : s1 / g * s2 ∣ y - x := sub_of_emod (by rw [e, Int.emod_eq_of_lt x0 x1])
      have w2 : s2 ∣ s1 / g * s2 := Int.dvd_mul_left _ _
      have w1 : s1 ∣ s1 / g * s2 := by rw [lcm_comm G hg]; exact Int.dvd_mul_left _ _
      refine ⟨?_, ?_⟩
      · rw [← x2]
        exact Int.emod_eq_emod_iff_emod_sub_eq_zero.mpr (Int.emod_eq_zero_of_dvd (Int.dvd_trans w1 hw))
      · rw [← x3]
        exact Int.emod_eq_emod_iff_emod_sub_eq_zero.mpr (Int.emod_eq_zero_of_dvd (Int.dvd_trans w2 hw))
abbrev St2 := Int × Int
def Alls (ss : List St2) (x : Int) : Prop := ∀ p ∈ ss, x % p.2 = p.1
def stD (p : St2) : D := .tuple [.int p.1, .int p.2]
def Told (ss : List St2) (d : D) : Prop := (d = .none ∧ ∀ x, ¬ Alls ss x) ∨ ∃ p : St2, d = stD p ∧ 0 ≤ p.1 ∧ p.1 < p.2 ∧ ∀ x, Alls ss x ↔ x % p.2 = p.1
theorem Told.uniq {ss tt : List St2} {d e : D} (h : ∀ x, Alls ss x ↔ Alls tt x) (x : Told ss d) (y : Told tt e) : d = e := by
  rcases x with ⟨rfl, x⟩ | ⟨⟨f, w⟩, rfl, x0, x1, x⟩
  · rcases y with ⟨rfl, _⟩ | ⟨⟨f, w⟩, rfl, y0, y1, y⟩
    · rfl
    · exact absurd ((h f).mpr ((y f).mpr (Int.emod_eq_of_lt y0 y1))) (x f)
  · rcases y with ⟨rfl, y⟩ | ⟨⟨f', w'⟩, rfl, y0, y1, y⟩
    · exact absurd ((h f).mp ((x f).mpr (Int.emod_eq_of_lt x0 x1))) (y f)
    · dsimp only at x x0 x1 y y0 y1
      have key : ∀ z : Int, z % w = f ↔ z % w' = f' := fun z => (x z).symm.trans ((h z).trans (y z))
      have a1 : (f + w) % w' = f' := (key _).mp (by rw [Int.add_emod_right]; exact Int.emod_eq_of_lt x0 x1)
      have a2 : f % w' = f' := (key _).mp (Int.emod_eq_of_lt x0 x1)
      have b1 : (f' + w') % w = f := (key _).mpr (by rw [Int.add_emod_right]; exact Int.emod_eq_of_lt y0 y1)
      have b2 : f' % w = f := (key _).mpr (Int.emod_eq_of_lt y0 y1)
      have d1 : w' ∣ w := by have := sub_of_emod (a1.trans a2.symm); rwa [show f + w - f = w by omega] at this
      have d2 : w ∣ w' := by have := sub_of_emod (b1.trans b2.symm); rwa [show f' + w' - f' = w' by omega] at this
      have := Int.dvd_antisymm (by omega) (by omega) d1 d2
      subst this
      rw [Int.emod_eq_of_lt x0 x1] at a2
      rw [a2]
theorem Told.shp {ss : List St2} {d : D} (h : Told ss d) : M.shp d = true := by
  rcases h with ⟨rfl, _⟩ | ⟨p, rfl, _⟩
  · rfl
  · exact shp_tup (by simp only [List.all_cons, List.all_nil, scal_int, Bool.and_true])
theorem cut_one (x : D) (xs : List D) : M.cutD (x :: xs) (some 1) none = xs := by
  unfold M.cutD
  rw [show (some 1 : Option Int) = some ((1 : Nat) : Int) from rfl, HT.sIx_nat, HT.sIx_none, Nat.min_eq_left (by simp), List.drop_succ_cons, List.drop_zero, List.take_of_length_le (by simp)]
theorem Alls.cons {p : St2} {ss : List St2} {x : Int} : Alls (p :: ss) x ↔ x % p.2 = p.1 ∧ Alls ss x := by
  unfold Alls
  simp
end M

namespace M
open PySem PySem.Spec PyProof.Rows L2
def alikeB (ds : List D) : Bool := ds.all fun d => ds.all fun e => PySem.W.alike d e
theorem alikeB_ok {ds : List D} (h : alikeB ds = true) : PySem.W.AllAlike ds := fun d hd e he => by
  unfold alikeB at h
  exact List.all_eq_true.mp (List.all_eq_true.mp h d hd) e he
def shallow (ds : List D) : Bool := ds.all fun d => decide (d.depth ≤ 60)
section
variable {X : Cx}
theorem dpAll_len {K : Frg} {H : Hp} : ∀ {xs : List V} {ds : List D}, DpAll K H xs ds → xs.length = ds.length
  | [], [], _ => rfl
  | [], _ :: _, h => by cases h
  | _ :: _, [], h => by cases h
  | _ :: _, _ :: _, h => by cases h with | cons _ t => simp [dpAll_len t]
theorem Da.zip {F : Hp} : ∀ {xs : List V} {ds : List D}, Da F xs ds → ∀ q ∈ xs.zip ds, Dt F q.1 q.2
  | [], [], _, q, hq => by simp at hq
  | [], _ :: _, h, _, _ => by cases h
  | _ :: _, [], h, _, _ => by cases h
  | _ :: _, _ :: _, h, q, hq => by
    cases h with
    | cons h1 t =>
      rw [List.zip_cons_cons] at hq
      rcases List.mem_cons.mp hq with rfl | hq
      · exact h1
      · exact Da.zip t q hq
/-! ### list of a text, of a range; tuple of a range -/
theorem vals_signs {x : Str} {acc : Array Value} (h : ItemsOf (SignAt x) acc x.cps.size) : Vals (x.cps.toList.map fun c => V.str ⟨#[c]⟩) acc.toList := by
  refine vals_of_at (by rw [List.length_map, Array.length_toList, Array.length_toList]; exact h.1.symm) fun j y u h1 h2 => ?_
  obtain ⟨c, u', h3, rfl⟩ := h.2 j u (by rw [← h2, Array.getElem?_toList])
  rw [List.getElem?_map, Array.getElem?_toList, h3] at h1
  cases h1
  exact ⟨u', rfl⟩
def rListS : List V → Hp → VK → Prop := fun xs H Q => ∃ x : Str, xs = [.str x] ∧ x.cps.size ≤ sizeLine ∧ ∀ p, H p = none → Q (.ref p) (upd H p (.lst (x.cps.toList.map fun c => V.str ⟨#[c]⟩)))
theorem cr_listS (hc : X.calm = true) : CallR X (.type "list") rListS := by
  intro pins s σ H xs us Q I r h
  obtain ⟨x, rfl, hz, q⟩ := h
  obtain ⟨u, rfl, ru⟩ := vals1 r
  obtain ⟨t, rfl⟩ := ru
  refine call_list_str (hn := hz) (I.ok.hd hc) x t fun h' tk acc' c' hk e' hi => ?_
  refine ⟨.ref s.heap.objs.size, upd H s.heap.objs.size (.lst (x.cps.toList.map fun c => V.str ⟨#[c]⟩)), I.laid hk (Nat.le_refl _) (show ObjOk X.prog X.w _ _ _ (.lst (x.cps.toList.map fun c => V.str ⟨#[c]⟩)) from ⟨?_, acc'.toList, c', vals_signs hi, ?_⟩), rfl, q _ (I.hok.fresh (Nat.le_refl _))⟩
  · rw [List.length_map, Array.length_toList]; exact hz
  · rw [Array.toArray_toList]; exact e'
def gListS : D → Option (List D)
  | .str x => if fits x.cps.size then some (signs x) else none
  | _ => none
theorem da_signs {F : Hp} : ∀ (cs : List Nat), Da F (cs.map fun c => V.str ⟨#[c]⟩) (cs.map fun c => .str ⟨#[c]⟩)
  | [] => .nil
  | c :: cs => .cons (.str _) (da_signs cs)
theorem gc_listS {K : Frg} : GCN K rListS gListS := by
  intro G F env s H x d z k h1 h3 Q q
  unfold gListS at h3
  split at h3
  · split at h3
    · rename_i x hf
      cases h3
      cases h1.str
      exact ⟨_, rfl, fits_line hf, fun l hl => q F _ l _ (k.laid hl) (Same.refl F) upd_same (k.fr.free hl) (k.dom l hl) (k.pin.free hl) (k.notown hl) (da_signs _)⟩
    · cases h3
  · cases h3
theorem xn_listS {f : Ef} {e : Expr} {p pos : Pos} (hm : X.mg "list" = none) (ha : XO X e f) (hc : X.calm = true := by rfl) (hg : Gl X "list" := by rfl) (he : starEach [e] X.env = (false, eval e X.env) :: starEach [] X.env := by rfl) (hpl : (backTo pos (starEach [] X.env)).any (·.1) = false := by rfl) : XN X (.Call (.Name "list" p) [e] [] pos) (lUn gListS f) :=
  xn_cbT (cr_listS hc) boot_list gc_listS hm ha hg (by decide) (by decide) he hpl
def lRg1 (f : Ef) : Lf := fun env => (f env).bind fun r => match r.1 with
  | .int n => if smallI n && fits n.toNat then some (irange 0 n.toNat, r.2) else none
  | _ => none
theorem da_rg {F : Hp} {a b : Int} : Da F (rgV a b) (irange a (b - a).toNat) := by
  unfold rgV irange
  refine Da.of (by simp) fun i v d h1 h2 => ?_
  rw [List.getElem?_map] at h1 h2
  cases hx : (List.range (b - a).toNat)[i]? with
  | none => rw [hx] at h1; cases h1
  | some j => rw [hx] at h1 h2; cases h1; cases h2; exact .int _
def eTupRg (f : Ef) : Ef := fun env => (lRg1 f env).map fun r => (.tuple r.1, r.2)
theorem xe_tupRg {f : Ef} {e : Expr} {p p2 pos pos2 : Pos} (hm : X.mg "tuple" = none) (hm2 : X.mg "range" = none) (ha : XE X e f) (hc : X.calm = true := by rfl) (hg : Gl X "tuple" := by rfl) (hg2 : Gl X "range" := by rfl) (he : starEach [e] X.env = (false, eval e X.env) :: starEach [] X.env := by rfl)
    (he2 : starEach [.Call (.Name "range" p2) [e] [] pos2] X.env = (false, eval (.Call (.Name "range" p2) [e] [] pos2) X.env) :: starEach [] X.env := by rfl) : XE X (.Call (.Name "tuple" p) [.Call (.Name "range" p2) [e] [] pos2] [] pos) (eTupRg f) := by
  obtain ⟨t, h1, h2⟩ := ha.ex
  refine ⟨_, pe_tupRg hc hg hm (prg_1 hg2 hm2 h1 he) he2, fun G F env s H ds env' k e Q q => ?_⟩
  unfold eTupRg at e
  obtain ⟨⟨d0, e0⟩, ee, h0⟩ := Option.map_eq_some_iff.mp e
  cases h0
  unfold lRg1 at ee
  obtain ⟨⟨d, e1⟩, h3, e⟩ := Option.bind_eq_some_iff.mp ee
  refine h2 G F env s H d e1 k h3 _ fun F1 H1 v k1 s1 p1 => ?_
  cases p1 with
  | int n =>
    dsimp only at e
    split at e
    · rename_i hf
      cases e
      unfold smallI at hf
      simp only [Bool.and_eq_true, decide_eq_true_eq] at hf
      have hf2 := fits_line hf.2
      rw [sizeLine_eq] at hf2
      refine ⟨n, rfl, ⟨by omega, by omega, by omega, by omega, by omega⟩, fun l hl => ?_⟩
      have z : Da F1 (rgV 0 n) (irange 0 (n - 0).toNat) := da_rg
      rw [show n - 0 = n by omega] at z
      exact q _ _ _ (k1.alloc hl) (s1.trans (same_upd (k1.fr.free hl))) (.tup upd_same (Da.mono (same_upd (k1.fr.free hl)) _ _ z))
    · cases e
  | _ => cases e
/-! ### xs + ys, xs * k as new lists -/
/-- xs a name: its list may be the def's own -/
def asList : Sl → Option (List D)
  | .own _ xs => some xs
  | .val (.list xs) => some xs
  | _ => none
def listD : D → Option (List D)
  | .list xs => some xs
  | _ => none
def lAddV (i : Nat) (fb : Ef) : Lf := fun env => (eO i env).bind fun _ => (fb env).bind fun q => (listD q.1).bind fun ys => ((q.2[i]?).bind asList).bind fun xs => if fits (xs.length + ys.length) then some (xs ++ ys, q.2) else none
/-- both are values -/
def lAddE (fa fb : Ef) : Lf := fun env => (fa env).bind fun r => (fb r.2).bind fun q => match r.1, q.1 with
  | .list xs, .list ys => if fits (xs.length + ys.length) then some (xs ++ ys, q.2) else none
  | _, _ => none
section
variable {env : En} {fa fb : Ef} {i : Nat}
theorem wl_addO {Q : List D → En → Prop} {b : Bool} {ds0 : List D} (h0 : env[i]? = some (.own b ds0)) (h : WE fb env fun y e' => IsL y fun ys => Own e'[i]? fun _ xs => Fit (xs.length + ys.length) (Q (xs ++ ys) e')) : WL (lAddV i fb) env Q := by
  obtain ⟨y, e', h1, h⟩ := h
  cases y with
  | list ys =>
    obtain ⟨b, xs, h2, h3, q⟩ := h
    exact ⟨_, e', by unfold lAddV; simp [eO, h0, h1, h2, h3, listD, asList], q⟩
  | _ => cases h
theorem wl_addE {Q : List D → En → Prop} (h : WE fa env fun x e => WE fb e fun y e' => IsL x fun xs => IsL y fun ys => Fit (xs.length + ys.length) (Q (xs ++ ys) e')) : WL (lAddE fa fb) env Q := by
  obtain ⟨x, e, h1, y, e', h2, h⟩ := h
  cases x with
  | list xs =>
    cases y with
    | list ys =>
      obtain ⟨h3, q⟩ := h
      exact ⟨_, e', by unfold lAddE; simp [h1, h2, h3], q⟩
    | _ => cases h
  | _ => cases h
theorem wl_rg1 {Q : List D → En → Prop} (h : WE fa env fun x e => IsI x fun n => Sml n (Fit n.toNat (Q (irange 0 n.toNat) e))) : WL (lRg1 fa) env Q := by
  obtain ⟨x, e, h1, h⟩ := h
  cases x with
  | int n =>
    obtain ⟨h2, h3, q⟩ := h
    exact ⟨_, e, by unfold lRg1; simp [h1, h2, h3], q⟩
  | _ => cases h
theorem we_tupRg {Q : D → En → Prop} (h : WL (lRg1 fa) env fun ds e => Q (.tuple ds) e) : WE (eTupRg fa) env Q := by
  obtain ⟨ds, e, h1, q⟩ := h
  exact ⟨_, e, by unfold eTupRg; rw [h1]; rfl, q⟩
end
end
end M

namespace M
open PySem PySem.Spec PyProof.Rows L2
/-! ### own lists looked at as values, for as long as an expression runs whose answer is flat -/
def unown : Sl → Sl
  | .own _ ds => .val (.list ds)
  | .dct _ _ => .no
  | x => x
theorem unown_own {b : Bool} {ds : List D} : unown (.own b ds) = .val (.list ds) := rfl
theorem unown_val {d : D} : unown (.val d) = .val d := rfl
theorem unown_no : unown .no = .no := rfl
theorem unown_ro {ds : List D} : unown (.ro ds) = .ro ds := rfl
theorem unown_dct {w : World} {kvs : List (D × D)} : unown (.dct w kvs) = .no := rfl
def unowns : En → En
  | [] => []
  | x :: xs => unown x :: unowns xs
theorem unowns_nil : unowns [] = [] := rfl
theorem unowns_cons {x : Sl} {xs : En} : unowns (x :: xs) = unown x :: unowns xs := rfl
def eBor (f : Ef) : Ef := fun env => (f (unowns env)).bind fun r => if flatD r.1 then some (r.1, env) else none
def bBor (f : Bf) : Bf := fun env => (f (unowns env)).map fun r => (r.1, env)
section
variable {K : Frg} {G : Gm} {F F' : Hp} {env env' : En} {s : L2.St} {H H' : Hp}
end
section
variable {X : Cx} {e : Expr} {f : Ef} {c : Bf} {env : En}
theorem we_bor {Q : D → En → Prop} (h : Nrm (unowns env) fun e => WE f e fun d _ => flatD d = true ∧ Q d env) : WE (eBor f) env Q := by
  obtain ⟨d, e, h1, h2, q⟩ := h
  exact ⟨d, env, by unfold eBor; rw [h1]; simp [h2], q⟩
theorem wb_bor {Q : Bool → En → Prop} (h : Nrm (unowns env) fun e => WB c e fun b _ => Q b env) : WB (bBor c) env Q := by
  obtain ⟨b, e, h1, q⟩ := h
  exact ⟨b, env, by unfold bBor; rw [h1]; rfl, q⟩
end
/-! ### is, of truths -/
def gIsB : D → D → Option D
  | .bool a, .bool b => some (.bool (decide (a = b)))
  | _, _ => none
def gNtB : D → D → Option D
  | .bool a, .bool b => some (.bool (!decide (a = b)))
  | _, _ => none
theorem gq_ntB {K : Frg} : GQ K rNotB gNtB := by
  intro G F env s H x y d e z k h1 h2 h3 Q q
  unfold gNtB at h3
  split at h3
  · cases h3
    cases h1.bl
    cases h2.bl
    exact ⟨_, _, rfl, rfl, q F H _ k (Same.refl F) (.bl _)⟩
  · cases h3
theorem wo_isB {a b : Bool} {Q : D → Prop} (q : Q (.bool (decide (a = b)))) : WO (gIsB (.bool a) (.bool b)) Q := ⟨_, rfl, q⟩
theorem wo_ntB {a b : Bool} {Q : D → Prop} (q : Q (.bool (!decide (a = b)))) : WO (gNtB (.bool a) (.bool b)) Q := ⟨_, rfl, q⟩
end M

namespace M
open PySem PySem.Spec PyProof.Rows L2
section
variable {X : Cx}
end
/-! ### a new list made while own lists are looked at -/
mutual
def lfree : D → Bool
  | .none => true
  | .bool _ => true
  | .int _ => true
  | .str _ => true
  | .tuple ds => lfreeA ds
  | _ => false
def lfreeA : List D → Bool
  | [] => true
  | d :: ds => lfree d && lfreeA ds
end
def lBor (f : Lf) : Lf := fun env => (f (unowns env)).bind fun r => if lfreeA r.1 then some (r.1, env) else none
theorem wl_bor {f : Lf} {env : En} {Q : List D → En → Prop} (h : Nrm (unowns env) fun e => WL f e fun ds _ => lfreeA ds = true ∧ Q ds env) : WL (lBor f) env Q := by
  obtain ⟨ds, e, h1, h2, q⟩ := h
  exact ⟨ds, env, by unfold lBor; rw [h1]; simp [h2], q⟩
end M

namespace M
open PySem PySem.Spec PyProof.Rows L2
/-! ### zip of a list and a tuple -/
def ItzM (K : Frg) (a b : Addr) : It :=
  ⟨fun i H => ∃ (xs ys : List V) (x y : V), SqL K H a xs ∧ SqT K H b ys ∧ xs[i]? = some x ∧ ys[i]? = some y,
    fun i H v H' => ∃ T x y, v = .ref T ∧ H T = none ∧ H' = upd H T (.tup [x, y]) ∧ (∀ xs, SqL K H a xs → xs[i]? = some x) ∧ ∀ ys, SqT K H b ys → ys[i]? = some y,
    fun i H => ∃ xs ys : List V, SqL K H a xs ∧ SqT K H b ys ∧ (xs.length = i ∨ ys.length = i) ∧ i ≤ xs.length ∧ i ≤ ys.length⟩
theorem sep_of {z TI TO i1 i2 a b : Addr} (D : ZipApart z TI TO i1 i2 a b) : ZipSep2 z TI TO i1 i2 [i1, a] [i2, b] where
  TIz := D.TIz
  TOz := D.TOz
  TITO := D.TITO
  TIi1 := D.TIi1
  mem1 := by simp
  zf1 := by simp [D.i1z.symm, D.l1z.symm]
  Tf1 := by simp [D.TOi1, D.l1TO.symm]
  TIi2 := D.TIi2
  mem2 := by simp
  zf2 := by simp [D.i2z.symm, D.l2z.symm]
  Tf2 := by simp [D.TOi2, D.l2TO.symm]
  sep1_2 := by simp [D.i12, D.l2i1.symm]
  sep2_1 := by simp [D.i12.symm, D.l1i2.symm]
theorem turn_zipM {P : Program} {w : World} {K : Frg} {elts : List Expr} {kk : Nat} {tpos : Pos} {a b z TI TO i1 i2 : Addr} (D : ZipApart z TI TO i1 i2 a b) :
    Turn P w K (.Tuple elts kk tpos) (ItzM K a b) [z, TI, TO, i1, i2] z (fun i h => IsZip h z TI TO .none ∧ IsTupOf2 h TI (.ref i1) (.ref i2) ∧ (∃ x y, IsTupOf2 h TO x y) ∧ h.IsListIter i1 a i ∧ h.IsTupleIter i2 b i) where
  mem := by simp
  obj := fun i h st c hc => by
    obtain ⟨hz, hTI, ⟨x, y, hTO⟩, ⟨o1, e1, _, d1⟩, ⟨o2, e2, _, d2⟩⟩ := st
    have e' : c = z ∨ c = TI ∨ c = TO ∨ c = i1 ∨ c = i2 := by simpa using hc
    rcases e' with q | q | q | q | q
    · rw [q]; exact ⟨_, hz, fun v q => nomatch q⟩
    · rw [q]; exact ⟨_, hTI, fun v q => nomatch q⟩
    · rw [q]; exact ⟨_, hTO, fun v q => nomatch q⟩
    · rw [q]; exact ⟨o1, e1, fun v q => by rw [d1] at q; cases q⟩
    · rw [q]; exact ⟨o2, e2, fun v q => by rw [d2] at q; cases q⟩
  keep := fun i h h' st k => by
    obtain ⟨hz, hTI, ⟨x, y, hTO⟩, h1, h2⟩ := st
    exact ⟨k z (by simp) _ hz, k TI (by simp) _ hTI, ⟨x, y, k TO (by simp) _ hTO⟩, h1.at fun o q => k i1 (by simp) o q, h2.at fun o q => k i2 (by simp) o q⟩
  item := by
    intro X hP hw hK hc i pins s σ H E I hf st hg
    subst hP hw hK
    obtain ⟨hz, hTI, ⟨x0, y0, hTO⟩, h1, h2⟩ := st
    obtain ⟨xs, ys, x, y, hqx, hqy, hx, hy⟩ := hg
    obtain ⟨its, rv, p, _⟩ := I.list hqx
    obtain ⟨its2, rv2, p2, _⟩ := I.tuple hqy
    obtain ⟨u, hu, ru⟩ := rv.get hx
    obtain ⟨u2, hu2, ru2⟩ := rv2.get hy
    have hzl : z < s.heap.objs.size := Heap.lt_size hz
    have hh : X.A.in1.handled = none := I.ok.hd hc
    refine wpAny_pyNext_zipD2_item (sep_of D) (Draws.list hh i1 a D.l1i1 its.toArray) (Draws.tuple hh i2 b D.l2i2 its2.toArray) hz hTI hTO ⟨h1, p.isList⟩ ⟨h2, p2⟩
      (by rw [List.size_toArray]; exact (List.getElem?_eq_some_iff.mp hu).1) (by rw [List.size_toArray]; exact (List.getElem?_eq_some_iff.mp hu2).1) fun v1 v2 h' tk e1 e2 z' TO' st1 st2 hT hsz hk => ?_
    have e1 : its[i]? = some v1 := by simpa using e1
    have e2 : its2[i]? = some v2 := by simpa using e2
    rw [hu] at e1
    rw [hu2] at e2
    cases e1
    cases e2
    refine ⟨_, rfl, wpAny_letOwnedTupleGo_zip (s := { s with heap := h', toks := tk }) z' fun h'' z'' sb => ?_⟩
    have hT2 : h''.get? s.heap.objs.size = some { cls := .type "tuple", data := .seq #[u, u2] } := (sb.2 _ (Nat.ne_of_gt hzl)).trans hT
    have new : ObjOk X.prog X.w (upd H s.heap.objs.size (.tup [x, y])) h'' s.heap.objs.size (.tup [x, y]) :=
      ⟨by show 2 ≤ sizeLine; decide, [u, u2], .cons ru (.cons ru2 .nil), ⟨_, hT2, rfl, _, rfl⟩⟩
    have I1 : Inv X pins σ (upd H s.heap.objs.size (.tup [x, y])) { s with heap := h'', toks := tk } :=
      I.turnedNew (t' := tk) (ch := [z, TI, TO, i1, i2]) (fun c o hb q => (sb.2 c (fun q' => hb (by simp [q']))).trans (hk c o (fun q' => hb (by simp [q'])) (fun q' => hb (by simp [q'])) (fun q' => hb (by simp [q'])) (fun q' => hb (by simp [q'])) q)) hf (Nat.le_refl _) new
    refine ⟨.ref s.heap.objs.size, _, I1, rfl, ⟨_, x, y, rfl, I.hok.fresh (Nat.le_refl _), rfl, fun l hl => by rw [I.list_inj hl hqx]; exact hx, fun l hl => by rw [I.tuple_inj hl hqy]; exact hy⟩, ⟨z'', ?_, ⟨u, u2, ?_⟩, ?_, ?_⟩, fun c hcm => ?_⟩
    · exact (sb.2 _ D.TIz).trans (hk _ _ D.TIz D.TITO D.TIi1 D.TIi2 hTI)
    · exact (sb.2 _ D.TOz).trans TO'
    · exact st1.1.at fun o q => (sb.2 _ D.i1z).trans q
    · exact st2.1.at fun o q => (sb.2 _ D.i2z).trans q
    · have hlt : c < s.heap.objs.size := by
        have e' : c = z ∨ c = TI ∨ c = TO ∨ c = i1 ∨ c = i2 := by simpa using hcm
        rcases e' with q | q | q | q | q
        · rw [q]; exact hzl
        · rw [q]; exact Heap.lt_size hTI
        · rw [q]; exact Heap.lt_size hTO
        · rw [q]; obtain ⟨_, e1, _⟩ := h1; exact Heap.lt_size e1
        · rw [q]; obtain ⟨_, e2, _⟩ := h2; exact Heap.lt_size e2
      rw [upd_ne (Nat.ne_of_lt hlt)]
      exact (hf c hcm).1
  done := by
    intro X hP hw hK hc i pins s σ H E I hf st hg
    subst hP hw hK
    obtain ⟨hz, hTI, ⟨x0, y0, hTO⟩, h1, h2⟩ := st
    obtain ⟨xs, ys, hqx, hqy, hend, hi1, hi2⟩ := hg
    obtain ⟨its, rv, p, _⟩ := I.list hqx
    obtain ⟨its2, rv2, p2, _⟩ := I.tuple hqy
    have l1 := rv.length
    have l2 := rv2.length
    have hh : X.A.in1.handled = none := I.ok.hd hc
    exact wpAny_pyNext_zipD2_end (sep_of D) (Draws.list hh i1 a D.l1i1 its.toArray) (Draws.tuple hh i2 b D.l2i2 its2.toArray) hz hTI hTO ⟨h1, p.isList⟩ ⟨h2, p2⟩
      (by rw [List.size_toArray]; omega) (by rw [List.size_toArray]; omega) (by rw [List.size_toArray, List.size_toArray]; omega) fun h' tk hk => ⟨rfl, I.turnedL (t' := tk) (ch := [z, TI, TO, i1, i2]) (fun c o hb q =>
      hk c o (fun q' => hb (by simp [q'])) (fun q' => hb (by simp [q'])) (fun q' => hb (by simp [q'])) (fun q' => hb (by simp [q'])) q) hf⟩
  self := fun A i s Q E st h => wpAny_pyIter_zip st.1 h
def iZipM (K : Frg) (ta : TA) : TI := fun σ H R => ta σ H fun vs H1 => ∃ a b xs ys, vs = [.ref a, .ref b] ∧ SqL K H1 a xs ∧ SqT K H1 b ys ∧ R (ItzM K a b) H1
theorem pi_zipM {X : Cx} {e e2 : Expr} {ta : TA} {p pos tpos : Pos} {elts : List Expr} {kk : Nat} (hg : Gl X "zip") (hm : X.mg "zip" = none) (ha : PA X [e, e2] ta)
    (hs : starEach [e, e2] X.env = (false, eval e X.env) :: starEach [e2] X.env := by rfl) (hpl : (backTo pos (starEach [e2] X.env)).any (·.1) = false := by rfl) :
    PI X (.Tuple elts kk tpos) (.Call (.Name "zip" p) [e, e2] [] pos) (iZipM X.K ta) := by
  refine ⟨fun pins s σ H R I h => ?_⟩
  refine Call_ (ld_blt I hg hm PyProof.Rows.boot_zip (PyProof.Rows.callWith_type1 (thn (ha.run pos pins s σ H _ I h) fun us s1 ⟨vs, H1, I1, r1, q1⟩ => ?_) hs hpl))
  obtain ⟨a, b, xs, ys, ex, hqx, hqy, q⟩ := q1
  subst ex
  cases r1 with
  | cons r rr =>
    cases rr with
    | cons r' rr =>
      cases rr
      cases r
      cases r'
      have fresh5 : ∀ c, c ∈ [s1.heap.objs.size + 4, s1.heap.objs.size + 2, s1.heap.objs.size + 3, s1.heap.objs.size, s1.heap.objs.size + 1] → FpOk X pins H1 c := fun c hcm => by
        have hle : s1.heap.objs.size ≤ c := by
          simp only [List.mem_cons, List.not_mem_nil, or_false] at hcm
          rcases hcm with z | z | z | z | z <;> rw [z]
          · exact Nat.le_add_right _ _
          · exact Nat.le_add_right _ _
          · exact Nat.le_add_right _ _
          · exact Nat.le_refl _
          · exact Nat.le_add_right _ _
        exact I1.fpOk hle (I1.hok.fresh hle)
      obtain ⟨its, rv, p1, _⟩ := I1.list hqx
      obtain ⟨its2, rv2, p2, _⟩ := I1.tuple hqy
      obtain ⟨o2, ho2, _⟩ := id p2
      refine zip_begins2 (begins_list a its.toArray) (begins_tuple b its2.toArray) p1.isList p2 fun h' hz hTI hTO h1 h2 hsz hk => wpAny_pyIter_zip hz ?_
      have I2 : Inv X pins σ H1 { s1 with heap := h' } := I1.kept (t' := s1.toks) hk
      exact ⟨s1.heap.objs.size + 4, [s1.heap.objs.size + 4, s1.heap.objs.size + 2, s1.heap.objs.size + 3, s1.heap.objs.size, s1.heap.objs.size + 1], _, _, H1, rfl, I2, turn_zipM (PySem.W.ktu_apart s1.heap.objs.size a b p1.lt (Heap.lt_size ho2)), ⟨hz, hTI, ⟨_, _, hTO⟩, ⟨_, h1, rfl, rfl⟩, ⟨_, h2, rfl, rfl⟩⟩, fresh5, q⟩
theorem walk_zipM {K : Frg} {a b : Addr} {xs ys : List V} {n : Nat} (hn : n = min xs.length ys.length) : Walk (ItzM K a b) n (fun H => SqL K H a xs ∧ SqT K H b ys) (YPair (fun i => xs[i]?) (fun i => ys[i]?)) := by
  subst hn
  refine ⟨fun i _ hi q => ?_, fun _ q => ⟨xs, ys, q.1, q.2, by omega, by omega, by omega⟩, fun i H v H' _ q y => ?_⟩
  · have h1 : i < xs.length := by omega
    have h2 : i < ys.length := by omega
    exact ⟨xs, ys, xs[i], ys[i], q.1, q.2, by simp [h1], by simp [h2]⟩
  · obtain ⟨T, x, z, h1, h2, h3, h4, h5⟩ := y
    exact ⟨T, x, z, h1, h2, h3, h4 xs q.1, h5 ys q.2⟩
end M

namespace M
open PySem PySem.Spec PyProof.Rows L2
/-! ### enumerate of a tuple -/
theorem meets_enumB {v : Value} {o : Obj} {H : Heap → Prop} (B : Begins v o H) :
    Meets (Builtin.«enumerate.__new__» ⟨[.type "enumerate", v], []⟩) (fun _ R s => H s.heap ∧
      R (.ok (.ret (.ref (s.heap.push o).objs.size))) { s with heap := (s.heap.push o).push { cls := .type "enumerate", data := .fields #[.none, .bool false, .ref s.heap.objs.size, rawInt 0, .none, .none] } }) :=
  .of_wp fun prog w A R s h => by
    obtain ⟨hp, g, d, tk, os⟩ := s; obtain ⟨h1, h⟩ := h
    have hsub := sub_enumerate
    have q1 : ∀ {A' : Around} {E : Value → Shared → Prop} {Q : Value → Shared → Prop}, Q (.ref hp.objs.size) ⟨hp.push o, g, d, tk, os⟩ → wpAny (model prog w) A' (pyIter v) Q E ⟨hp, g, d, tk, os⟩ :=
      fun q => B.iter prog w _ _ ⟨hp, g, d, tk, os⟩ _ h1 q
    wp_walk using q1
    first
      | exact ⟨_, rfl, h⟩
      | (refine wpAny_stack_any fun st => wpAny_pure ?_
         split
         · rename_i c _ _ _ _ _
           cases (c == Value.type "enumerate")
           · wp_walk using q1
             exact ⟨_, rfl, h⟩
           · wp_walk using q1
             exact ⟨_, rfl, h⟩
         · wp_walk using q1
           exact ⟨_, rfl, h⟩)
theorem call_enumT {prog : Program} {w : World} {A : Around} {E : Value → Shared → Prop} {s : Shared} {l : Addr} {items : Array Value} {Q : Value → Shared → Prop} (hL : s.heap.IsTuple l items)
    (h : ∀ h', IsEnum h' (s.heap.objs.size + 1) s.heap.objs.size 0 .none → h'.IsTupleIter s.heap.objs.size l 0 → h'.objs.size = s.heap.objs.size + 2 →
      (∀ b o, s.heap.get? b = some o → h'.get? b = some o) → Q (.ref (s.heap.objs.size + 1)) { s with heap := h' }) :
    wpAny (model prog w) A (call (.type "enumerate") [.ref l]) Q E s := by
  have B := begins_tuple l items
  refine callType_new F.called_enumerate (by decide) (F.typeCall_enumerate_1 _) (F.newCall_enumerate_1 _) (fun obj => F.args_object_init_2 obj _) F.entry_enumerate_new
    (meets_enumB B) ⟨hL, ?_⟩
  have hz : (s.heap.push { cls := .type "tuple_iterator", data := .fields #[.ref l, .int 0 0] }).objs.size = s.heap.objs.size + 1 := Heap.size_push ..
  show _ ∧ _
  rw [hz]
  have he : IsEnum ((s.heap.push { cls := .type "tuple_iterator", data := .fields #[.ref l, .int 0 0] }).push
      { cls := .type "enumerate", data := .fields #[.none, .bool false, .ref s.heap.objs.size, rawInt 0, .none, .none] }) (s.heap.objs.size + 1) s.heap.objs.size 0 .none := by
    have := Heap.get?_push_size (s.heap.push { cls := .type "tuple_iterator", data := .fields #[.ref l, .int 0 0] })
      (o := { cls := .type "enumerate", data := .fields #[.none, .bool false, .ref s.heap.objs.size, rawInt 0, .none, .none] }) rfl
    rw [hz] at this; exact this
  refine ⟨⟨_, he, rfl⟩, h _ he ⟨_, Heap.get?_push_of_some _ (Heap.get?_push_size _ rfl), rfl, rfl⟩ (by rw [Heap.size_push, hz]) fun b o x => Heap.get?_push_of_some _ (Heap.get?_push_of_some _ x)⟩
def IteT (K : Frg) (a : Addr) : It :=
  ⟨fun i H => ∃ (xs : List V) (x : V), SqT K H a xs ∧ xs[i]? = some x, fun i H v H' => ∃ T x, v = .ref T ∧ H T = none ∧ H' = upd H T (.tup [.int (i : Nat), x]) ∧ ∀ xs, SqT K H a xs → xs[i]? = some x, fun i H => ∃ xs : List V, SqT K H a xs ∧ xs.length = i⟩
theorem turn_enumT {P : Program} {w : World} {K : Frg} {elts : List Expr} {kk : Nat} {tpos : Pos} (a e it : Addr) (hae : a ≠ e) (hai : a ≠ it) :
    Turn P w K (.Tuple elts kk tpos) (IteT K a) [e, it] e (fun i h => (∃ old, IsEnum h e it ((i : Nat) : Int) old) ∧ h.IsTupleIter it a i ∧ e ≠ it) where
  mem := by simp
  obj := fun i h st b hb => by
    obtain ⟨⟨old, he⟩, ⟨o, ho, hc, hd⟩, _⟩ := st
    have e' : b = e ∨ b = it := by simpa using hb
    rcases e' with z | z
    · rw [z]; exact ⟨_, he, fun v q => nomatch q⟩
    · rw [z]; exact ⟨o, ho, fun v q => by rw [hd] at q; cases q⟩
  keep := fun i h h' st k => let ⟨⟨old, he⟩, hi, hne⟩ := st; ⟨⟨old, k e (by simp) _ he⟩, hi.at fun o q => k it (by simp) o q, hne⟩
  item := by
    intro X hP hw hK hc i pins s σ H E I hf st hg
    subst hP hw hK
    obtain ⟨⟨old, he⟩, hit, hne⟩ := st
    obtain ⟨xs, x, hq, hx⟩ := hg
    obtain ⟨its, rv, p, _⟩ := I.tuple hq
    obtain ⟨u, hu, ru⟩ := rv.get hx
    have hel : e < s.heap.objs.size := Heap.lt_size he
    have hil : it < s.heap.objs.size := by obtain ⟨_, q, _⟩ := hit; exact Heap.lt_size q
    have hh : X.A.in1.handled = none := I.ok.hd hc
    refine wpAny_pyNext_enum_itemD (Draws.tuple hh it a hai its.toArray) he ⟨hit, p⟩ (by rw [List.size_toArray]; exact (List.getElem?_eq_some_iff.mp hu).1) hne (by simp [hne, hae.symm]) fun v1 h' tk e1 ho st1 hT hsz hk => ?_
    have e1 : its[i]? = some v1 := by simpa using e1
    rw [hu] at e1
    cases e1
    refine ⟨_, rfl, wpAny_letOwnedTupleGo_enum (s := { s with heap := h', toks := tk + 1 }) ho fun h'' he' sb => ?_⟩
    have hT2 : h''.get? s.heap.objs.size = some { cls := .type "tuple", data := .seq #[.int i tk, u] } := (sb.2 _ (Nat.ne_of_gt hel)).trans hT
    have new : ObjOk X.prog X.w (upd H s.heap.objs.size (.tup [.int (i : Nat), x])) h'' s.heap.objs.size (.tup [.int (i : Nat), x]) :=
      ⟨by show 2 ≤ sizeLine; decide, [.int i tk, u], .cons ⟨_, rfl⟩ (.cons ru .nil), ⟨_, hT2, rfl, _, rfl⟩⟩
    have I1 : Inv X pins σ (upd H s.heap.objs.size (.tup [.int (i : Nat), x])) { s with heap := h'', toks := tk + 1 } :=
      I.turnedNew (t' := tk + 1) (ch := [e, it]) (fun b ob hb q => (sb.2 b (fun z => hb (by simp [z]))).trans (hk b ob (fun z => hb (by simp [z])) (fun z => hb (by simp [z])) q)) hf (Nat.le_refl _) new
    refine ⟨.ref s.heap.objs.size, _, I1, rfl, ⟨_, x, rfl, I.hok.fresh (Nat.le_refl _), rfl, fun ys hy => by rw [I.tuple_inj hy hq]; exact hx⟩, ⟨⟨u, ?_⟩, st1.1.at fun o q => (sb.2 it (Ne.symm hne)).trans q, hne⟩, fun b hb => ?_⟩
    · have e1 : ((i + 1 : Nat) : Int) = (i : Int) + 1 := by omega
      rw [e1]; exact he'
    · have hb' : b < s.heap.objs.size := by
        have e' : b = e ∨ b = it := by simpa using hb
        rcases e' with z | z
        · rw [z]; exact hel
        · rw [z]; exact hil
      rw [upd_ne (Nat.ne_of_lt hb')]
      exact (hf b hb).1
  done := by
    intro X hP hw hK hc i pins s σ H E I hf st hg
    subst hP hw hK
    obtain ⟨⟨old, he⟩, hit, hne⟩ := st
    obtain ⟨xs, hq, hx⟩ := hg
    obtain ⟨its, rv, p, _⟩ := I.tuple hq
    obtain ⟨f0, f1, f2, f3, f4, f5⟩ := hf it (by simp)
    have hl := rv.length
    have hh : X.A.in1.handled = none := I.ok.hd hc
    have hn : its.toArray.size = i := by rw [List.size_toArray]; omega
    exact wpAny_pyNext_enum_endD (Draws.tuple hh it a hai its.toArray) he ⟨by rw [hn]; exact hit, p⟩ fun h' eb => ⟨rfl, I.turned (t' := s.toks) (fun b o hb q => eb b o hb q) f0 f1 f3 f4 f5⟩
  self := fun A i s Q E st h => let ⟨⟨_, he⟩, _⟩ := st; wpAny_pyIter_enum he h
def iEnumA (K : Frg) (ta : TA) : TI := fun σ H R => ta σ H fun vs H1 => ∃ a xs, vs = [.ref a] ∧ ((SqL K H1 a xs ∧ R (Ite K a) H1) ∨ (SqT K H1 a xs ∧ R (IteT K a) H1))
theorem pi_enumA {X : Cx} {e : Expr} {ta : TA} {p pos tpos : Pos} {elts : List Expr} {kk : Nat} (hg : Gl X "enumerate") (hm : X.mg "enumerate" = none) (ha : PA X [e] ta) (hs : starEach [e] X.env = [(false, eval e X.env)] := by rfl) :
    PI X (.Tuple elts kk tpos) (.Call (.Name "enumerate" p) [e] [] pos) (iEnumA X.K ta) := by
  refine ⟨fun pins s σ H R I h => ?_⟩
  refine Call_ (ld_blt I hg hm boot_enumerate (PyProof.Rows.callWith_type1 (thn (ha.run pos pins s σ H _ I h) fun us s1 ⟨vs, H1, I1, r1, q1⟩ => ?_) hs rfl))
  obtain ⟨a, xs, ex, q⟩ := q1
  subst ex
  cases r1 with
  | cons r rr =>
    cases rr
    cases r
    have fresh2 : ∀ b ∈ [s1.heap.objs.size + 1, s1.heap.objs.size], FpOk X pins H1 b := fun b hb => by
      have e' : b = s1.heap.objs.size + 1 ∨ b = s1.heap.objs.size := by simpa using hb
      have hle : s1.heap.objs.size ≤ b := by
        rcases e' with z | z
        · rw [z]; exact Nat.le_add_right _ _
        · rw [z]; exact Nat.le_refl _
      exact I1.fpOk hle (I1.hok.fresh hle)
    rcases q with ⟨hq, q⟩ | ⟨hq, q⟩
    · obtain ⟨its, rv, p', hz⟩ := I1.list hq
      refine call_enumerate_list p'.isList fun h' he hit hsz hk => wpAny_pyIter_enum he ?_
      have I2 : Inv X pins σ H1 { s1 with heap := h' } := I1.kept (t' := s1.toks) hk
      exact ⟨s1.heap.objs.size + 1, [s1.heap.objs.size + 1, s1.heap.objs.size], _, _, H1, rfl, I2, turn_enum a (s1.heap.objs.size + 1) s1.heap.objs.size, ⟨⟨.none, he⟩, hit, Nat.succ_ne_self _⟩, fresh2, q⟩
    · obtain ⟨its, rv, p', _⟩ := I1.tuple hq
      obtain ⟨o2, ho2, _⟩ := id p'
      have hal := Heap.lt_size ho2
      refine call_enumT (show s1.heap.IsTuple a its.toArray from p') fun h' he hit hsz hk => wpAny_pyIter_enum he ?_
      have I2 : Inv X pins σ H1 { s1 with heap := h' } := I1.kept (t' := s1.toks) hk
      exact ⟨s1.heap.objs.size + 1, [s1.heap.objs.size + 1, s1.heap.objs.size], _, _, H1, rfl, I2, turn_enumT a (s1.heap.objs.size + 1) s1.heap.objs.size (Nat.ne_of_lt (Nat.lt_succ_of_lt hal)) (Nat.ne_of_lt hal), ⟨⟨.none, he⟩, hit, Nat.succ_ne_self _⟩, fresh2, q⟩
theorem walk_enumT {K : Frg} {a : Addr} {xs : List V} : Walk (IteT K a) xs.length (fun H => SqT K H a xs) (YPair (fun i => some (.int (i : Nat))) (fun i => xs[i]?)) := by
  refine ⟨fun i _ hi q => ⟨xs, xs[i], q, by simp [hi]⟩, fun _ q => ⟨xs, q, rfl⟩, fun i H v H' _ q y => ?_⟩
  obtain ⟨T, x, h1, h2, h3, h4⟩ := y
  exact ⟨T, .int (i : Nat), x, h1, h2, h3, rfl, h4 xs q⟩
def lEnumA (f : Ef) : Lf := fun env => (f env).bind fun r => match r.1 with
  | .list ds => some (pairs (irange 0 ds.length) ds, r.2)
  | .tuple ds => some (pairs (irange 0 ds.length) ds, r.2)
  | _ => none
theorem xi_enumA {X : Cx} {a : Expr} {fa : Ef} {pos p tpos : Pos} {elts : List Expr} {kk : Nat} (ha : XE X a fa) (hm : X.mg "enumerate" = none) (hg : Gl X "enumerate" := by rfl) (hs : starEach [a] X.env = [(false, eval a X.env)] := by rfl) : XI X (.Tuple elts kk tpos) (.Call (.Name "enumerate" p) [a] [] pos) (lEnumA fa) := by
  obtain ⟨t, h1, h2⟩ := ha.ex
  refine ⟨_, pi_enumA hg hm (pa_cons h1 pa_nil (by rw [hs]; rfl)) hs, fun G F env s H ds env' k e R q => ?_⟩
  unfold lEnumA at e
  obtain ⟨⟨d, e1⟩, h3, e⟩ := Option.bind_eq_some_iff.mp e
  refine h2 G F env s H d e1 k h3 _ fun F1 H1 v k1 s1 p1 => ?_
  cases p1 with
  | lst a1 b1 =>
    cases e
    refine ⟨_, _, rfl, .inl ⟨SqL.of (k1.fr _ _ a1), q F1 H1 _ k1 s1 (wk_pair walk_enum (by simp [irange, b1.length]) (fun G F env s H _ k e => SqL.of (k.fr _ _ (e _ _ a1))) (fun i v hi hv => ?_) fun i v _ hv => b1.get' hv)⟩⟩
    cases hv
    refine ⟨.int (i : Int), ?_, .int _⟩
    unfold irange
    rw [List.getElem?_map, List.getElem?_range (by rw [← b1.length]; exact hi)]
    simp
  | tup a1 b1 =>
    cases e
    refine ⟨_, _, rfl, .inr ⟨SqT.of (k1.fr _ _ a1), q F1 H1 _ k1 s1 (wk_pair walk_enumT (by simp [irange, b1.length]) (fun G F env s H _ k e => SqT.of (k.fr _ _ (e _ _ a1))) (fun i v hi hv => ?_) fun i v _ hv => b1.get' hv)⟩⟩
    cases hv
    refine ⟨.int (i : Int), ?_, .int _⟩
    unfold irange
    rw [List.getElem?_map, List.getElem?_range (by rw [← b1.length]; exact hi)]
    simp
  | _ => cases e
theorem wl_enumA {f : Ef} {env : En} {Q : List D → En → Prop} (h : WE f env fun x e => IsS x fun ds => Q (pairs (irange 0 ds.length) ds) e) : WL (lEnumA f) env Q := by
  obtain ⟨x, e, h1, h⟩ := h
  cases x with
  | list ds => exact ⟨_, e, by unfold lEnumA; rw [h1]; rfl, h⟩
  | tuple ds => exact ⟨_, e, by unfold lEnumA; rw [h1]; rfl, h⟩
  | _ => cases h
end M

namespace M
open PySem PySem.Spec PyProof.Rows L2
def ItzN (K : Frg) (a b : Addr) : It :=
  ⟨fun i H => ∃ (xs ys : List V) (x y : V), SqT K H a xs ∧ SqL K H b ys ∧ xs[i]? = some x ∧ ys[i]? = some y,
    fun i H v H' => ∃ T x y, v = .ref T ∧ H T = none ∧ H' = upd H T (.tup [x, y]) ∧ (∀ xs, SqT K H a xs → xs[i]? = some x) ∧ ∀ ys, SqL K H b ys → ys[i]? = some y,
    fun i H => ∃ xs ys : List V, SqT K H a xs ∧ SqL K H b ys ∧ (xs.length = i ∨ ys.length = i) ∧ i ≤ xs.length ∧ i ≤ ys.length⟩
theorem turn_zipN {P : Program} {w : World} {K : Frg} {elts : List Expr} {kk : Nat} {tpos : Pos} {a b z TI TO i1 i2 : Addr} (D : ZipApart z TI TO i1 i2 a b) :
    Turn P w K (.Tuple elts kk tpos) (ItzN K a b) [z, TI, TO, i1, i2] z (fun i h => IsZip h z TI TO .none ∧ IsTupOf2 h TI (.ref i1) (.ref i2) ∧ (∃ x y, IsTupOf2 h TO x y) ∧ h.IsTupleIter i1 a i ∧ h.IsListIter i2 b i) where
  mem := by simp
  obj := fun i h st c hc => by
    obtain ⟨hz, hTI, ⟨x, y, hTO⟩, ⟨o1, e1, _, d1⟩, ⟨o2, e2, _, d2⟩⟩ := st
    have e' : c = z ∨ c = TI ∨ c = TO ∨ c = i1 ∨ c = i2 := by simpa using hc
    rcases e' with q | q | q | q | q
    · rw [q]; exact ⟨_, hz, fun v q => nomatch q⟩
    · rw [q]; exact ⟨_, hTI, fun v q => nomatch q⟩
    · rw [q]; exact ⟨_, hTO, fun v q => nomatch q⟩
    · rw [q]; exact ⟨o1, e1, fun v q => by rw [d1] at q; cases q⟩
    · rw [q]; exact ⟨o2, e2, fun v q => by rw [d2] at q; cases q⟩
  keep := fun i h h' st k => by
    obtain ⟨hz, hTI, ⟨x, y, hTO⟩, h1, h2⟩ := st
    exact ⟨k z (by simp) _ hz, k TI (by simp) _ hTI, ⟨x, y, k TO (by simp) _ hTO⟩, h1.at fun o q => k i1 (by simp) o q, h2.at fun o q => k i2 (by simp) o q⟩
  item := by
    intro X hP hw hK hc i pins s σ H E I hf st hg
    subst hP hw hK
    obtain ⟨hz, hTI, ⟨x0, y0, hTO⟩, h1, h2⟩ := st
    obtain ⟨xs, ys, x, y, hqx, hqy, hx, hy⟩ := hg
    obtain ⟨its, rv, p, _⟩ := I.tuple hqx
    obtain ⟨its2, rv2, p2, _⟩ := I.list hqy
    obtain ⟨u, hu, ru⟩ := rv.get hx
    obtain ⟨u2, hu2, ru2⟩ := rv2.get hy
    have hzl : z < s.heap.objs.size := Heap.lt_size hz
    have hh : X.A.in1.handled = none := I.ok.hd hc
    refine wpAny_pyNext_zipD2_item (sep_of D) (Draws.tuple hh i1 a D.l1i1 its.toArray) (Draws.list hh i2 b D.l2i2 its2.toArray) hz hTI hTO ⟨h1, p⟩ ⟨h2, p2.isList⟩
      (by rw [List.size_toArray]; exact (List.getElem?_eq_some_iff.mp hu).1) (by rw [List.size_toArray]; exact (List.getElem?_eq_some_iff.mp hu2).1) fun v1 v2 h' tk e1 e2 z' TO' st1 st2 hT hsz hk => ?_
    have e1 : its[i]? = some v1 := by simpa using e1
    have e2 : its2[i]? = some v2 := by simpa using e2
    rw [hu] at e1
    rw [hu2] at e2
    cases e1
    cases e2
    refine ⟨_, rfl, wpAny_letOwnedTupleGo_zip (s := { s with heap := h', toks := tk }) z' fun h'' z'' sb => ?_⟩
    have hT2 : h''.get? s.heap.objs.size = some { cls := .type "tuple", data := .seq #[u, u2] } := (sb.2 _ (Nat.ne_of_gt hzl)).trans hT
    have new : ObjOk X.prog X.w (upd H s.heap.objs.size (.tup [x, y])) h'' s.heap.objs.size (.tup [x, y]) :=
      ⟨by show 2 ≤ sizeLine; decide, [u, u2], .cons ru (.cons ru2 .nil), ⟨_, hT2, rfl, _, rfl⟩⟩
    have I1 : Inv X pins σ (upd H s.heap.objs.size (.tup [x, y])) { s with heap := h'', toks := tk } :=
      I.turnedNew (t' := tk) (ch := [z, TI, TO, i1, i2]) (fun c o hb q => (sb.2 c (fun q' => hb (by simp [q']))).trans (hk c o (fun q' => hb (by simp [q'])) (fun q' => hb (by simp [q'])) (fun q' => hb (by simp [q'])) (fun q' => hb (by simp [q'])) q)) hf (Nat.le_refl _) new
    refine ⟨.ref s.heap.objs.size, _, I1, rfl, ⟨_, x, y, rfl, I.hok.fresh (Nat.le_refl _), rfl, fun l hl => by rw [I.tuple_inj hl hqx]; exact hx, fun l hl => by rw [I.list_inj hl hqy]; exact hy⟩, ⟨z'', ?_, ⟨u, u2, ?_⟩, ?_, ?_⟩, fun c hcm => ?_⟩
    · exact (sb.2 _ D.TIz).trans (hk _ _ D.TIz D.TITO D.TIi1 D.TIi2 hTI)
    · exact (sb.2 _ D.TOz).trans TO'
    · exact st1.1.at fun o q => (sb.2 _ D.i1z).trans q
    · exact st2.1.at fun o q => (sb.2 _ D.i2z).trans q
    · have hlt : c < s.heap.objs.size := by
        have e' : c = z ∨ c = TI ∨ c = TO ∨ c = i1 ∨ c = i2 := by simpa using hcm
        rcases e' with q | q | q | q | q
        · rw [q]; exact hzl
        · rw [q]; exact Heap.lt_size hTI
        · rw [q]; exact Heap.lt_size hTO
        · rw [q]; obtain ⟨_, e1, _⟩ := h1; exact Heap.lt_size e1
        · rw [q]; obtain ⟨_, e2, _⟩ := h2; exact Heap.lt_size e2
      rw [upd_ne (Nat.ne_of_lt hlt)]
      exact (hf c hcm).1
  done := by
    intro X hP hw hK hc i pins s σ H E I hf st hg
    subst hP hw hK
    obtain ⟨hz, hTI, ⟨x0, y0, hTO⟩, h1, h2⟩ := st
    obtain ⟨xs, ys, hqx, hqy, hend, hi1, hi2⟩ := hg
    obtain ⟨its, rv, p, _⟩ := I.tuple hqx
    obtain ⟨its2, rv2, p2, _⟩ := I.list hqy
    have l1 := rv.length
    have l2 := rv2.length
    have hh : X.A.in1.handled = none := I.ok.hd hc
    exact wpAny_pyNext_zipD2_end (sep_of D) (Draws.tuple hh i1 a D.l1i1 its.toArray) (Draws.list hh i2 b D.l2i2 its2.toArray) hz hTI hTO ⟨h1, p⟩ ⟨h2, p2.isList⟩
      (by rw [List.size_toArray]; omega) (by rw [List.size_toArray]; omega) (by rw [List.size_toArray, List.size_toArray]; omega) fun h' tk hk => ⟨rfl, I.turnedL (t' := tk) (ch := [z, TI, TO, i1, i2]) (fun c o hb q =>
      hk c o (fun q' => hb (by simp [q'])) (fun q' => hb (by simp [q'])) (fun q' => hb (by simp [q'])) (fun q' => hb (by simp [q'])) q) hf⟩
  self := fun A i s Q E st h => wpAny_pyIter_zip st.1 h
def iZipN (K : Frg) (ta : TA) : TI := fun σ H R => ta σ H fun vs H1 => ∃ a b xs ys, vs = [.ref a, .ref b] ∧ SqT K H1 a xs ∧ SqL K H1 b ys ∧ R (ItzN K a b) H1
theorem pi_zipN {X : Cx} {e e2 : Expr} {ta : TA} {p pos tpos : Pos} {elts : List Expr} {kk : Nat} (hg : Gl X "zip") (hm : X.mg "zip" = none) (ha : PA X [e, e2] ta)
    (hs : starEach [e, e2] X.env = (false, eval e X.env) :: starEach [e2] X.env := by rfl) (hpl : (backTo pos (starEach [e2] X.env)).any (·.1) = false := by rfl) :
    PI X (.Tuple elts kk tpos) (.Call (.Name "zip" p) [e, e2] [] pos) (iZipN X.K ta) := by
  refine ⟨fun pins s σ H R I h => ?_⟩
  refine Call_ (ld_blt I hg hm PyProof.Rows.boot_zip (PyProof.Rows.callWith_type1 (thn (ha.run pos pins s σ H _ I h) fun us s1 ⟨vs, H1, I1, r1, q1⟩ => ?_) hs hpl))
  obtain ⟨a, b, xs, ys, ex, hqx, hqy, q⟩ := q1
  subst ex
  cases r1 with
  | cons r rr =>
    cases rr with
    | cons r' rr =>
      cases rr
      cases r
      cases r'
      have fresh5 : ∀ c, c ∈ [s1.heap.objs.size + 4, s1.heap.objs.size + 2, s1.heap.objs.size + 3, s1.heap.objs.size, s1.heap.objs.size + 1] → FpOk X pins H1 c := fun c hcm => by
        have hle : s1.heap.objs.size ≤ c := by
          simp only [List.mem_cons, List.not_mem_nil, or_false] at hcm
          rcases hcm with z | z | z | z | z <;> rw [z]
          · exact Nat.le_add_right _ _
          · exact Nat.le_add_right _ _
          · exact Nat.le_add_right _ _
          · exact Nat.le_refl _
          · exact Nat.le_add_right _ _
        exact I1.fpOk hle (I1.hok.fresh hle)
      obtain ⟨its, rv, p1, _⟩ := I1.tuple hqx
      obtain ⟨its2, rv2, p2, _⟩ := I1.list hqy
      obtain ⟨o1, ho1, _⟩ := id p1
      refine zip_begins2 (begins_tuple a its.toArray) (begins_list b its2.toArray) p1 p2.isList fun h' hz hTI hTO h1 h2 hsz hk => wpAny_pyIter_zip hz ?_
      have I2 : Inv X pins σ H1 { s1 with heap := h' } := I1.kept (t' := s1.toks) hk
      exact ⟨s1.heap.objs.size + 4, [s1.heap.objs.size + 4, s1.heap.objs.size + 2, s1.heap.objs.size + 3, s1.heap.objs.size, s1.heap.objs.size + 1], _, _, H1, rfl, I2, turn_zipN (PySem.W.ktu_apart s1.heap.objs.size a b (Heap.lt_size ho1) p2.lt), ⟨hz, hTI, ⟨_, _, hTO⟩, ⟨_, h1, rfl, rfl⟩, ⟨_, h2, rfl, rfl⟩⟩, fresh5, q⟩
theorem walk_zipN {K : Frg} {a b : Addr} {xs ys : List V} {n : Nat} (hn : n = min xs.length ys.length) : Walk (ItzN K a b) n (fun H => SqT K H a xs ∧ SqL K H b ys) (YPair (fun i => xs[i]?) (fun i => ys[i]?)) := by
  subst hn
  refine ⟨fun i _ hi q => ?_, fun _ q => ⟨xs, ys, q.1, q.2, by omega, by omega, by omega⟩, fun i H v H' _ q y => ?_⟩
  · have h1 : i < xs.length := by omega
    have h2 : i < ys.length := by omega
    exact ⟨xs, ys, xs[i], ys[i], q.1, q.2, by simp [h1], by simp [h2]⟩
  · obtain ⟨T, x, z, h1, h2, h3, h4, h5⟩ := y
    exact ⟨T, x, z, h1, h2, h3, h4 xs q.1, h5 ys q.2⟩
/-! ### zip of two, each a list or a tuple -/
theorem pi_or {X : Cx} {tg it : Expr} {w1 w2 : TI} (h1 : PI X tg it w1) (h2 : PI X tg it w2) : PI X tg it (fun σ H R => w1 σ H R ∨ w2 σ H R) := ⟨fun pins s σ H R I h => h.elim (h1.run pins s σ H R I) (h2.run pins s σ H R I)⟩
def lZipA (f g : Ef) : Lf := fun env => (f env).bind fun r => (g r.2).bind fun q => match r.1, q.1 with
  | .list ds, .list es => some (pairs ds es, q.2)
  | .tuple ds, .tuple es => some (pairs ds es, q.2)
  | .list ds, .tuple es => some (pairs ds es, q.2)
  | .tuple ds, .list es => some (pairs ds es, q.2)
  | _, _ => none
theorem xi_zipA {X : Cx} {a b : Expr} {fa fb : Ef} {pos p tpos : Pos} {elts : List Expr} {kk : Nat} (ha : XE X a fa) (hb : XE X b fb) (hm : X.mg "zip" = none) (hg : Gl X "zip" := by rfl) (hs : starEach [a, b] X.env = (false, eval a X.env) :: starEach [b] X.env := by rfl) (hs2 : starEach [b] X.env = (false, eval b X.env) :: starEach [] X.env := by rfl)
    (hpl : (backTo pos (starEach [b] X.env)).any (·.1) = false := by rfl) : XI X (.Tuple elts kk tpos) (.Call (.Name "zip" p) [a, b] [] pos) (lZipA fa fb) := by
  obtain ⟨t, h1, h2⟩ := ha.ex
  obtain ⟨u, h3, h4⟩ := hb.ex
  have pa := pa_cons h1 (pa_cons h3 pa_nil hs2) hs
  refine ⟨_, pi_or (RZ.pi_zipA hg hm pa hs hpl) (pi_or (pi_zipM hg hm pa hs hpl) (pi_zipN hg hm pa hs hpl)), fun G F env s H ds env' k e R q => ?_⟩
  unfold lZipA at e
  obtain ⟨⟨d, e1⟩, h5, e⟩ := Option.bind_eq_some_iff.mp e
  obtain ⟨⟨d2, e2⟩, h6, e⟩ := Option.bind_eq_some_iff.mp e
  dsimp only at e h6
  split at e
  · cases e
    refine .inl (h2 G F env s H _ e1 k h5 _ fun F1 H1 v k1 s1 p1 => ?_)
    refine h4 G F1 e1 s H1 _ _ k1 h6 _ fun F2 H2 v2 k2 s2 p2 => ?_
    have p3 := Dt.mono s2 _ _ p1
    cases p3 with
    | lst a1 b1 =>
      cases p2 with
      | lst a2 b2 => exact ⟨_, _, _, _, rfl, .inl ⟨SqL.of (k2.fr _ _ a1), SqL.of (k2.fr _ _ a2), q F2 H2 _ k2 (s1.trans s2) (wk_pair (walk_zip rfl) (by rw [b1.length, b2.length]) (fun G F env s H _ k e => ⟨SqL.of (k.fr _ _ (e _ _ a1)), SqL.of (k.fr _ _ (e _ _ a2))⟩) (fun i v _ hv => b1.get' hv) fun i v _ hv => b2.get' hv)⟩⟩
  · cases e
    refine .inl (h2 G F env s H _ e1 k h5 _ fun F1 H1 v k1 s1 p1 => ?_)
    refine h4 G F1 e1 s H1 _ _ k1 h6 _ fun F2 H2 v2 k2 s2 p2 => ?_
    have p3 := Dt.mono s2 _ _ p1
    cases p3 with
    | tup a1 b1 =>
      cases p2 with
      | tup a2 b2 => exact ⟨_, _, _, _, rfl, .inr ⟨SqT.of (k2.fr _ _ a1), SqT.of (k2.fr _ _ a2), q F2 H2 _ k2 (s1.trans s2) (wk_pair (walk_zipT rfl) (by rw [b1.length, b2.length]) (fun G F env s H _ k e => ⟨SqT.of (k.fr _ _ (e _ _ a1)), SqT.of (k.fr _ _ (e _ _ a2))⟩) (fun i v _ hv => b1.get' hv) fun i v _ hv => b2.get' hv)⟩⟩
  · cases e
    refine .inr (.inl (h2 G F env s H _ e1 k h5 _ fun F1 H1 v k1 s1 p1 => ?_))
    refine h4 G F1 e1 s H1 _ _ k1 h6 _ fun F2 H2 v2 k2 s2 p2 => ?_
    have p3 := Dt.mono s2 _ _ p1
    cases p3 with
    | lst a1 b1 =>
      cases p2 with
      | tup a2 b2 => exact ⟨_, _, _, _, rfl, SqL.of (k2.fr _ _ a1), SqT.of (k2.fr _ _ a2), q F2 H2 _ k2 (s1.trans s2) (wk_pair (walk_zipM rfl) (by rw [b1.length, b2.length]) (fun G F env s H _ k e => ⟨SqL.of (k.fr _ _ (e _ _ a1)), SqT.of (k.fr _ _ (e _ _ a2))⟩) (fun i v _ hv => b1.get' hv) fun i v _ hv => b2.get' hv)⟩
  · cases e
    refine .inr (.inr (h2 G F env s H _ e1 k h5 _ fun F1 H1 v k1 s1 p1 => ?_))
    refine h4 G F1 e1 s H1 _ _ k1 h6 _ fun F2 H2 v2 k2 s2 p2 => ?_
    have p3 := Dt.mono s2 _ _ p1
    cases p3 with
    | tup a1 b1 =>
      cases p2 with
      | lst a2 b2 => exact ⟨_, _, _, _, rfl, SqT.of (k2.fr _ _ a1), SqL.of (k2.fr _ _ a2), q F2 H2 _ k2 (s1.trans s2) (wk_pair (walk_zipN rfl) (by rw [b1.length, b2.length]) (fun G F env s H _ k e => ⟨SqT.of (k.fr _ _ (e _ _ a1)), SqL.of (k.fr _ _ (e _ _ a2))⟩) (fun i v _ hv => b1.get' hv) fun i v _ hv => b2.get' hv)⟩
  · cases e
def seqD : D → Option (List D)
  | .list ds => some ds
  | .tuple ds => some ds
  | _ => none
theorem wl_zipA {f f' : Ef} {env : En} {Q : List D → En → Prop} (h : WE f env fun x e => WE f' e fun y e' => ∃ ds es, seqD x = some ds ∧ seqD y = some es ∧ Q (pairs ds es) e') : WL (lZipA f f') env Q := by
  obtain ⟨x, e, h1, y, e', h2, ds, es, hx, hy, q⟩ := h
  refine ⟨_, e', ?_, q⟩
  unfold lZipA
  cases x <;> cases y <;> (first | cases hx | cases hy | skip) <;> (first | cases hx | cases hy | skip) <;> simp [h1, h2]
/-! ### a text's index of another one -/
/-! ### i ** j of a greater i -/
end M

namespace M
open PySem PySem.Spec PyProof.Rows L2
/-! ### min and max of a list of data that are alike -/
def noNone (ds : List D) : Bool := ds.all fun d => match d with | .none => false | _ => true
theorem noNone_ok {ds : List D} (h : noNone ds = true) : ∀ d ∈ ds, d ≠ .none := fun d hd e => by
  have := List.all_eq_true.mp h d hd
  subst e
  cases this
theorem depthAll_le : ∀ {ds : List D} {n : Nat}, (∀ d ∈ ds, d.depth ≤ n) → PyData.depthAll ds ≤ n
  | [], n, _ => by unfold PyData.depthAll; omega
  | d :: ds, n, h => by
    have h1 := h d List.mem_cons_self
    have h2 := depthAll_le fun e he => h e (List.mem_cons_of_mem _ he)
    unfold PyData.depthAll
    omega
theorem best_mem {f : D → D → Bool} : ∀ (ds : List D) (d : D), ds.foldl (fun a y => if f y a then y else a) d ∈ d :: ds
  | [], d => List.mem_cons_self
  | e :: ds, d => by
    rw [List.foldl_cons]
    have h := best_mem (f := f) ds (if f e d then e else d)
    rcases List.mem_cons.mp h with h | h
    · rw [h]
      split
      · exact List.mem_cons_of_mem _ List.mem_cons_self
      · exact List.mem_cons_self
    · exact List.mem_cons_of_mem _ (List.mem_cons_of_mem _ h)
theorem best_mem' {f : D → D → Bool} (ds : List D) (d : D) : ds.foldl (fun a y => if f a y then y else a) d ∈ d :: ds := best_mem (f := fun y a => f a y) ds d
theorem dpAll_at {K : Frg} {H : Hp} : ∀ {xs : List V} {ds : List D}, DpAll K H xs ds → ∀ (i : Nat) (h1 : i < xs.length) (h2 : i < ds.length), Dp K H xs[i] ds[i]
  | [], _, _, i, h1, _ => by simp at h1
  | _ :: _, [], h, _, _, _ => by cases h
  | _ :: _, _ :: _, h, 0, _, _ => by cases h with | cons h1 t => exact h1
  | _ :: _, _ :: _, h, i + 1, h1, h2 => by
    cases h with
    | cons h3 t => exact dpAll_at t i (by simpa using h1) (by simpa using h2)
section
variable {X : Cx}
theorem best_post {pins : List (Addr × Obj)} {σ : L2.St} {H : Hp} {s : Shared} {xs : List V} {ds : List D} {its : List Value} {g : D} {Q : V → Hp → Prop} (I : Inv X pins σ H s) (rv : Vals xs its) (hd : DpAll X.K H xs ds) (hal : PySem.W.AllAlike ds) (hg : g ∈ ds) (q : ∀ p : V × D, p ∈ xs.zip ds → p.2 = g → Q p.1 H)
    {i : Nat} {v : Value} {h' : Heap} {tk : Nat} {bs : List Addr} (hi : its[i]? = some v) (hr : Reads h' v g bs) (hk : ∀ b o, s.heap.get? b = some o → h'.get? b = some o) :
    ∃ x H', Inv X pins σ H' { s with heap := h', toks := tk } ∧ RelV x v ∧ Q x H' := by
  have hlen := dpAll_len hd
  have hvl := rv.length
  have hil : i < its.length := (List.getElem?_eq_some_iff.mp hi).1
  obtain ⟨u, h1, h2⟩ := rv.get (i := i) (x := xs[i]'(by omega)) (List.getElem?_eq_getElem _)
  rw [hi] at h1
  cases h1
  have hD := dpAll_at hd i (by omega) (by omega)
  obtain ⟨as2, r2⟩ := Dp.reads I _ _ _ hD h2
  have e := PySem.W.alike_unique _ _ v _ _ (hal _ (List.getElem_mem _) _ hg) (PySem.W.reads_keeps hk r2) hr
  exact ⟨xs[i], H, I.kept hk, h2, q (xs[i], ds[i]'(by omega)) (List.mem_iff_getElem.mpr ⟨i, by rw [List.length_zip]; omega, by rw [List.getElem_zip]⟩) e⟩
end
/-! ### the rest by a number of either sign -/
/-! ### how often a list has a thing -/
section
variable {X : Cx}
end
/-! ### a list from its end to its beginning -/
end M

namespace M
open PySem PySem.Spec PyProof.Rows L2
/-! ### a tuple told with a new list at its end, and the list changed by the one who asked -/
def unT : List Ar → Option (List D × Nat)
  | [] => none
  | .r i :: as => match as with
    | [] => some ([], i)
    | _ :: _ => none
  | .v d :: as => (unT as).map fun r => (d :: r.1, r.2)
  | .o _ :: _ => none
def sRetT (fa : Af) : Sf := fun env => (fa env).bind fun r => (unT r.1).bind fun q => match r.2[q.2]? with
  | some (.own true ds) => if fits (q.1.length + 1) then some (.rp q.1 ds (r.2.set q.2 .no)) else none
  | _ => none
section
variable {X : Cx} {K : Frg} {st : Stmt} {rest es : List Stmt} {e a b : Expr} {f g : Sf} {fe fa fb : Ef} {pos : Pos}
end
section
variable {P : Program} {w : World} {K : Frg} {mg : Str → Option Value} {base : Heap}
end
/-! the one who asked: slot i holds what was told -/
abbrev Td := En → List D → List D → Option Out
section
variable {K : Frg} {G : Gm} {F : Hp} {env : En} {s : L2.St} {H H' : Hp} {i : Nat}
end
section
variable {X : Cx} {K : Frg} {st : Stmt} {rest sts : List Stmt} {e a b : Expr} {f : Sf} {fe : Ef} {pos : Pos} {i : Nat}
/-- from here on it is a value -/
def tdP (i : Nat) (f : Sf) : Td := fun env as ds => f (env.set i (.val (.tuple (as ++ [.list ds]))))
/-! statements that only look: they go on or hand back something flat -/
abbrev Gpu := En → Option (Option D)
def pNil : Gpu := fun _ => some none
def pSeq (f g : Gpu) : Gpu := fun env => (f env).bind fun r => match r with
  | none => g env
  | some d => some (some d)
def pRet (f : Ef) : Gpu := fun env => (eBor f env).map fun r => some r.1
def pIf (c : Bf) (f g : Gpu) : Gpu := fun env => (bBor c env).bind fun r => if r.1 then f env else g env
/-- a look at what was told, the told tuple a value for so long -/
def lookT (i : Nat) (env : En) (as ds : List D) : En := unowns (env.set i (.val (.tuple (as ++ [.list ds]))))
def tdG (i : Nat) (fp : Gpu) (fr : Td) : Td := fun env as ds => (fp (lookT i env as ds)).bind fun r => match r with
  | none => fr env as ds
  | some d => if flatD d then some (.rt d env) else none
/-- a parting -/
def thenS (fr : Sf) : Out → Option Out
  | .nx env1 => fr env1
  | o => some o
def tdIf (i : Nat) (c : Bf) (fa fb : Td) (fr : Sf) : Td := fun env as ds => (c (lookT i env as ds)).bind fun r => (if r.1 then fa env as ds else fb env as ds).bind (thenS fr)
/-! a whole number written down -/
/-- y = list(x[j]) -/
def tdK (i ik : Nat) (j : Int) (fr : Td) : Td := fun env as ds => if ixN (as.length + 1) j = some as.length ∧ ik ≠ i then fr (env.set ik (.val (.list ds))) as ds else none
def tdA (i : Nat) (j c : Int) (fr : Td) : Td := fun env as ds => if ixN (as.length + 1) j = some as.length ∧ fits (ds.length + 1) = true then fr env as (ds ++ [.int c]) else none
def tdC (i : Nat) (j : Int) (fr : Td) : Td := fun env as ds => if ixN (as.length + 1) j = some as.length then fr env as [] else none
/-- a, b = x: the list is the def's own -/
def tdU (i ia ib : Nat) (f : Sf) : Td := fun env as ds => match as with
  | [d] => if ia ≠ i ∧ ib ≠ i then f ((env.set ia (.val d)).set ib (.own true ds)) else none
  | _ => none
end
/-! what it leaves -/
def RetT (ars : List Ar) (e : En) (R : D → En → Prop) : Prop := ∃ as i ds, unT ars = some (as, i) ∧ e[i]? = some (.own true ds) ∧ fits (as.length + 1) = true ∧ R (.tuple (as ++ [.list ds])) (e.set i .no)
section
variable {env : En} {N : En → Prop} {R : D → En → Prop} {L : List D → En → Prop} {i ik : Nat} {as ds : List D} {j c : Int} {Q : Po} {A : Prop} {B : D → Prop}
theorem ws_retT {fa : Af} (h : WA fa env fun ars e => RetT ars e R) : WS (sRetT fa) env ⟨N, R, L⟩ := by
  obtain ⟨ars, e, h1, as, i, ds, h2, h3, h4, q⟩ := h
  exact ⟨.rp as ds (e.set i .no), by unfold sRetT; simp only [h1, h2, h3, h4, Option.bind_some, if_true], q⟩
theorem retT1 {a : D} (h : env[i]? = some (.own true ds)) (q : Nrm (env.set i .no) (R (.tuple [a, .list ds]))) : RetT [.v a, .r i] env R := ⟨[a], i, ds, rfl, h, rfl, q⟩
theorem retT2 {a b : D} (h : env[i]? = some (.own true ds)) (q : Nrm (env.set i .no) (R (.tuple [a, b, .list ds]))) : RetT [.v a, .v b, .r i] env R := ⟨[a, b], i, ds, rfl, h, rfl, q⟩
def WTd (f : Td) (env : En) (as ds : List D) (Q : Po) : Prop := ∃ o, f env as ds = some o ∧ Q.at o
def WPu (f : Gpu) (env : En) (A : Prop) (B : D → Prop) : Prop := ∃ r, f env = some r ∧ match r with
  | none => A
  | some d => B d
theorem wpu_nil (q : A) : WPu pNil env A B := ⟨none, rfl, q⟩
theorem wpu_seq {f g : Gpu} (h : WPu f env (WPu g env A B) B) : WPu (pSeq f g) env A B := by
  obtain ⟨r, h1, h2⟩ := h
  cases r with
  | none => obtain ⟨r, h3, q⟩ := h2; exact ⟨r, by unfold pSeq; rw [h1]; exact h3, q⟩
  | some d => exact ⟨some d, by unfold pSeq; rw [h1]; rfl, h2⟩
theorem wpu_ret {f : Ef} (h : WE (eBor f) env fun d _ => B d) : WPu (pRet f) env A B := by
  obtain ⟨d, e, h1, q⟩ := h
  exact ⟨some d, by unfold pRet; rw [h1]; rfl, q⟩
theorem wpu_if {c : Bf} {f g : Gpu} (h : WB (bBor c) env fun b _ => IfB b (WPu f env A B) (WPu g env A B)) : WPu (pIf c f g) env A B := by
  obtain ⟨b, e, h1, h2⟩ := h
  cases b with
  | true => obtain ⟨r, h3, q⟩ : WPu f env A B := h2; exact ⟨r, by unfold pIf; rw [h1]; exact h3, q⟩
  | false => obtain ⟨r, h3, q⟩ : WPu g env A B := h2; exact ⟨r, by unfold pIf; rw [h1]; exact h3, q⟩
theorem wtd_P {f : Sf} (h : Nrm (env.set i (.val (.tuple (as ++ [.list ds])))) fun e => WS f e Q) : WTd (tdP i f) env as ds Q := h
theorem wtd_G {fp : Gpu} {fr : Td} (h : Nrm (unowns (env.set i (.val (.tuple (as ++ [.list ds]))))) fun e => WPu fp e (WTd fr env as ds ⟨N, R, L⟩) fun d => flatD d = true ∧ R d env) : WTd (tdG i fp fr) env as ds ⟨N, R, L⟩ := by
  obtain ⟨r, h1, h2⟩ : WPu fp (lookT i env as ds) (WTd fr env as ds ⟨N, R, L⟩) fun d => flatD d = true ∧ R d env := h
  cases r with
  | none => obtain ⟨o, h3, q⟩ := h2; exact ⟨o, by unfold tdG; rw [h1]; exact h3, q⟩
  | some d => exact ⟨.rt d env, by unfold tdG; rw [h1]; simp only [Option.bind_some, h2.1, if_true], h2.2⟩
theorem wtd_If {gc : Bf} {fa fb : Td} {fr : Sf} (h : Nrm (unowns (env.set i (.val (.tuple (as ++ [.list ds]))))) fun e => WB (bBor gc) e fun b _ => IfB b (WTd fa env as ds ⟨fun e => WS fr e ⟨N, R, L⟩, R, L⟩) (WTd fb env as ds ⟨fun e => WS fr e ⟨N, R, L⟩, R, L⟩)) : WTd (tdIf i (bBor gc) fa fb fr) env as ds ⟨N, R, L⟩ := by
  obtain ⟨b, e, h1, h2⟩ : WB (bBor gc) (lookT i env as ds) fun b _ => IfB b (WTd fa env as ds ⟨fun e => WS fr e ⟨N, R, L⟩, R, L⟩) (WTd fb env as ds ⟨fun e => WS fr e ⟨N, R, L⟩, R, L⟩) := h
  have fin : ∀ o, (⟨fun e => WS fr e ⟨N, R, L⟩, R, L⟩ : Po).at o → ∃ o', thenS fr o = some o' ∧ (⟨N, R, L⟩ : Po).at o' := fun o q => by
    cases o with
    | nx e => exact q
    | rt d e => exact ⟨_, rfl, q⟩
    | rn d e => exact ⟨_, rfl, q⟩
    | rp d d2 e => exact ⟨_, rfl, q⟩
  cases b with
  | true =>
    obtain ⟨o, h3, q⟩ : WTd fa env as ds ⟨fun e => WS fr e ⟨N, R, L⟩, R, L⟩ := h2
    obtain ⟨o', h4, q'⟩ := fin o q
    exact ⟨o', by unfold tdIf; rw [h1]; simp only [Option.bind_some, if_true, h3]; exact h4, q'⟩
  | false =>
    obtain ⟨o, h3, q⟩ : WTd fb env as ds ⟨fun e => WS fr e ⟨N, R, L⟩, R, L⟩ := h2
    obtain ⟨o', h4, q'⟩ := fin o q
    exact ⟨o', by unfold tdIf; rw [h1]; simp only [Option.bind_some, Bool.false_eq_true, if_false, h3]; exact h4, q'⟩
theorem wtd_K {fr : Td} (h : ixN (as.length + 1) j = some as.length ∧ ik ≠ i) (q : Nrm (env.set ik (.val (.list ds))) fun e => WTd fr e as ds Q) : WTd (tdK i ik j fr) env as ds Q := by
  obtain ⟨o, h1, q⟩ : WTd fr (env.set ik (.val (.list ds))) as ds Q := q
  exact ⟨o, by unfold tdK; rw [if_pos h]; exact h1, q⟩
theorem wtd_A {fr : Td} (h : ixN (as.length + 1) j = some as.length) (hf : fits (ds.length + 1) = true) (q : WTd fr env as (ds ++ [.int c]) Q) : WTd (tdA i j c fr) env as ds Q := by
  obtain ⟨o, h1, q⟩ := q
  exact ⟨o, by unfold tdA; rw [if_pos ⟨h, hf⟩]; exact h1, q⟩
theorem wtd_C {fr : Td} (h : ixN (as.length + 1) j = some as.length) (q : WTd fr env as [] Q) : WTd (tdC i j fr) env as ds Q := by
  obtain ⟨o, h1, q⟩ := q
  exact ⟨o, by unfold tdC; rw [if_pos h]; exact h1, q⟩
theorem wtd_U {f : Sf} {ia ib : Nat} {d : D} (h : ia ≠ i ∧ ib ≠ i) (q : Nrm ((env.set ia (.val d)).set ib (.own true ds)) fun e => WS f e Q) : WTd (tdU i ia ib f) env [d] ds Q := by
  obtain ⟨o, h1, q⟩ : WS f ((env.set ia (.val d)).set ib (.own true ds)) Q := q
  exact ⟨o, by unfold tdU; dsimp only; rw [if_pos h]; exact h1, q⟩
end
/-! what a body hands back that isn't told -/
section
variable {p : D → Prop} {f g : Sf}
end
end M

namespace M
open PySem PySem.Spec PyProof.Rows L2
/-! ### a new list handed in to be changed, and forgotten -/
def valsA : List Ar → Option (List D)
  | [] => some []
  | .v d :: as => (valsA as).map fun r => d :: r
  | _ :: _ => none
def eCallN (g : Gf) (fl : Lf) (fa : Af) : Ef := fun env => (fl env).bind fun r => (fa r.2).bind fun q => (valsA q.1).bind fun ds => (g (.own false r.1 :: ds.map .val)).map fun w => (w.1, q.2)
section
variable {X : Cx} {k : Nat} {fx : Addr} {fd : FuncData} {ps : List Str} {x : Str} {p pos : Pos} {e : Expr} {es : List Expr} {fa : Af} {fl : Lf} {g : Gf}
end
theorem we_callN {env : En} {g : Gf} {fl : Lf} {fa : Af} {Q : D → En → Prop} (h : WL fl env fun ls e => WA fa e fun ars e2 => WO (valsA ars) fun ds => WG g (.own false ls :: ds.map .val) fun d _ => Q d e2) : WE (eCallN g fl fa) env Q := by
  obtain ⟨ls, e1, h1, ars, e2, h2, ds, h3, d, a', h4, q⟩ := h
  exact ⟨d, e2, by unfold eCallN; simp only [h1, h2, h3, h4, Option.bind_some, Option.map_some], q⟩
theorem vals_nil {Q : List D → Prop} (q : Q []) : WO (valsA []) Q := ⟨_, rfl, q⟩
theorem vals_v {d : D} {as : List Ar} {Q : List D → Prop} (h : WO (valsA as) fun ds => Q (d :: ds)) : WO (valsA (.v d :: as)) Q := by
  obtain ⟨ds, h1, q⟩ := h
  exact ⟨_, by unfold valsA; rw [h1]; rfl, q⟩
end M

namespace M
open PySem PySem.Spec PyProof.Rows L2

/-! ### refusals: a def that may raise -/
/-- an exception: its class, the field it bears -/
structure Xc where
  C : Addr
  fd : Option (Str × Int)
/-- it as a value, once it is caught -/
def xD (x : Xc) : D := .dict [(.int (x.C : Int), match x.fd with
  | none => .none
  | some p => .tuple [.str p.1, .int p.2])]
/-- how it lies while it flies: its dict is newer than H0 -/
def IsX (H0 F H : Hp) (x : Xc) (cls : Value) (d : Option Addr) : Prop := cls = .ref x.C ∧ match x.fd with
  | none => d = none
  | some p => ∃ a, d = some a ∧ H a = some (.xd [(p.1, .int p.2)]) ∧ F a = none ∧ H0 a = none
abbrev Ox := Out ⊕ (Xc × En)
abbrev Sfx := En → Option Ox
abbrev Efx := En → Option ((D × En) ⊕ (Xc × En))
def RSX (K : Frg) (G : Gm) (F : Hp) (E : Ends) (W : WX) : Ox → Prop
  | .inl o => RSx K G F E o
  | .inr (x, env) => ∀ F' s' H' cls d, Ok K G F' env s' H' → Same F F' → IsX G.H0 F' H' x cls d → W cls d s' H'
theorem RSX.up {K : Frg} {G : Gm} {F F' : Hp} {E : Ends} {W : WX} {o : Ox} (s : Same F F') (h : RSX K G F E W o) : RSX K G F' E W o := by
  cases o with
  | inl o => exact RSx.up (F := F) s h
  | inr p =>
    obtain ⟨x, env⟩ := p
    exact fun F2 s2 H2 cls d k e q => h F2 s2 H2 cls d k (s.trans e) q
section
variable {X : Cx}
theorem PS.imp {st : Stmt} {t u : TS} (h : PS X st t) (i : ∀ D s H, u D s H → t D s H) : PS X st u := ⟨fun pins s σ H D I q => h.run pins s σ H D I (i D σ H q)⟩
theorem PSs.imp {st : List Stmt} {t u : TS} (h : PSs X st t) (i : ∀ D s H, u D s H → t D s H) : PSs X st u := ⟨fun pins s σ H D I q => h.run pins s σ H D I (i D σ H q)⟩
theorem PE.imp {e : Expr} {t u : TE} (h : PE X e t) (i : ∀ s H Q, u s H Q → t s H Q) : PE X e u := ⟨fun pins s σ H Q I q => h.run pins s σ H Q I (i σ H Q q)⟩
variable {W : WX} {st : Stmt} {rest : List Stmt} {e : Expr} {f g : Sf} {fx gx : Sfx} {fe : Efx} {pos : Pos}
def sLift (f : Sf) : Sfx := fun env => (f env).map .inl
def sSeqX (f g : Sfx) : Sfx := fun env => (f env).bind fun o => match o with
  | .inl (.nx env1) => g env1
  | o => some o
def sIfX (c : Bf) (f g : Sfx) : Sfx := fun env => (c env).bind fun r => if r.1 then f r.2 else g r.2
/-! ### raise X('..') -/
def sRaise0 (C : Addr) : Sfx := fun env => some (.inr (⟨C, none⟩, env))
/-! ### a def that may raise -/
abbrev Gfx := List Sl → Option ((D × List Sl) ⊕ (Xc × List Sl))
section
variable {P : Program} {w : World} {K : Frg} {mg : Str → Option Value} {base : Heap}
end

/-! ### its call -/
def eCallX (g : Gfx) (fa : Af) : Efx := fun env => (fa env).bind fun r => match rSlots r.1 with
  | [] => (resArs r.2 r.1).bind fun args => (g args).map fun q => match q with
    | .inl (d, _) => .inl (d, r.2)
    | .inr (x, _) => .inr (x, r.2)
  | _ => none
def eUp (f : Efx) (h : D → En → Out) : Sfx := fun env => (f env).map fun r => match r with
  | .inl (d, e) => .inl (h d e)
  | .inr p => .inr p
def sExprX (f : Efx) : Sfx := eUp f fun _ e => .nx e
def sRetX (f : Efx) : Sfx := eUp f fun d e => .rt d e
def sSetX (i : Nat) (f : Efx) : Sfx := eUp f fun d e => .nx (e.set i (.val d))
/-! ### for, in a def that may raise -/
end

/-! ### except D as e: in the suite e is a value -/
section
variable {X : Cx} {x n : Str} {CD : Addr} {i : Nat} {body sts : List Stmt} {st0 : Stmt} {np pos pos' : Pos} {tb : WX → TS} {ts : TS}
end
/-- a reading that hangs on the mirror alone -/
def cS (K : Frg) (f : Sf) : TS := fun E s H => ∃ G F env o, Ok K G F env s H ∧ f env = some o ∧ RSx K G F E o
theorem XSs.can {X : Cx} {sts : List Stmt} {f : Sf} (h : XSs X sts f) : PSs X sts (cS X.K f) := by
  obtain ⟨t, h1, h2⟩ := h.ex
  exact PSs.imp h1 fun E s H ⟨G, F, env, o, k, e, q⟩ => h2 G F env s H o k e E q
def outNo (i : Nat) : Out → Out
  | .nx env => .nx (env.set i .no)
  | o => o
def sTry (cat : Addr → Bool) (i : Nat) (f : Sfx) (g : Sf) : Sf := fun env => (f env).bind fun r => match r with
  | .inl o => some o
  | .inr (x, env1) => if cat x.C then (g (env1.set i (.val (xD x)))).map (outNo i) else none
section
variable {X : Cx} {x n : Str} {CD : Addr} {body sts : List Stmt} {st0 : Stmt} {np pos pos' : Pos} {f : Sfx} {g : Sf}
end

/-! ### isinstance and fields of a caught exception -/
/-- what is told of an exception, by its class; of None it is no -/
def gIsO (tab : List (Addr × Bool)) : D → Option D
  | .none => some (.bool false)
  | .dict [(.int c, _)] => (tab.lookup c.toNat).map .bool
  | _ => none
/-- the classes' answers for one class cv, or for a row of them -/
def TabOk (K : Frg) (tab : List (Addr × Bool)) (cv : Value) : Prop := PySem.W.kitOne K (.type "NoneType") cv = some false ∧ ∀ r ∈ tab, ExcC K r.1 ∧ PySem.W.kitOne K (.ref r.1) cv = some r.2
def TabsOk (K : Frg) (tab : List (Addr × Bool)) (cvs : List Value) : Prop := PySem.W.kitAny K (.type "NoneType") cvs = some false ∧ ∀ r ∈ tab, ExcC K r.1 ∧ PySem.W.kitAny K (.ref r.1) cvs = some r.2
section
variable {X : Cx} {e : Expr} {f : Ef} {p pos p2 : Pos}
/-- a row of own classes -/
inductive PCs (X : Cx) : List Expr → List Value → Prop
  | nil : PCs X [] []
  | cons {y : Str} {p : Pos} {C : Addr} {es : List Expr} {cvs : List Value} (hm : X.mg y = some (.ref C)) (t : PCs X es cvs) (hg : Gl X y := by rfl) (hdb : (y == ("__debug__" : Str)) = false := by decide)
      (he : starEach (.Name y p :: es) X.env = (false, eval (.Name y p) X.env) :: starEach es X.env := by rfl) : PCs X (.Name y p :: es) (.ref C :: cvs)
theorem PCs.pa {es : List Expr} {cvs : List Value} (h : PCs X es cvs) : ∃ t, PA X es t ∧ ∃ cs, Paired ClsV cs cvs ∧ cs.length = es.length ∧ ∀ s H Q, Q cs H → t s H Q := by
  induction h with
  | nil => exact ⟨_, pa_nil, [], .nil, rfl, fun s H Q q => q⟩
  | @cons y p C es cvs hm t hg hdb he ih =>
    obtain ⟨u, h1, cs, h2, h3, h4⟩ := ih
    exact ⟨_, pa_cons (pe_glob (v := .ref C) hg hm rfl hdb) h1 he, .ref C :: cs, .cons (.own C) h2, by simp [h3], fun s H Q q => h4 s H _ q⟩
/-- e.f -/
def gAttr (C : Addr) (n : Str) : D → Option D
  | .dict [(.int c, .tuple [.str g, .int z])] => if decide (c = (C : Int)) && (g == n) then some (.int z) else none
  | _ => none
end
/-! ### the classes' facts -/
theorem any_cons {K : Frg} {t c : Value} {cs : List Value} {b r : Bool} (h : PySem.W.kitOne K t c = some b) (hr : PySem.W.kitAny K t cs = some r) : PySem.W.kitAny K t (c :: cs) = some (b || r) := by
  unfold PySem.W.kitAny
  rw [h]
  cases b with
  | true => rfl
  | false => exact hr
theorem TabOk.nil {K : Frg} {cv : Value} (h : PySem.W.kitOne K (.type "NoneType") cv = some false) : TabOk K [] cv := ⟨h, fun _ z => nomatch z⟩
theorem TabsOk.nil {K : Frg} {cvs : List Value} (h : PySem.W.kitAny K (.type "NoneType") cvs = some false) : TabsOk K [] cvs := ⟨h, fun _ z => nomatch z⟩
end M

namespace M
open PySem PySem.Spec PyProof.Rows L2
/-! ### rules about the mirrors of what may raise -/
structure Px where
  n : En → Prop
  r : D → En → Prop
  l : List D → En → Prop
  x : Xc → En → Prop
def Px.at (Q : Px) : Ox → Prop
  | .inl o => Po.at ⟨Q.n, Q.r, Q.l⟩ o
  | .inr (x, e) => Q.x x e
def WSX (f : Sfx) (env : En) (Q : Px) : Prop := ∃ o, f env = some o ∧ Q.at o
def WEX (f : Efx) (env : En) (Q : D → En → Prop) (X : Xc → En → Prop) : Prop := ∃ o, f env = some o ∧ match o with
  | .inl (d, e) => Q d e
  | .inr (x, e) => X x e
def WGX (g : Gfx) (args : List Sl) (Q : D → List Sl → Prop) (X : Xc → Prop) : Prop := ∃ o, g args = some o ∧ match o with
  | .inl (d, a) => Q d a
  | .inr (x, _) => X x
def CallGX (g : Gfx) (as : List Ar) (e : En) (Q : D → En → Prop) (X : Xc → En → Prop) : Prop := rSlots as = [] ∧ WO (resArs e as) fun args => WGX g args (fun d _ => Q d e) fun x => X x e
section
variable {env : En} {N : En → Prop} {R : D → En → Prop} {L : List D → En → Prop} {X : Xc → En → Prop} {f g : Sfx} {fe : Efx} {c : Bf} {i : Nat}
theorem WGX.mono {g : Gfx} {as : List Sl} {Q Q' : D → List Sl → Prop} {X X' : Xc → Prop} (h : WGX g as Q X) (m1 : ∀ d a, Q d a → Q' d a) (m2 : ∀ x, X x → X' x) : WGX g as Q' X' := by
  obtain ⟨o, h1, h2⟩ := h
  refine ⟨o, h1, ?_⟩
  cases o with
  | inl o => exact m1 _ _ h2
  | inr o => exact m2 _ h2
theorem wsx_lift {f : Sf} (h : WS f env ⟨N, R, L⟩) : WSX (sLift f) env ⟨N, R, L, X⟩ := by
  obtain ⟨o, h1, h2⟩ := h
  exact ⟨.inl o, by unfold sLift; rw [h1]; rfl, h2⟩
theorem wsx_seq (h : WSX f env ⟨fun e => WSX g e ⟨N, R, L, X⟩, R, L, X⟩) : WSX (sSeqX f g) env ⟨N, R, L, X⟩ := by
  obtain ⟨o, h1, h2⟩ := h
  cases o with
  | inr p => exact ⟨.inr p, by unfold sSeqX; rw [h1]; rfl, h2⟩
  | inl o =>
    cases o with
    | nx e =>
      obtain ⟨o, h3, h4⟩ : WSX g e ⟨N, R, L, X⟩ := h2
      exact ⟨o, by unfold sSeqX; rw [h1]; exact h3, h4⟩
    | rt d e => exact ⟨.inl (.rt d e), by unfold sSeqX; rw [h1]; rfl, h2⟩
    | rn d e => exact ⟨.inl (.rn d e), by unfold sSeqX; rw [h1]; rfl, h2⟩
    | rp as ds e => exact ⟨.inl (.rp as ds e), by unfold sSeqX; rw [h1]; rfl, h2⟩
theorem wsx_if (h : WB c env fun b e => IfB b (WSX f e ⟨N, R, L, X⟩) (WSX g e ⟨N, R, L, X⟩)) : WSX (sIfX c f g) env ⟨N, R, L, X⟩ := by
  obtain ⟨b, e, h1, h2⟩ := h
  cases b with
  | true => obtain ⟨o, h3, q⟩ : WSX f e ⟨N, R, L, X⟩ := h2; exact ⟨o, by unfold sIfX; rw [h1]; exact h3, q⟩
  | false => obtain ⟨o, h3, q⟩ : WSX g e ⟨N, R, L, X⟩ := h2; exact ⟨o, by unfold sIfX; rw [h1]; exact h3, q⟩
theorem wsx_raise0 {C : Addr} (h : X ⟨C, none⟩ env) : WSX (sRaise0 C) env ⟨N, R, L, X⟩ := ⟨_, rfl, h⟩
theorem wsx_up {h : D → En → Out} {Q : Px} (w : WEX fe env (fun d e => Q.at (.inl (h d e))) Q.x) : WSX (eUp fe h) env Q := by
  obtain ⟨o, h1, h2⟩ := w
  cases o with
  | inl o => exact ⟨.inl (h o.1 o.2), by unfold eUp; rw [h1]; rfl, h2⟩
  | inr o => exact ⟨.inr o, by unfold eUp; rw [h1]; rfl, h2⟩
theorem wsx_expr (h : WEX fe env (fun _ e => N e) X) : WSX (sExprX fe) env ⟨N, R, L, X⟩ := wsx_up h
theorem wsx_ret (h : WEX fe env R X) : WSX (sRetX fe) env ⟨N, R, L, X⟩ := wsx_up h
theorem wsx_set (h : WEX fe env (fun d e => Nrm (e.set i (.val d)) N) X) : WSX (sSetX i fe) env ⟨N, R, L, X⟩ := wsx_up h
theorem wex_call {g : Gfx} {fa : Af} {Q : D → En → Prop} (h : WA fa env fun as e => CallGX g as e Q X) : WEX (eCallX g fa) env Q X := by
  obtain ⟨as, e, h1, h2, args, h3, o, h4, h5⟩ := h
  cases o with
  | inl o => exact ⟨.inl (o.1, e), by unfold eCallX; simp [h1, h2, h3, h4], h5⟩
  | inr o => exact ⟨.inr (o.1, e), by unfold eCallX; simp [h1, h2, h3, h4], h5⟩
theorem cgx0 {g : Gfx} {as : List Ar} {Q : D → En → Prop} (hr : rSlots as = []) (h : WO (resArs env as) fun args => WGX g args (fun d _ => Q d env) fun x => X x env) : CallGX g as env Q X := ⟨hr, h⟩
theorem ws_try {cat : Addr → Bool} {g : Sf} (h : WSX f env ⟨N, R, L, fun x e => cat x.C = true ∧ WS g (e.set i (.val (xD x))) ⟨fun e => N (e.set i .no), R, L⟩⟩) : WS (sTry cat i f g) env ⟨N, R, L⟩ := by
  obtain ⟨o, h1, h2⟩ := h
  cases o with
  | inl o => exact ⟨o, by unfold sTry; rw [h1]; rfl, h2⟩
  | inr o =>
    obtain ⟨x, e⟩ := o
    obtain ⟨h3, o, h4, h5⟩ : cat x.C = true ∧ WS g (e.set i (.val (xD x))) ⟨fun e => N (e.set i .no), R, L⟩ := h2
    refine ⟨outNo i o, by unfold sTry; rw [h1]; simp [h3, h4], ?_⟩
    cases o <;> exact h5
theorem wo_isO {tab : List (Addr × Bool)} {x : Xc} {b : Bool} {Q : D → Prop} (h : tab.lookup x.C = some b) (q : Q (.bool b)) : WO (gIsO tab (xD x)) Q := ⟨_, by
  unfold gIsO xD
  obtain ⟨C, fd⟩ := x
  have : (Int.toNat (C : Int)) = C := rfl
  simp only [this, h]
  rfl, q⟩
theorem wo_isON {tab : List (Addr × Bool)} {Q : D → Prop} (q : Q (.bool false)) : WO (gIsO tab .none) Q := ⟨_, rfl, q⟩
theorem wo_attr {C : Addr} {n : Str} {z : Int} {Q : D → Prop} (q : Q (.int z)) : WO (gAttr C n (xD ⟨C, some (n, z)⟩)) Q := ⟨_, by unfold gAttr xD; simp, q⟩
end
end M

namespace M
open PySem PySem.Spec PyProof.Rows L2
/-! ### a list unpacked into names -/
def tTL (n : Nat) (r : List D → En → Option En) : Tf := fun d env => match d with
  | .list ds => if ds.length = n then r ds env else none
  | _ => none
theorem wt_unl {env : En} {n : Nat} {r : List D → En → Option En} {ds : List D} {Q : En → Prop} (hl : ds.length = n) (h : WTs r ds env Q) : WT (tTL n r) (.list ds) env Q := by
  obtain ⟨e, h, q⟩ := h
  exact ⟨e, by unfold tTL; simp [hl, h], q⟩
end M

namespace M
open PySem PySem.Spec PyProof.Rows L2
/-! ### dicts: keys as data -/
section
variable {P : Program} {w : World} {F H : Hp} {h : Heap}
end
def isTK (d : D) : Bool := match nkOf d with
  | some (.tup ks) => decide ((NestedKey.tup ks).depth ≤ 8)
  | _ => false
def isLK : D → Bool
  | .str _ => true
  | .int _ => true
  | _ => false
def kmode (kvs : List (D × D)) (kd : D) : Bool := (isTK kd && kvs.all fun p => isTK p.1) || (isLK kd && kvs.all fun p => isLK p.1)
def dFind (kvs : List (D × D)) (kd : D) : Option D := (kvs.find? fun p => decide (nkOf p.1 = nkOf kd)).map (·.2)
def dPut (kvs : List (D × D)) (kd vd : D) : List (D × D) := if (dFind kvs kd).isSome then kvs.map fun p => if nkOf p.1 = nkOf kd then (p.1, vd) else p else kvs ++ [(kd, vd)]
theorem isTK_some {d : D} (h : isTK d = true) : ∃ ks, nkOf d = some (.tup ks) ∧ (NestedKey.tup ks).depth ≤ 8 := by
  unfold isTK at h
  split at h
  · rename_i ks e
    exact ⟨ks, e, of_decide_eq_true h⟩
  · cases h
theorem tk_ref {F : Hp} {v : V} {d : D} (p : Dt F v d) (h : isTK d = true) : ∃ b, v = .ref b := by
  obtain ⟨ks, e, _⟩ := isTK_some h
  cases p with
  | tup s a => exact ⟨_, rfl⟩
  | lst s a => exact ⟨_, rfl⟩
  | xc s => exact ⟨_, rfl⟩
  | xf s a => exact ⟨_, rfl⟩
  | _ => unfold nkOf at e; cases e
/-- entries, data, the kit's entries -/
inductive T3 (F : Hp) (w : World) : List (Int × V × V) → List (D × D) → List (NestedKey × Addr × Value) → Prop
  | nil : T3 F w [] [] []
  | cons {e : Int × V × V} {p : D × D} {x : NestedKey × Addr × Value} {es ps xs} : nkOf p.1 = some x.1 → e.1 = x.1.hash w → e.2.1 = .ref x.2.1 → RelV e.2.2 x.2.2 → Dt F e.2.1 p.1 → Dt F e.2.2 p.2 → T3 F w es ps xs → T3 F w (e :: es) (p :: ps) (x :: xs)
section
variable {F : Hp} {w : World} {es : List (Int × V × V)} {kvs : List (D × D)} {xs : List (NestedKey × Addr × Value)}
theorem T3.len (t : T3 F w es kvs xs) : kvs.length = xs.length := by
  induction t with
  | nil => rfl
  | cons _ _ _ _ _ _ _ ih => simp [ih]
theorem T3.keys (t : T3 F w es kvs xs) : (kvs.map fun p => nkOf p.1) = (xs.map (·.1)).map some := by
  induction t with
  | nil => rfl
  | cons h1 h2 h3 h4 h5 h6 _ ih => rw [List.map_cons, List.map_cons, List.map_cons, ih, h1]
end
/-- what is known of a dict that is looked into -/
structure Look (H : Hp) (w : World) (a : Addr) (y : V) (F : Hp) (es : List (Int × V × V)) (kvs : List (D × D)) (kd : D) : Prop where
  sm : Same F H
  at' : H a = some (DicO a es)
  en : EntsOk F w es kvs
  key : Dt F y kd
  mode : kmode kvs kd = true
section
variable {P : Program} {w : World} {F H : Hp} {h : Heap} {a : Addr} {es : List (Int × V × V)} {kvs : List (D × D)}
end
/-! keys that are texts or numbers -/
def kOf : D → Option Key
  | .int i => some (.inl i)
  | .str x => some (.inr x)
  | _ => none
theorem kOf_nk {d : D} {k : Key} (h : kOf d = some k) : ∃ nk, nkOf d = some nk ∧ (∀ w : World, nk.hash w = keyH w k) ∧ ∀ (e : D) (j : Key), kOf e = some j → (nkOf e = some nk ↔ j = k) := by
  cases d <;> cases h
  · rename_i i
    refine ⟨.num i, by unfold nkOf; rfl, fun w => by unfold NestedKey.hash keyH; rfl, fun e j h => ?_⟩
    cases e <;> cases h
    · unfold nkOf
      exact ⟨fun h => by cases h; rfl, fun h => by cases h; rfl⟩
    · unfold nkOf
      exact ⟨fun h => (by cases h), fun h => (by cases h)⟩
  · rename_i x
    refine ⟨.text x, by unfold nkOf; rfl, fun w => by unfold NestedKey.hash keyH; rfl, fun e j h => ?_⟩
    cases e <;> cases h
    · unfold nkOf
      exact ⟨fun h => (by cases h), fun h => (by cases h)⟩
    · unfold nkOf
      exact ⟨fun h => by cases h; rfl, fun h => by cases h; rfl⟩
inductive L3 (F : Hp) (w : World) : List (Int × V × V) → List (D × D) → List (Key × Value) → Prop
  | nil : L3 F w [] [] []
  | cons {e : Int × V × V} {p : D × D} {x : Key × Value} {es ps xs} : kOf p.1 = some x.1 → e.1 = keyH w x.1 → e.2.1 = kV x.1 → RelV e.2.2 x.2 → Dt F e.2.1 p.1 → Dt F e.2.2 p.2 → L3 F w es ps xs → L3 F w (e :: es) (p :: ps) (x :: xs)
section
variable {F : Hp} {w : World} {es : List (Int × V × V)} {kvs : List (D × D)} {xs : List (Key × Value)}
theorem L3.nd (t : L3 F w es kvs xs) : (xs.map (·.1)).Nodup ↔ (kvs.map fun p => nkOf p.1).Nodup := by
  have mem : ∀ {es : List (Int × V × V)} {kvs : List (D × D)} {xs : List (Key × Value)}, L3 F w es kvs xs → ∀ {p : D} {k : Key}, kOf p = some k → (k ∈ xs.map (·.1) ↔ nkOf p ∈ kvs.map fun p => nkOf p.1) := by
    intro es kvs xs t p k hk
    obtain ⟨nk, n1, _, n3⟩ := kOf_nk hk
    induction t with
    | nil => simp
    | @cons e q x es ps xs h1 h2 h3 h4 h5 h6 _ ih =>
      rw [List.map_cons, List.map_cons, List.mem_cons, List.mem_cons, ih, n1]
      have := n3 q.1 x.1 h1
      constructor
      · rintro (h | h)
        · exact .inl (this.mpr h.symm).symm
        · exact .inr h
      · rintro (h | h)
        · exact .inl (this.mp h.symm).symm
        · exact .inr h
  induction t with
  | nil => simp
  | cons h1 h2 h3 h4 h5 h6 t ih =>
    rw [List.map_cons, List.map_cons, List.nodup_cons, List.nodup_cons]
    exact and_congr (not_congr (mem t h1)) ih
end
section
variable {P : Program} {w : World} {F H : Hp} {h : Heap} {a : Addr} {es : List (Int × V × V)} {kvs : List (D × D)}
end
/-! ### the operations -/
section
variable {X : Cx} {pins : List (Addr × Obj)} {σ : L2.St} {F H : Hp} {s : Shared} {a : Addr} {es : List (Int × V × V)} {kvs : List (D × D)} {kd dd : D} {y z : V} {u r : Value} {A : Around} {E : Value → Shared → Prop}
theorem Look.ref (L : Look H X.w a y F es kvs kd) (h : isTK kd = true) : ∃ b nk, y = .ref b ∧ nkOf kd = some nk ∧ nk.depth ≤ 8 := by
  obtain ⟨b, hb⟩ := tk_ref L.key h
  obtain ⟨ks, q1, q2⟩ := isTK_some h
  exact ⟨b, _, hb, q1, q2⟩
theorem Look.two (L : Look H X.w a y F es kvs kd) : (isTK kd = true ∧ (kvs.all fun p => isTK p.1) = true) ∨ (isLK kd = true ∧ (kvs.all fun p => isLK p.1) = true) := by
  have := L.mode
  unfold kmode at this
  rcases Bool.or_eq_true_iff.mp this with h | h
  · exact .inl (Bool.and_eq_true_iff.mp h)
  · exact .inr (Bool.and_eq_true_iff.mp h)
end
/-! ### readings -/
section
variable {X : Cx} {o i e f : Expr} {pos apos cpos : Pos} {td ty tx : TE}
end
/-! ### slots that hold dicts -/
open Classical in
noncomputable def eDGet2 (w : World) (i : Nat) (fk fx : Ef) : Ef := fun env => if isDct env i = true then (fk env).bind fun r => (fx r.2).bind fun q => match q.2[i]? with
  | some (.dct w' kvs) => if w' = w ∧ kmode kvs r.1 = true then some ((dFind kvs r.1).getD q.1, q.2) else none
  | _ => none
  else none
open Classical in
noncomputable def eDIdx (w : World) (i : Nat) (fk : Ef) : Ef := fun env => if isDct env i = true then (fk env).bind fun r => match r.2[i]? with
  | some (.dct w' kvs) => if w' = w ∧ kmode kvs r.1 = true then (dFind kvs r.1).map fun d => (d, r.2) else none
  | _ => none
  else none
open Classical in
noncomputable def eDIn (w : World) (i : Nat) (fk : Ef) : Ef := fun env => (fk env).bind fun r => match r.2[i]? with
  | some (.dct w' kvs) => if w' = w ∧ kmode kvs r.1 = true then some (.bool (dFind kvs r.1).isSome, r.2) else none
  | _ => none
open Classical in
noncomputable def sDPut (w : World) (i : Nat) (fk fv : Ef) : Sf := fun env => (fv env).bind fun r => if isDct r.2 i = true then (fk r.2).bind fun q => match q.2[i]? with
  | some (.dct w' kvs) => if w' = w ∧ kmode kvs q.1 = true ∧ kvs.length < 1000000 then some (.nx (q.2.set i (.dct w (dPut kvs q.1 r.1)))) else none
  | _ => none
  else none
def sDNew (w : World) (i : Nat) : Sf := fun env => some (.nx (env.set i (.dct w [])))
section
variable {K : Frg} {w : World} {ty tx : TE} {fk fx fv : Ef}
end
section
variable {X : Cx} {x : Str} {p2 p3 pos apos cpos : Pos} {e f ke : Expr} {fk fx fv : Ef}
end
/-! ### to reason about them -/
section
variable {env : En} {w : World} {i : Nat} {fk fx fv : Ef} {kvs : List (D × D)}
theorem we_dget2 {Q : D → En → Prop} {kvs0 : List (D × D)} (h0 : env[i]? = some (.dct w kvs0)) (h : WE fk env fun kd e1 => WE fx e1 fun dd e2 => ∃ kvs, e2[i]? = some (.dct w kvs) ∧ kmode kvs kd = true ∧ Q ((dFind kvs kd).getD dd) e2) : WE (eDGet2 w i fk fx) env Q := by
  obtain ⟨kd, e1, h1, dd, e2, h2, kvs, h3, h4, q⟩ := h
  refine ⟨_, e2, ?_, q⟩
  unfold eDGet2 isDct
  rw [h0]
  simp only [if_true, h1, h2, Option.bind_some, h3, h4, and_self]
theorem we_didx {Q : D → En → Prop} {kvs0 : List (D × D)} (h0 : env[i]? = some (.dct w kvs0)) (h : WE fk env fun kd e1 => ∃ kvs d, e1[i]? = some (.dct w kvs) ∧ kmode kvs kd = true ∧ dFind kvs kd = some d ∧ Q d e1) : WE (eDIdx w i fk) env Q := by
  obtain ⟨kd, e1, h1, kvs, d, h3, h4, h5, q⟩ := h
  refine ⟨d, e1, ?_, q⟩
  unfold eDIdx isDct
  rw [h0]
  simp only [if_true, h1, Option.bind_some, h3, h4, and_self, h5, Option.map_some]
theorem we_din {Q : D → En → Prop} (h : WE fk env fun kd e1 => ∃ kvs, e1[i]? = some (.dct w kvs) ∧ kmode kvs kd = true ∧ Q (.bool (dFind kvs kd).isSome) e1) : WE (eDIn w i fk) env Q := by
  obtain ⟨kd, e1, h1, kvs, h3, h4, q⟩ := h
  refine ⟨_, e1, ?_, q⟩
  unfold eDIn
  simp only [h1, Option.bind_some, h3, h4, and_self, if_true]
theorem ws_dput {N : En → Prop} {R : D → En → Prop} {L : List D → En → Prop} (h : WE fv env fun vd e1 => isDct e1 i = true ∧ WE fk e1 fun kd e2 => ∃ kvs, e2[i]? = some (.dct w kvs) ∧ kmode kvs kd = true ∧ kvs.length < 1000000 ∧ Nrm (e2.set i (.dct w (dPut kvs kd vd))) N) : WS (sDPut w i fk fv) env ⟨N, R, L⟩ := by
  obtain ⟨vd, e1, h1, h0, kd, e2, h2, kvs, h3, h4, h5, q⟩ := h
  refine ⟨.nx _, ?_, q⟩
  unfold sDPut
  simp only [h1, Option.bind_some, h0, if_true, h2, h3, h4, h5, and_self]
theorem ws_dnew {N : En → Prop} {R : D → En → Prop} {L : List D → En → Prop} (q : Nrm (env.set i (.dct w [])) N) : WS (sDNew w i) env ⟨N, R, L⟩ := ⟨.nx _, rfl, q⟩
end
end M

namespace M
open PySem PySem.Spec PyProof.Rows L2
/-! ### own lists as values while an expression runs whose answer holds no list -/
def eBorL (f : Ef) : Ef := fun env => (f (unowns env)).bind fun r => if lfree r.1 then some (r.1, env) else none
section
variable {K : Frg} {G : Gm} {F F' : Hp} {env env' : En} {s : L2.St} {H H' : Hp}
end
theorem we_borL {f : Ef} {env : En} {Q : D → En → Prop} (h : Nrm (unowns env) fun e => WE f e fun d _ => lfree d = true ∧ Q d env) : WE (eBorL f) env Q := by
  obtain ⟨d, e, h1, h2, q⟩ := h
  exact ⟨d, env, by unfold eBorL; rw [h1]; simp [h2], q⟩
end M

namespace M
open PySem PySem.Spec PyProof.Rows L2
/-! ### max of a tuple with a default -/
def rMaxTD (K : Frg) : List V → List V → Hp → VK → Prop := fun vs zs H Q => ∃ (a : Addr) (xs : List V) (ds : List D) (c : Int), vs = [V.ref a] ∧ zs = [V.int c] ∧ SqT K H a xs ∧ DpAll K H xs ds ∧ PySem.W.AllAlike ds ∧ noNone ds = true ∧ shallow ds = true ∧
  (ds = [] → Q (.int c) H) ∧ ∀ (d : D) (es : List D) (p : V × D), ds = d :: es → p ∈ xs.zip ds → p.2 = PySem.W.maxD d es → Q p.1 H
section
variable {X : Cx}
theorem cr_maxTD (hc : X.calm = true) (hu : X.A.units + 65 < cLine) : CallRK X (.builtin "max") [Str.ofString "default"] (rMaxTD X.K) := by
  intro pins s σ H vs zs us ws Q I r rz h
  obtain ⟨a, xs, ds, c, rfl, rfl, hs, hd, hal, hnn, hsh, q0, q⟩ := h
  obtain ⟨its, rv, hl, hz⟩ := I.tuple hs
  rw [Vals.ref1 r]
  obtain ⟨w1, rfl, hw⟩ := vals1 rz
  obtain ⟨as, hr⟩ := Dp.readsAll I ds xs its hd rv
  show wpAny (model X.prog X.w) X.A (call (.builtin "max") [.ref a] [(Str.ofString "default", w1)]) _ _ _
  refine PySem.W.max_tuple_default (I.ok.hd hc) (show s.heap.IsTuple a its.toArray from hl) (by simpa using hr) ⟨fun x hx y hy => hal x hx y hy, noNone_ok hnn⟩ ?_ (fun e h' tk hk => ?_) fun y ys i v h' tk bs e hi hrd hk => ?_
  · have := depthAll_le (ds := ds) (n := 60) fun e he => of_decide_eq_true (List.all_eq_true.mp hsh e he)
    omega
  · exact ⟨.int c, H, I.kept hk, hw, q0 e⟩
  · subst e
    exact best_post I rv hd hal (best_mem' ys y) (fun p hp e => q y ys p rfl hp e) (by simpa using hi) hrd hk
end
def gMaxD : D → D → Option D
  | .tuple ds, .int c => if alikeB ds && noNone ds && shallow ds then some (match ds with | [] => .int c | d :: es => PySem.W.maxD d es) else none
  | _, _ => none
theorem xe_maxD {X : Cx} {f g : Ef} {e a : Expr} {p pos kp : Pos} (hu : X.A.units + 65 < cLine) (hm : X.mg "max" = none) (ha : XE X e f) (hb : XE X a g) (hc : X.calm = true := by rfl) (hg : Gl X "max" := by rfl)
    (he : backTo pos (starEach [e] X.env) = (false, eval e X.env) :: backTo pos (starEach [] X.env) := by rfl) (hpl : (backTo pos (starEach [e] X.env)).any (·.1) = false := by rfl)
    (he0 : starEach [e] X.env = (false, eval e X.env) :: starEach [] X.env := by rfl)
    (hall : (backToKw pos (keywordEach [⟨some "default", a, kp⟩] X.env)).all (·.1.isSome) = true := by rfl) (hnone : (backToKw pos (keywordEach [⟨some "default", a, kp⟩] X.env)).any (·.1.isNone) = false := by rfl) (hks : (backToKw pos (keywordEach [⟨some "default", a, kp⟩] X.env)).filterMap (·.1) = [Str.ofString "default"] := by rfl) :
    XE X (.Call (.Name "max" p) [e] [⟨some "default", a, kp⟩] pos) (eBin gMaxD f g) := by
  obtain ⟨t, h1, h2⟩ := ha.ex
  obtain ⟨u, h3, h4⟩ := hb.ex
  refine ⟨_, pe_callBK (cr_maxTD hc hu) hg hm (by decide +kernel) (pa_cons h1 pa_nil he0) (pk_cons h3 pk_nil) (by decide) (by decide) he hpl hall hnone hks, fun G F env s H d env' k e Q q => ?_⟩
  unfold eBin at e
  obtain ⟨⟨d1, e1⟩, h5, e⟩ := Option.bind_eq_some_iff.mp e
  obtain ⟨⟨d2, e2⟩, h6, e⟩ := Option.bind_eq_some_iff.mp e
  obtain ⟨z, h7, e⟩ := Option.map_eq_some_iff.mp e
  cases e
  dsimp only at h6 h7
  refine h2 G F env s H _ e1 k h5 _ fun F1 H1 v k1 s1 p1 => ?_
  refine h4 G F1 e1 s H1 _ _ k1 h6 _ fun F2 H2 v2 k2 s2 p2 => ?_
  unfold gMaxD at h7
  split at h7
  · split at h7
    · rename_i hf
      cases h7
      rename_i ds c hX hY
      simp only [Bool.and_eq_true] at hf
      cases p2
      obtain ⟨p, vs, rfl, h8, h9⟩ : ∃ (p : Addr) (vs : List V), v = V.ref p ∧ F2 p = some (.tup vs) ∧ Da F2 vs ds := by
        cases Dt.mono s2 _ _ p1 with
        | tup a1 b1 => exact ⟨_, _, rfl, a1, b1⟩
      refine ⟨p, vs, ds, c, rfl, rfl, SqT.of (k2.fr _ _ h8), Da.dp _ _ (ndA_of fun d hd => nd_alike d (alikeB_ok hf.1.1 d hd d hd)) (Da.mono k2.fr _ _ h9), alikeB_ok hf.1.1, hf.1.2, hf.2, fun e => ?_, fun d0 es p' e hp ee => ?_⟩
      · subst e
        exact q F2 H2 _ k2 (s1.trans s2) (.int _)
      · subst e
        have := Da.zip h9 p' hp
        rw [ee] at this
        exact q F2 H2 _ k2 (s1.trans s2) this
    · cases h7
  · cases h7
theorem maxD_mem {xs : List Int} {x : Int} : ∃ z, PySem.W.maxD (.int x) (xs.map .int) = .int z ∧ z ∈ x :: xs ∧ ∀ y ∈ x :: xs, y ≤ z := by
  refine ⟨_, PySem.W.maxD_ints x xs, ?_, ?_⟩
  · induction xs generalizing x with
    | nil => exact List.mem_singleton.mpr rfl
    | cons y l ih =>
      rw [List.foldl_cons]
      rcases List.mem_cons.mp (ih (x := max x y)) with h | h
      · rcases Int.le_total x y with g | g
        · rw [h, Int.max_eq_right g]; exact List.mem_cons_of_mem _ List.mem_cons_self
        · rw [h, Int.max_eq_left g]; exact List.mem_cons_self
      · exact List.mem_cons_of_mem _ (List.mem_cons_of_mem _ h)
  · induction xs generalizing x with
    | nil => intro y hy; rw [List.mem_singleton] at hy; subst hy; exact Int.le_refl _
    | cons a l ih =>
      intro y hy
      rw [List.foldl_cons]
      have h0 := ih (x := max x a) (max x a) List.mem_cons_self
      rcases List.mem_cons.mp hy with rfl | hy
      · omega
      · rcases List.mem_cons.mp hy with rfl | hy
        · omega
        · exact ih (x := max x a) y (List.mem_cons_of_mem _ hy)
theorem wo_maxD {xs : List Int} {c : Int} {Q : D → Prop} (q0 : xs = [] → Q (.int c)) (q : ∀ z, z ∈ xs → (∀ y ∈ xs, y ≤ z) → Q (.int z)) : WO (gMaxD (.tuple (xs.map .int)) (.int c)) Q := by
  have hf : (alikeB (xs.map .int) && noNone (xs.map .int) && shallow (xs.map .int)) = true := by
    have h1 : alikeB (xs.map PyData.int) = true := by
      unfold alikeB
      rw [List.all_eq_true]
      intro a ha
      rw [List.all_eq_true]
      intro b hb
      obtain ⟨x, _, rfl⟩ := List.mem_map.mp ha
      obtain ⟨y, _, rfl⟩ := List.mem_map.mp hb
      rfl
    have h2 : noNone (xs.map PyData.int) = true := by
      unfold noNone
      rw [List.all_eq_true]
      intro a ha
      obtain ⟨x, _, rfl⟩ := List.mem_map.mp ha
      rfl
    have h3 : shallow (xs.map PyData.int) = true := by
      unfold shallow
      rw [List.all_eq_true]
      intro a ha
      obtain ⟨x, _, rfl⟩ := List.mem_map.mp ha
      exact decide_eq_true (by simp [PyData.depth])
    rw [h1, h2, h3]; rfl
  cases xs with
  | nil => exact ⟨_, by unfold gMaxD; dsimp only; rw [if_pos hf]; rfl, q0 rfl⟩
  | cons x xs =>
    obtain ⟨z, h1, h2, h3⟩ := maxD_mem (xs := xs) (x := x)
    exact ⟨.int z, by unfold gMaxD; dsimp only; rw [if_pos hf]; exact congrArg some h1, q z h2 h3⟩
end M

namespace M
open PySem PySem.Spec PyProof.Rows L2
/-! ### clocks as data -/
abbrev Hd := Int × Int × Str
def hD (h : Hd) : D := .tuple [.int h.1, .int h.2.1, .str h.2.2]
def isLk (x : Str) : Prop := ∃ c : Nat, 97 ≤ c ∧ c ≤ 122 ∧ x = ⟨#[c]⟩
def HandsOk (m : Int) (hs : List Hd) : Prop := ∀ h ∈ hs, 0 ≤ h.1 ∧ h.1 < m ∧ 0 ≤ h.2.1 ∧ h.2.1 < m ∧ isLk h.2.2
abbrev clockD (m : Int) (hs : List Hd) (b r : Bool) : D := .tuple [.int m, .tuple (hs.map hD), .bool b, .bool r]
def tO (o : List Nat) : D := .tuple (o.map fun (j : Nat) => PyData.int (j : Int))
/-! shapes -/
def Lay (n : Nat) (d : D) : Prop := d.canLay0 = true ∧ d.depth ≤ n
theorem lay_int {n : Nat} (i : Int) : Lay n (.int i) := ⟨rfl, Nat.zero_le _⟩
theorem lay_bool {n : Nat} (i : Bool) : Lay n (.bool i) := ⟨rfl, Nat.zero_le _⟩
theorem lay_lk {n : Nat} {x : Str} (h : isLk x) : Lay n (.str x) := by
  obtain ⟨c, h1, h2, rfl⟩ := h
  refine ⟨?_, Nat.zero_le _⟩
  have : ∀ k : Fin 26, PyData.strOk ⟨#[97 + k.val]⟩ = true := by decide +kernel
  have := this ⟨c - 97, by omega⟩
  rw [show 97 + (⟨c - 97, by omega⟩ : Fin 26).val = c from by show 97 + (c - 97) = c; omega] at this
  exact this
theorem lay_all {n : Nat} : ∀ {ds : List D}, (∀ d ∈ ds, Lay n d) → PyData.canLayAll0 ds = true ∧ PyData.depthAll ds ≤ n
  | [], _ => ⟨rfl, Nat.zero_le _⟩
  | d :: ds, h => by
    obtain ⟨h1, h2⟩ := h d List.mem_cons_self
    obtain ⟨h3, h4⟩ := lay_all (ds := ds) fun e he => h e (List.mem_cons_of_mem _ he)
    refine ⟨?_, ?_⟩
    · show (PyData.canLay0 d && PyData.canLayAll0 ds) = true
      rw [h1, h3]; rfl
    · show max d.depth (PyData.depthAll ds) ≤ n
      omega
theorem lay_tup {n : Nat} {ds : List D} (h : ∀ d ∈ ds, Lay n d) : Lay (n + 1) (.tuple ds) := by
  obtain ⟨h1, h2⟩ := lay_all h
  refine ⟨h1, ?_⟩
  show PyData.depthAll ds + 1 ≤ n + 1
  omega
theorem lay_lst {n : Nat} {ds : List D} (h : ∀ d ∈ ds, Lay n d) : Lay (n + 1) (.list ds) := by
  obtain ⟨h1, h2⟩ := lay_all h
  refine ⟨h1, ?_⟩
  show PyData.depthAll ds + 1 ≤ n + 1
  omega
theorem Lay.shp {n : Nat} {d : D} (h : Lay n d) (hn : n ≤ 64) : M.shp d = true := by
  unfold M.shp SeqAt.shaped
  rw [h.1, decide_eq_true (show d.depth ≤ 64 by have := h.2; omega)]
  rfl
theorem Lay.mono {n m : Nat} {d : D} (h : Lay n d) (hn : n ≤ m) : Lay m d := ⟨h.1, Nat.le_trans h.2 hn⟩
theorem lay_tO {n : Nat} (o : List Nat) : Lay (n + 1) (tO o) := lay_tup fun d hd => by
  obtain ⟨j, _, rfl⟩ := List.mem_map.mp hd
  exact lay_int _
theorem lay_all2 {n : Nat} {d e : D} (h1 : Lay n d) (h2 : Lay n e) : ∀ x ∈ [d, e], Lay n x := fun x hx => by
  simp only [List.mem_cons, List.not_mem_nil, or_false] at hx
  rcases hx with rfl | rfl
  · exact h1
  · exact h2
/-! letters -/
def letters : List Nat := [97, 98, 99, 100, 101, 102, 103, 104, 105, 106, 107, 108, 109, 110, 111, 112, 113, 114, 115, 116, 117, 118, 119, 120, 121, 122]
def lettersD : List D := letters.map fun c => .str ⟨#[c]⟩
theorem lettersD_mem {d : D} (h : d ∈ lettersD) : ∃ x, d = .str x ∧ isLk x := by
  unfold lettersD at h
  obtain ⟨c, hc, rfl⟩ := List.mem_map.mp h
  refine ⟨_, rfl, c, ?_, ?_, rfl⟩
  · have : ∀ c ∈ letters, 97 ≤ c := by decide
    exact this c hc
  · have : ∀ c ∈ letters, c ≤ 122 := by decide
    exact this c hc
theorem wo_letters {Q : List D → Prop} (q : Q lettersD) : WO (gListS (.str "abcdefghijklmnopqrstuvwxyz")) Q := by
  refine ⟨lettersD, ?_, q⟩
  have h1 : ("abcdefghijklmnopqrstuvwxyz" : Str).cps = letters.toArray := by decide +kernel
  unfold gListS signs
  dsimp only
  rw [h1]
  rfl
theorem eqv_str {x y : Str} : PyData.eqv (.str x) (.str y) = decide (x = y) := by
  unfold PyData.eqv
  by_cases h : x = y
  · subst h; simp
  · simp [h]
theorem wo_eqS {x y : Str} {Q : D → Prop} (hx : isLk x) (hy : isLk y) (q : Q (.bool (decide (x = y)))) : WO (gEq (.str x) (.str y)) Q :=
  wo_eqD ((lay_lk (n := 0) hx).shp (by omega)) ((lay_lk (n := 0) hy).shp (by omega)) (by rw [eqv_str]; exact q)
theorem wo_popAt {ds : List D} {k : Int} {Q : List D × D → Prop} (h0 : 0 ≤ k) (h1 : k < ds.length) (hl : ds.length < 4611686018427387904) (q : ∀ d, ds[k.toNat]? = some d → d ∈ ds → Q (ds.eraseIdx k.toNat, d)) : WO (mPopAt ds (.int k)) Q := by
  have hk : k.toNat < ds.length := by omega
  refine ⟨(ds.eraseIdx k.toNat, ds[k.toNat]), ?_, q _ (List.getElem?_eq_getElem hk) (List.getElem_mem _)⟩
  have e : seqIndex? k ds.length = some k.toNat := by
    unfold seqIndex?
    simp [show ¬ k < 0 by omega, h0, h1]
  unfold mPopAt
  dsimp only
  rw [if_pos (by simp; omega), e]
  simp [List.getElem?_eq_getElem hk]
theorem wo_pick2 {x y : Int} {b : Bool} {Q : D → Prop} (q : Q (.int (if b then y else x))) : WO (gIdx (.list [.int x, .int y]) (.int (if b then 1 else 0))) Q := by
  cases b
  · exact wo_idxE rfl q
  · exact wo_idxE rfl q
/-! ### swaps -/
def nextS (looks : List Str) (l : Str) (some_ : List Nat) : List (List Nat) := ((List.range looks.length).filter fun j => decide (j ∉ some_) && decide (looks[j]? = some l)).map fun j => some_ ++ [j]
def swapsGo (looks : List Str) : List Str → List (List Nat) → List (List Nat)
  | [], acc => acc
  | l :: ls, acc => swapsGo looks ls (acc.flatMap (nextS looks l))
def swapsL (looks : List Str) : List (List Nat) := swapsGo looks looks [[]]
theorem swapsGo_snoc (looks : List Str) (l : Str) : ∀ (ls : List Str) (acc : List (List Nat)), swapsGo looks (ls ++ [l]) acc = (swapsGo looks ls acc).flatMap (nextS looks l)
  | [], _ => rfl
  | k :: ls, acc => swapsGo_snoc looks l ls _
theorem flatMap_len {α β : Type} {f : α → List β} {n : Nat} : ∀ {l : List α}, (∀ x ∈ l, (f x).length ≤ n) → (l.flatMap f).length ≤ l.length * n
  | [], _ => by simp
  | x :: l, h => by
    rw [List.flatMap_cons, List.length_append, List.length_cons, Nat.add_mul, Nat.one_mul]
    have h1 := h x List.mem_cons_self
    have h2 := flatMap_len (l := l) fun y hy => h y (List.mem_cons_of_mem _ hy)
    omega
theorem nextS_len (looks : List Str) (l : Str) (o : List Nat) : (nextS looks l o).length ≤ looks.length := by
  unfold nextS
  rw [List.length_map]
  have := List.length_filter_le (fun j => decide (j ∉ o) && decide (looks[j]? = some l)) (List.range looks.length)
  rw [List.length_range] at this
  exact this
theorem swapsGo_len (looks : List Str) (hn : looks.length ≤ 5) : ∀ (k : Nat), k ≤ looks.length → (swapsGo looks (looks.take k) [[]]).length ≤ 5 ^ k
  | 0, _ => by simp [swapsGo]
  | k + 1, h => by
    have hk : k < looks.length := by omega
    rw [List.take_succ_eq_append_getElem hk, swapsGo_snoc]
    have ih := swapsGo_len looks hn k (by omega)
    have h2 := flatMap_len (f := nextS looks looks[k]) (n := 5) (l := swapsGo looks (looks.take k) [[]]) fun x _ => Nat.le_trans (nextS_len _ _ _) hn
    rw [Nat.pow_succ]
    omega
theorem pow5 {k : Nat} (h : k ≤ 5) : (5 : Nat) ^ k ≤ 3125 := by
  have := Nat.pow_le_pow_right (show 0 < 5 by omega) h
  exact this
/-- what holds of each swap -/
structure SwOk (n : Nat) (o : List Nat) : Prop where
  len : o.length = n
  lt : ∀ j ∈ o, j < n
  nd : o.Nodup
theorem swapsGo_ok (looks : List Str) : ∀ (k : Nat), k ≤ looks.length → ∀ o ∈ swapsGo looks (looks.take k) [[]], o.length = k ∧ (∀ j ∈ o, j < looks.length) ∧ o.Nodup ∧ ∀ i, i < k → ∃ j, o[i]? = some j ∧ looks[j]? = looks[i]?
  | 0, _, o, ho => by
    rw [List.take_zero] at ho
    simp only [swapsGo, List.mem_singleton] at ho
    subst ho
    exact ⟨rfl, fun j hj => (by cases hj), List.nodup_nil, fun i hi => absurd hi (Nat.not_lt_zero _)⟩
  | k + 1, h, o, ho => by
    have hk : k < looks.length := by omega
    rw [List.take_succ_eq_append_getElem hk, swapsGo_snoc] at ho
    obtain ⟨p, hp, hx⟩ := List.mem_flatMap.mp ho
    obtain ⟨h1, h2, h3, h4⟩ := swapsGo_ok looks k (by omega) p hp
    unfold nextS at hx
    obtain ⟨j, hj, rfl⟩ := List.mem_map.mp hx
    obtain ⟨hj1, hj2⟩ := List.mem_filter.mp hj
    simp only [Bool.and_eq_true, decide_eq_true_eq] at hj2
    refine ⟨by simp [h1], fun i hi => ?_, ?_, fun i hi => ?_⟩
    · rcases List.mem_append.mp hi with hi | hi
      · exact h2 i hi
      · rw [List.mem_singleton] at hi; subst hi; exact List.mem_range.mp hj1
    · refine List.nodup_append.mpr ⟨h3, by simp, fun a ha b hb e => ?_⟩
      rw [List.mem_singleton] at hb
      subst hb; subst e
      exact hj2.1 ha
    · by_cases hi' : i < k
      · obtain ⟨j', e1, e2⟩ := h4 i hi'
        exact ⟨j', by rw [List.getElem?_append_left (by omega)]; exact e1, e2⟩
      · have : i = k := by omega
        subst this
        refine ⟨j, by rw [List.getElem?_append_right (by omega), h1]; simp, ?_⟩
        rw [hj2.2, List.getElem?_eq_getElem hk]
theorem swapsL_ok {looks : List Str} {o : List Nat} (h : o ∈ swapsL looks) : SwOk looks.length o ∧ ∀ i, i < looks.length → ∃ j, o[i]? = some j ∧ looks[j]? = looks[i]? := by
  have := swapsGo_ok looks looks.length (Nat.le_refl _)
  rw [List.take_length] at this
  obtain ⟨h1, h2, h3, h4⟩ := this o h
  exact ⟨⟨h1, h2, h3⟩, h4⟩
/-! readings -/
abbrev Rd := List Nat × Bool
def rD (r : Rd) : D := .tuple [tO r.1, .bool r.2]
def readL (mir : Bool) (sw : List (List Nat)) : List Rd := sw.flatMap fun o => if mir then [(o, false), (o, true)] else [(o, false)]
theorem readL_snoc (mir : Bool) (sw : List (List Nat)) (o : List Nat) : readL mir (sw ++ [o]) = readL mir sw ++ (if mir then [(o, false), (o, true)] else [(o, false)]) := by
  unfold readL
  simp
theorem readL_len (mir : Bool) (sw : List (List Nat)) : (readL mir sw).length ≤ sw.length * 2 := by
  unfold readL
  exact flatMap_len fun x _ => by cases mir <;> simp
theorem readL_mem {mir : Bool} {sw : List (List Nat)} {r : Rd} (h : r ∈ readL mir sw) : r.1 ∈ sw ∧ (r.2 = true → mir = true) := by
  unfold readL at h
  obtain ⟨o, ho, hr⟩ := List.mem_flatMap.mp h
  cases mir
  · simp only [Bool.false_eq_true, if_false, List.mem_singleton] at hr; subst hr; exact ⟨ho, fun z => by cases z⟩
  · simp only [if_true, List.mem_cons, List.not_mem_nil, or_false] at hr
    rcases hr with rfl | rfl
    · exact ⟨ho, fun _ => rfl⟩
    · exact ⟨ho, fun _ => rfl⟩
abbrev looksOf (hs : List Hd) : List Str := hs.map fun h => h.2.2
abbrev readOf (hs : List Hd) (mir : Bool) : List Rd := readL mir (swapsL (looksOf hs))
/-! rows -/
abbrev Rw := Int × Int × Int
def rwD (r : Rw) : D := .tuple [.int r.1, .int r.2.1, .int r.2.2]
def sgn (mir : Bool) : Int := if mir then -1 else 1
def row1 (m : Int) (hs : List Hd) (mir : Bool) (j : Nat) (h : Hd) : Rw := ((hs.getD j (0, 0, ⟨#[]⟩)).1, sgn mir * h.1 % m, (sgn mir * h.2.1 - (hs.getD j (0, 0, ⟨#[]⟩)).2.1) % m)
def rows0 (m : Int) (hs : List Hd) (r : Rd) : List Rw := List.zipWith (row1 m hs r.2) r.1 hs
def lessR (m : Int) (a b : Rw) : Rw := ((a.1 - b.1) % m, (a.2.1 - b.2.1) % m, (a.2.2 - b.2.2) % m)
def rowsL (m : Int) (hs : List Hd) (bl : Bool) (r : Rd) : List Rw := if bl then (rows0 m hs r).tail.map (fun x => lessR m x ((rows0 m hs r).headD (0, 0, 0))) else rows0 m hs r
/-! ### rules for tuples of numbers of hands -/
theorem eqv_nat {a b : Nat} : PyData.eqv (.int (a : Int)) (.int (b : Int)) = decide (a = b) := by
  rw [eqv_int]
  exact decide_eq_decide.mpr ⟨fun h => by omega, fun h => by omega⟩
theorem any_tO (j : Nat) : ∀ o : List Nat, ((o.map fun (j : Nat) => PyData.int (j : Int)).any fun e => PyData.eqv e (.int (j : Int))) = decide (j ∈ o)
  | [] => by simp
  | a :: o => by
    rw [List.map_cons, List.any_cons, any_tO j o, eqv_nat, ← Bool.decide_or]
    refine decide_eq_decide.mpr ?_
    rw [List.mem_cons]
    constructor
    · rintro (h | h)
      · exact .inl h.symm
      · exact .inr h
    · rintro (h | h)
      · exact .inl h.symm
      · exact .inr h
theorem flat_tO (o : List Nat) : (o.map fun (j : Nat) => PyData.int (j : Int)).all flatD = true := by
  rw [List.all_map]
  exact List.all_eq_true.mpr fun _ _ => rfl
theorem wo_niO {j : Nat} {o : List Nat} {Q : D → Prop} (q : Q (.bool (decide (j ∉ o)))) : WO (gNi (.int (j : Int)) (tO o)) Q := by
  refine ⟨_, ?_, q⟩
  unfold gNi tO isIn
  dsimp only
  rw [if_pos (by rw [flat_tO]; rfl), any_tO]
  simp
theorem wo_inO {j : Nat} {o : List Nat} {Q : D → Prop} (q : Q (.bool (decide (j ∈ o)))) : WO (gIs (.int (j : Int)) (tO o)) Q := by
  refine ⟨_, ?_, q⟩
  unfold gIs tO isIn
  dsimp only
  rw [if_pos (by rw [flat_tO]; rfl), any_tO]
  rfl
theorem wo_idxHs {hs : List Hd} {j : Nat} {Q : D → Prop} (h : j < hs.length) (q : Q (hD hs[j])) : WO (gIdx (.tuple (hs.map hD)) (.int (j : Int))) Q := by
  refine wo_idxT (by omega) (by rw [List.length_map]; omega) fun d hd _ => ?_
  rw [List.getElem?_map, Int.toNat_natCast, List.getElem?_eq_getElem h] at hd
  cases hd
  exact q
theorem wo_addO {o : List Nat} {j : Nat} {Q : D → Prop} (h : o.length ≤ 1000000) (q : Q (tO (o ++ [j]))) : WO (gAdd (tO o) (.tuple [.int (j : Int)])) Q := by
  unfold tO
  refine wo_addT (fits_of (by simp; omega)) ?_
  unfold tO at q
  rw [List.map_append] at q
  exact q
theorem pairs_len (xs ys : List D) : (pairs xs ys).length = min xs.length ys.length := by unfold pairs; rw [List.length_map, List.length_zip]
theorem pairs_get {xs ys : List D} {k : Nat} {d : D} (h : (pairs xs ys)[k]? = some d) : ∃ x y, xs[k]? = some x ∧ ys[k]? = some y ∧ d = .tuple [x, y] := by
  unfold pairs at h
  rw [List.getElem?_map] at h
  cases hz : (xs.zip ys)[k]? with
  | none => rw [hz] at h; cases h
  | some p =>
    rw [hz] at h
    cases h
    obtain ⟨h1, h2⟩ := List.getElem?_zip_eq_some.mp hz
    exact ⟨_, _, h1, h2, rfl⟩
theorem getD_eq {α : Type} {l : List α} {j : Nat} {d : α} (h : j < l.length) : l.getD j d = l[j] := by
  rw [List.getD_eq_getElem?_getD, List.getElem?_eq_getElem h]
  rfl
def mapR (f : Rw → Rw) : D → D
  | .tuple [.int a, .int b, .int c] => rwD (f (a, b, c))
  | d => d
theorem mapR_rows (f : Rw → Rw) (rs : List Rw) : (rs.map rwD).map (mapR f) = (rs.map f).map rwD := by
  rw [List.map_map, List.map_map]
  rfl
/-! first numbers of the plain rows -/
def fstR : D → D
  | .tuple (a :: _) => a
  | d => d
theorem fstR_rows (rs : List Rw) : (rs.map rwD).map fstR = (rs.map (·.1)).map .int := by
  rw [List.map_map, List.map_map]
  rfl
theorem lay_rw {n : Nat} (r : Rw) : Lay (n + 1) (rwD r) := lay_tup fun d hd => by
  simp only [List.mem_cons, List.not_mem_nil, or_false] at hd
  rcases hd with rfl | rfl | rfl <;> exact lay_int _
theorem lay_rws {n : Nat} (rs : List Rw) : Lay (n + 2) (.list (rs.map rwD)) := lay_lst fun d hd => by
  obtain ⟨x, _, rfl⟩ := List.mem_map.mp hd
  exact lay_rw x
theorem wo_eqNil {n : Nat} {ds : List D} {Q : D → Prop} (h : Lay n (.list ds)) (q : Q (.bool ds.isEmpty)) (hn : n ≤ 64 := by omega) : WO (gEq (.list ds) (.list [])) Q := by
  refine wo_eqD (h.shp hn) rfl ?_
  cases ds with
  | nil => exact q
  | cons _ _ => exact q
/-- the greatest number that divides a dial and some numbers -/
structure Gd (m : Int) (ns : List Int) (g : Int) : Prop where
  pos : 0 < g
  dm : g ∣ m
  dn : ∀ n ∈ ns, g ∣ n
  all : ∀ d : Int, d ∣ m → (∀ n ∈ ns, d ∣ n) → d ∣ g
theorem Gd.uniq {m g h : Int} {ns : List Int} (x : Gd m ns g) (y : Gd m ns h) : g = h :=
  Int.dvd_antisymm (by have := x.pos; omega) (by have := y.pos; omega) (y.all g x.dm x.dn) (x.all h y.dm y.dn)
theorem Gd.start {m : Int} (hm : 0 < m) : Gd m [] m := ⟨hm, Int.dvd_refl _, fun n h => (by cases h), fun d h _ => h⟩
theorem Gd.step {m g n g' : Int} {ns : List Int} (x : Gd m ns g) (G : IsG g n g') : Gd m (ns ++ [n]) g' := by
  have hp := G.symm.ne x.pos
  refine ⟨hp, Int.dvd_trans G.da x.dm, fun y hy => ?_, fun d d1 d2 => G.all d (x.all d d1 fun y hy => d2 y (List.mem_append_left _ hy)) (d2 n (by simp))⟩
  rcases List.mem_append.mp hy with hy | hy
  · exact Int.dvd_trans G.da (x.dn y hy)
  · rw [List.mem_singleton] at hy; subst hy; exact G.db
theorem HandsOk.mono {m n : Int} {hs : List Hd} (h : HandsOk m hs) (hn : m ≤ n) : HandsOk n hs := fun x hx => by
  obtain ⟨h1, h2, h3, h4, h5⟩ := h x hx
  exact ⟨h1, by omega, h3, by omega, h5⟩
theorem irange_mem {lo : Int} {n : Nat} {d : D} (h : d ∈ irange lo n) : ∃ i : Int, d = .int i ∧ lo ≤ i ∧ i < lo + n := by
  unfold irange at h
  obtain ⟨k, h1, rfl⟩ := List.mem_map.mp h
  exact ⟨_, rfl, by omega, by have := List.mem_range.mp h1; omega⟩
theorem eqvAll_ints : ∀ xs ys : List Int, PyData.eqvAll (xs.map .int) (ys.map .int) = decide (xs = ys)
  | [], [] => by unfold PyData.eqvAll; rfl
  | [], y :: ys => by unfold PyData.eqvAll; rfl
  | x :: xs, [] => by unfold PyData.eqvAll; rfl
  | x :: xs, y :: ys => by
    show (PyData.eqv (.int x) (.int y) && PyData.eqvAll (xs.map .int) (ys.map .int)) = _
    rw [eqvAll_ints xs ys, eqv_int, ← Bool.decide_and]
    exact decide_eq_decide.mpr (by rw [List.cons.injEq])
theorem wo_eqInts {xs ys : List Int} {Q : D → Prop} (q : Q (.bool (decide (xs = ys)))) : WO (gEq (.list (xs.map .int)) (.list (ys.map .int))) Q :=
  wo_eqD (shp_ints xs) (shp_ints ys) (by
    have : PyData.eqv (.list (xs.map .int)) (.list (ys.map .int)) = decide (xs = ys) := by unfold PyData.eqv; exact eqvAll_ints xs ys
    rw [this]; exact q)
/-! ### what a reading takes for a tick -/
def takenB (m : Int) (R : List Rw) (t u : Int) : Bool := R.all fun r => decide ((r.1 * u - r.2.1 * t - r.2.2) % m = 0)
def tkR (m t u : Int) : D → Bool
  | .tuple [.int a, .int b, .int c] => decide ((a * u - b * t - c) % m = 0)
  | _ => false
theorem takenB_D (m t u : Int) (R : List Rw) : (R.map rwD).all (tkR m t u) = takenB m R t u := by
  unfold takenB
  rw [List.all_map]
  rfl
/-- a hand's turn by a reading -/
def turn1 (m : Int) (hs : List Hd) (mir : Bool) (t u : Int) (j : Nat) (h : Hd) : Int := ((hs.getD j (0, 0, ⟨#[]⟩)).2.1 + (hs.getD j (0, 0, ⟨#[]⟩)).1 * u - (if mir then 0 - (h.2.1 + h.1 * t) else h.2.1 + h.1 * t)) % m
def turnsL (m : Int) (hs : List Hd) (r : Rd) (t u : Int) : List Int := List.zipWith (turn1 m hs r.2 t u) r.1 hs
theorem row_turn {m : Int} {hs : List Hd} {mir : Bool} {t u : Int} {j : Nat} {h : Hd} : m ∣ (row1 m hs mir j h).1 * u - (row1 m hs mir j h).2.1 * t - (row1 m hs mir j h).2.2 - turn1 m hs mir t u j h := by
  unfold row1 turn1
  dsimp only
  generalize hs.getD j (0, 0, ⟨#[]⟩) = g
  have hsg : sgn mir = 1 ∧ mir = false ∨ sgn mir = -1 ∧ mir = true := by cases mir; exact .inl ⟨rfl, rfl⟩; exact .inr ⟨rfl, rfl⟩
  have e1 := Int.mul_ediv_add_emod (sgn mir * h.1) m
  have e2 := Int.mul_ediv_add_emod (sgn mir * h.2.1 - g.2.1) m
  have e3 := Int.mul_ediv_add_emod (g.2.1 + g.1 * u - (if mir then 0 - (h.2.1 + h.1 * t) else h.2.1 + h.1 * t)) m
  rcases hsg with ⟨a, b⟩ | ⟨a, b⟩
  · rw [b] at e3 ⊢
    simp only [Bool.false_eq_true, if_false] at e3 ⊢
    rw [show sgn false = 1 from rfl, Int.one_mul, Int.one_mul] at *
    rw [b] at e1 e2
    rw [show sgn false = 1 from rfl] at e1 e2
    rw [Int.one_mul] at e1 e2
    refine ⟨h.1 / m * t + (h.2.1 - g.2.1) / m + (g.2.1 + g.1 * u - (h.2.1 + h.1 * t)) / m, ?_⟩
    grind
  · rw [b] at e1 e2 e3 ⊢
    simp only [if_true] at e3 ⊢
    rw [show sgn true = -1 from rfl] at e1 e2 ⊢
    refine ⟨-1 * h.1 / m * t + (-1 * h.2.1 - g.2.1) / m + (g.2.1 + g.1 * u - (0 - (h.2.1 + h.1 * t))) / m, ?_⟩
    grind
theorem lay_rD {n : Nat} (r : Rd) : Lay (n + 2) (rD r) := lay_tup (lay_all2 (lay_tO _) (lay_bool _))
theorem lay_rDs {n : Nat} (rs : List Rd) : Lay (n + 3) (.list (rs.map rD)) := lay_lst fun d hd => by
  obtain ⟨x, _, rfl⟩ := List.mem_map.mp hd
  exact lay_rD x
end M

namespace Lw
open PySem PySem.Spec PyProof.Rows L2 M
def topS (i : Nat) : Stmt := PySem.Challenge.pw_dialdoubt_k48_whole_painted_beside_whole.main.body.getD i (.Pass ⟨0, 0, 0, 0⟩)
abbrev s_hand_asked : Stmt := topS 5
abbrev N_hand_asked : List Str := ["clock", "hand"]
theorem sc_hand_asked : FnScope N_hand_asked ["clock", "hand"] (defScope s_hand_asked) := ⟨rfl, rfl, rfl, by decide +kernel, rfl, by decide +kernel, by decide +kernel⟩
abbrev s_common_parts : Stmt := topS 9
abbrev N_common_parts : List Str := ["one", "other", "first", "second", "times", "rest", "a", "b"]
theorem sc_common_parts : FnScope N_common_parts ["one", "other"] (defScope s_common_parts) := ⟨rfl, rfl, rfl, by decide +kernel, rfl, by decide +kernel, by decide +kernel⟩
abbrev s_swaps_of : Stmt := topS 12
abbrev N_swaps_of : List Str := ["hands", "found", "gear", "start", "look", "longer", "some", "hand"]
theorem sc_swaps_of : FnScope N_swaps_of ["hands"] (defScope s_swaps_of) := ⟨rfl, rfl, rfl, by decide +kernel, rfl, by decide +kernel, by decide +kernel⟩
abbrev s_rows_of : Stmt := topS 14
abbrev N_rows_of : List Str := ["clock", "reading", "many", "hands", "blank", "mirror", "swap", "mirrored", "sign", "rows", "hand", "gear", "start", "look", "row", "one", "other"]
theorem sc_rows_of : FnScope N_rows_of ["clock", "reading"] (defScope s_rows_of) := ⟨rfl, rfl, rfl, by decide +kernel, rfl, by decide +kernel, by decide +kernel⟩
abbrev s_times_all : Stmt := topS 17
abbrev N_times_all : List Str := ["multipliers", "numbers", "by", "number"]
theorem sc_times_all : FnScope N_times_all ["multipliers", "numbers"] (defScope s_times_all) := ⟨rfl, rfl, rfl, by decide +kernel, rfl, by decide +kernel, by decide +kernel⟩
abbrev s_sets_of : Stmt := topS 23
abbrev N_sets_of : List Str := ["many", "size", "found", "turn", "longer", "some", "number"]
theorem sc_sets_of : FnScope N_sets_of ["many", "size"] (defScope s_sets_of) := ⟨rfl, rfl, rfl, by decide +kernel, rfl, by decide +kernel, by decide +kernel⟩
abbrev s_is_rising_in : Stmt := topS 29
abbrev N_is_rising_in : List Str := ["hands", "many", "number"]
theorem sc_is_rising_in : FnScope N_is_rising_in ["hands", "many"] (defScope s_is_rising_in) := ⟨rfl, rfl, rfl, by decide +kernel, rfl, by decide +kernel, by decide +kernel⟩
abbrev s__law_cells : Stmt := topS 32
abbrev N__law_cells : List Str := ["script", "many", "cells", "k", "cell"]
theorem sc__law_cells : FnScope N__law_cells ["script", "many"] (defScope s__law_cells) := ⟨rfl, rfl, rfl, by decide +kernel, rfl, by decide +kernel, by decide +kernel⟩
abbrev s__law_pool : Stmt := topS 33
abbrev N__law_pool : List Str := ["cells", "k", "cell", "rest"]
theorem sc__law_pool : FnScope N__law_pool ["cells", "k"] (defScope s__law_pool) := ⟨rfl, rfl, rfl, by decide +kernel, rfl, by decide +kernel, by decide +kernel⟩
abbrev s__law_take : Stmt := topS 34
abbrev N__law_take : List Str := ["pool", "many", "found"]
theorem sc__law_take : FnScope N__law_take ["pool", "many"] (defScope s__law_take) := ⟨rfl, rfl, rfl, by decide +kernel, rfl, by decide +kernel, by decide +kernel⟩
abbrev s__law_power : Stmt := topS 37
abbrev N__law_power : List Str := ["base", "times", "found", "turn"]
theorem sc__law_power : FnScope N__law_power ["base", "times"] (defScope s__law_power) := ⟨rfl, rfl, rfl, by decide +kernel, rfl, by decide +kernel, by decide +kernel⟩
abbrev s__law_sets : Stmt := topS 42
abbrev N__law_sets : List Str := ["count", "size", "found", "turn", "longer", "some", "number"]
theorem sc__law_sets : FnScope N__law_sets ["count", "size"] (defScope s__law_sets) := ⟨rfl, rfl, rfl, by decide +kernel, rfl, by decide +kernel, by decide +kernel⟩
abbrev s_hands_asked : Stmt := topS 6
abbrev N_hands_asked : List Str := ["clock", "some", "at", "hand"]
theorem sc_hands_asked : FnScope N_hands_asked ["clock", "some"] (defScope s_hands_asked) := ⟨rfl, rfl, rfl, by decide +kernel, rfl, by decide +kernel, by decide +kernel⟩
abbrev s_weights_of : Stmt := topS 10
abbrev N_weights_of : List Str := ["many", "numbers", "greatest", "found", "number", "times", "more", "weight"]
theorem sc_weights_of : FnScope N_weights_of ["many", "numbers"] (defScope s_weights_of) := ⟨rfl, rfl, rfl, by decide +kernel, rfl, by decide +kernel, by decide +kernel⟩
abbrev s_readings_of : Stmt := topS 13
abbrev N_readings_of : List Str := ["clock", "found", "swap"]
theorem sc_readings_of : FnScope N_readings_of ["clock"] (defScope s_readings_of) := ⟨rfl, rfl, rfl, by decide +kernel, rfl, by decide +kernel, by decide +kernel⟩
abbrev s_is_taken : Stmt := topS 15
abbrev N_is_taken : List Str := ["clock", "reading", "tick", "other", "a", "b", "c"]
theorem sc_is_taken : FnScope N_is_taken ["clock", "reading", "tick", "other"] (defScope s_is_taken) := ⟨rfl, rfl, rfl, by decide +kernel, rfl, by decide +kernel, by decide +kernel⟩
abbrev s_put_together : Stmt := topS 20
abbrev N_put_together : List Str := ["many", "row", "rows", "at", "one"]
theorem sc_put_together : FnScope N_put_together ["many", "row", "rows"] (defScope s_put_together) := ⟨rfl, rfl, rfl, by decide +kernel, rfl, by decide +kernel, by decide +kernel⟩
abbrev s__law_some : Stmt := topS 35
abbrev N__law_some : List Str := ["pool", "menu", "many", "rest", "k"]
theorem sc__law_some : FnScope N__law_some ["pool", "menu", "many"] (defScope s__law_some) := ⟨rfl, rfl, rfl, by decide +kernel, rfl, by decide +kernel, by decide +kernel⟩
abbrev s__law_wide : Stmt := topS 36
abbrev N__law_wide : List Str := ["pool", "base", "found", "turn"]
theorem sc__law_wide : FnScope N__law_wide ["pool", "base"] (defScope s__law_wide) := ⟨rfl, rfl, rfl, by decide +kernel, rfl, by decide +kernel, by decide +kernel⟩
abbrev s_painted_hands : Stmt := topS 7
abbrev N_painted_hands : List Str := ["clock", "some", "many", "hands", "blank", "mirror", "found", "taken", "hand", "fresh", "gear", "start", "look", "letter"]
theorem sc_painted_hands : FnScope N_painted_hands ["clock", "some"] (defScope s_painted_hands) := ⟨rfl, rfl, rfl, by decide +kernel, rfl, by decide +kernel, by decide +kernel⟩
abbrev s_cleared_of : Stmt := topS 18
abbrev N_cleared_of : List Str := ["many", "numbers", "greatest", "weights", "found", "at", "number", "times", "weight", "to"]
theorem sc_cleared_of : FnScope N_cleared_of ["many", "numbers"] (defScope s_cleared_of) := ⟨rfl, rfl, rfl, by decide +kernel, rfl, by decide +kernel, by decide +kernel⟩
abbrev s_is_doubt : Stmt := topS 24
abbrev N_is_doubt : List Str := ["clock", "doubt", "tick", "other", "reading"]
theorem sc_is_doubt : FnScope N_is_doubt ["clock", "doubt"] (defScope s_is_doubt) := ⟨rfl, rfl, rfl, by decide +kernel, rfl, by decide +kernel, by decide +kernel⟩
abbrev s__law_dial : Stmt := topS 38
abbrev N__law_dial : List Str := ["pool", "way"]
theorem sc__law_dial : FnScope N__law_dial ["pool"] (defScope s__law_dial) := ⟨rfl, rfl, rfl, by decide +kernel, rfl, by decide +kernel, by decide +kernel⟩
abbrev s__law_mark : Stmt := topS 39
abbrev N__law_mark : List Str := ["pool", "many", "way", "part"]
theorem sc__law_mark : FnScope N__law_mark ["pool", "many"] (defScope s__law_mark) := ⟨rfl, rfl, rfl, by decide +kernel, rfl, by decide +kernel, by decide +kernel⟩
abbrev s_reading_doubt : Stmt := topS 19
abbrev N_reading_doubt : List Str := ["many", "rows", "ones", "dues", "nought", "weights", "greatest", "row", "gaps", "ends", "empty", "again", "common", "end", "gap", "a", "b", "c"]
theorem sc_reading_doubt : FnScope N_reading_doubt ["many", "rows"] (defScope s_reading_doubt) := ⟨rfl, rfl, rfl, by decide +kernel, rfl, by decide +kernel, by decide +kernel⟩
abbrev s_are_doubts : Stmt := topS 28
abbrev N_are_doubts : List Str := ["clocks", "doubts", "clock", "doubt"]
theorem sc_are_doubts : FnScope N_are_doubts ["clocks", "doubts"] (defScope s_are_doubts) := ⟨rfl, rfl, rfl, by decide +kernel, rfl, by decide +kernel, by decide +kernel⟩
abbrev s__law_hands : Stmt := topS 40
abbrev N__law_hands : List Str := ["pool", "many", "count", "mirror", "letters", "patterns", "pattern", "found", "at"]
theorem sc__law_hands : FnScope N__law_hands ["pool", "many", "count", "mirror"] (defScope s__law_hands) := ⟨rfl, rfl, rfl, by decide +kernel, rfl, by decide +kernel, by decide +kernel⟩
abbrev s_whole_paper : Stmt := topS 21
abbrev N_whole_paper : List Str := ["clock", "many", "papers", "reading", "found"]
theorem sc_whole_paper : FnScope N_whole_paper ["clock"] (defScope s_whole_paper) := ⟨rfl, rfl, rfl, by decide +kernel, rfl, by decide +kernel, by decide +kernel⟩
abbrev s__law_clock : Stmt := topS 41
abbrev N__law_clock : List Str := ["pool", "many", "most", "mirror", "count"]
theorem sc__law_clock : FnScope N__law_clock ["pool", "many", "most"] (defScope s__law_clock) := ⟨rfl, rfl, rfl, by decide +kernel, rfl, by decide +kernel, by decide +kernel⟩
abbrev s_no_doubt : Stmt := topS 25
abbrev N_no_doubt : List Str := ["clock"]
theorem sc_no_doubt : FnScope N_no_doubt ["clock"] (defScope s_no_doubt) := ⟨rfl, rfl, rfl, by decide +kernel, rfl, by decide +kernel, by decide +kernel⟩
abbrev s_first_clear : Stmt := topS 26
abbrev N_first_clear : List Str := ["clocks", "doubts", "at", "clock", "told"]
theorem sc_first_clear : FnScope N_first_clear ["clocks"] (defScope s_first_clear) := ⟨rfl, rfl, rfl, by decide +kernel, rfl, by decide +kernel, by decide +kernel⟩
abbrev s__law_clear : Stmt := topS 43
abbrev N__law_clear : List Str := ["clock", "hands"]
theorem sc__law_clear : FnScope N__law_clear ["clock", "hands"] (defScope s__law_clear) := ⟨rfl, rfl, rfl, by decide +kernel, rfl, by decide +kernel, by decide +kernel⟩
abbrev s_fewest_painted : Stmt := topS 27
abbrev N_fewest_painted : List Str := ["clock", "doubts", "size", "some", "at", "more", "hands"]
theorem sc_fewest_painted : FnScope N_fewest_painted ["clock"] (defScope s_fewest_painted) := ⟨rfl, rfl, rfl, by decide +kernel, rfl, by decide +kernel, by decide +kernel⟩
abbrev s_painted_right : Stmt := topS 30
abbrev N_painted_right : List Str := ["clock", "told", "many", "clocks", "hands"]
theorem sc_painted_right : FnScope N_painted_right ["clock", "told"] (defScope s_painted_right) := ⟨rfl, rfl, rfl, by decide +kernel, rfl, by decide +kernel, by decide +kernel⟩
abbrev s__law_right : Stmt := topS 44
abbrev N__law_right : List Str := ["pool", "clock", "found", "count", "hands", "told", "more", "less", "hand"]
theorem sc__law_right : FnScope N__law_right ["pool", "clock"] (defScope s__law_right) := ⟨rfl, rfl, rfl, by decide +kernel, rfl, by decide +kernel, by decide +kernel⟩
abbrev s__law_one_by_one : Stmt := topS 45
abbrev N__law_one_by_one : List Str := ["pool", "clock", "hand", "some", "made", "both"]
theorem sc__law_one_by_one : FnScope N__law_one_by_one ["pool", "clock"] (defScope s__law_one_by_one) := ⟨rfl, rfl, rfl, by decide +kernel, rfl, by decide +kernel, by decide +kernel⟩
abbrev s_law : Stmt := topS 46
abbrev N_law : List Str := ["script", "cells", "k", "pool", "clock"]
theorem sc_law : FnScope N_law ["script"] (defScope s_law) := ⟨rfl, rfl, rfl, by decide +kernel, rfl, by decide +kernel, by decide +kernel⟩
def c_LETTERS : Ef := eC (.str "abcdefghijklmnopqrstuvwxyz")
/-! ### the mirrors -/
noncomputable section
def b_hand_asked : Sf :=
  (sIf (bNot (bV (eChain gLe gLt (eC (.int 0)) (eV 1) (eUn gLen (eBin gIdx (eV 0) (eC (.int 1)))))))
  sNo
  sNil)
def g_hand_asked : Gf := fnRun 2 2 b_hand_asked
def b_common_parts : Sf :=
  (sSeq (sPar 2 3 (lCons (eTup (lCons (eV 0) (lCons (eC (.int 1)) (lCons (eC (.int 0)) lNil)))) (lCons (eTup (lCons (eV 1) (lCons (eC (.int 0)) (lCons (eC (.int 1)) lNil)))) lNil)))
  (sSeq (sWh FU (bV (eBin gNe (eBin gIdx (eV 3) (eC (.int 0))) (eC (.int 0))))
  (sSeq (sSet 4 (eBin gDiv (eBin gIdx (eV 2) (eC (.int 0))) (eBin gIdx (eV 3) (eC (.int 0)))))
  (sSeq (sSet 5 (eUn gTuple (eFz (lComp (lZip (eV 2) (eV 3)) [6, 7] (tT 2 (gsC (tN 6) (gsC (tN 7) gsN))) bYes (eBin gSub (eV 6) (eBin gMul (eV 4) (eV 7)))))))
  (sPar 2 3 (lCons (eV 3) (lCons (eV 5) lNil))))))
  (sRet (eV 2))))
def g_common_parts : Gf := fnRun 8 2 b_common_parts
def b_swaps_of : Sf :=
  (sSeq (sSet 1 (eFz (lLst (lCons (eTup lNil) lNil))))
  (sSeq (sFor (lIt (eV 0)) (tT 3 (gsC (tN 2) (gsC (tN 3) (gsC (tN 4) gsN))))
  (sSeq (sSetO 5 (lLst lNil))
  (sSeq (sFor (lIt (eV 1)) (tN 6)
  (sFor (lRng1 (eUn gLen (eV 0))) (tN 7)
  (sIf (bAnd (bV (eBin gNi (eV 7) (eV 6))) (bV (eBin gEq (eBin gIdx (eBin gIdx (eV 0) (eV 7)) (eC (.int 2))) (eV 4))))
  (sExpr (eMut mAppend 5 (eBin gAdd (eV 6) (eTup (lCons (eV 7) lNil)))))
  sNil)))
  (sFrz 5 (sSet 1 (eV 5))))))
  (sRet (eV 1))))
def g_swaps_of : Gf := fnRun 8 1 b_swaps_of
def b_rows_of : Sf :=
  (sSeq (sAsg (eV 0) (tT 4 (gsC (tN 2) (gsC (tN 3) (gsC (tN 4) (gsC (tN 5) gsN))))))
  (sSeq (sAsg (eV 1) (tT 2 (gsC (tN 6) (gsC (tN 7) gsN))))
  (sSeq (sSet 8 (eBin gSub (eC (.int 1)) (eBin gMul (eC (.int 2)) (eUn gInt (eV 7)))))
  (sSeq (sSetO 9 (lLst lNil))
  (sSeq (sFor (lZip (eV 6) (eV 3)) (tT 2 (gsC (tN 10) (gsC (tT 3 (gsC (tN 11) (gsC (tN 12) (gsC (tN 13) gsN)))) gsN)))
  (sExpr (eMut mAppend 9 (eTup (lCons (eBin gIdx (eBin gIdx (eV 3) (eV 10)) (eC (.int 0))) (lCons (eBin gMod (eBin gMul (eV 8) (eV 11)) (eV 2)) (lCons (eBin gMod (eBin gSub (eBin gMul (eV 8) (eV 12)) (eBin gIdx (eBin gIdx (eV 3) (eV 10)) (eC (.int 1)))) (eV 2)) lNil)))))))
  (sSeq (sIf (bNot (bV (eV 4)))
  (sFrz 9 (sRet (eV 9)))
  sNil)
  (sRet (eFz (lComp (lIt (eFz (lSlV 9 (pE (eC (.int 1))) pNo))) [14] (tN 14) bYes (eUn gTuple (eFz (lComp (lZip (eV 14) (eBinV gIdx 9 (eC (.int 0)))) [15, 16] (tT 2 (gsC (tN 15) (gsC (tN 16) gsN))) bYes (eBin gMod (eBin gSub (eV 15) (eV 16)) (eV 2))))))))))))))
def g_rows_of : Gf := fnRun 17 2 b_rows_of
def b_times_all : Sf :=
  (sRet (eUn gSum (eFz (lComp (lZipA (eV 0) (eV 1)) [2, 3] (tT 2 (gsC (tN 2) (gsC (tN 3) gsN))) bYes (eBin gMul (eV 2) (eV 3))))))
def g_times_all : Gf := fnRun 4 2 b_times_all
def b_sets_of : Sf :=
  (sSeq (sSet 2 (eFz (lLst (lCons (eTup lNil) lNil))))
  (sSeq (sFor (lRng1 (eV 1)) (tN 3)
  (sSeq (sSetO 4 (lLst lNil))
  (sSeq (sFor (lIt (eV 2)) (tN 5)
  (sExpr (eMut mExtend 4 (eFz (lComp (lRng2 (eBin gAdd (eBin gMaxD (eV 5) (eUn gNeg (eC (.int 1)))) (eC (.int 1))) (eV 0)) [6] (tN 6) bYes (eBin gAdd (eV 5) (eTup (lCons (eV 6) lNil))))))))
  (sFrz 4 (sSet 2 (eV 4))))))
  (sRet (eV 2))))
def g_sets_of : Gf := fnRun 7 2 b_sets_of
def b_is_rising_in : Sf :=
  (sRet (eBin gEq (eFz (lUn gList (eV 0))) (eFz (lComp (lRng1 (eV 1)) [2] (tN 2) (bV (eBin gIs (eV 2) (eV 0))) (eV 2)))))
def g_is_rising_in : Gf := fnRun 3 2 b_is_rising_in
def b__law_cells : Sf :=
  (sSeq (sSetO 2 (lUn gList (eFz (lSlV 0 pNo (pE (eV 1))))))
  (sSeq (sFor (lEnum (eFz (lSlV 0 (pE (eV 1)) (pE (eC (.int 63)))))) (tT 2 (gsC (tN 3) (gsC (tN 4) gsN)))
  (sPutI 2 (eBin gMod (eV 3) (eV 1)) (eBin gAdd (eBin gMul (eBinV gIdx 2 (eBin gMod (eV 3) (eV 1))) (eC (.int 31))) (eV 4))))
  (sFrz 2 (sRet (eV 2)))))
def g__law_cells : Gf := fnRun 5 2 b__law_cells
def b__law_pool : Sf :=
  (sSeq (sSet 2 (eC (.int 0)))
  (sSeq (sIf (bV (eBin gGt (eUn gLen (eV 0)) (eC (.int 0))))
  (sSet 2 (eBin gAdd (eBin gIdx (eV 0) (eBin gMod (eV 1) (eUn gLen (eV 0)))) (eBin gDiv (eV 1) (eUn gLen (eV 0)))))
  sNil)
  (sSeq (sSet 3 (eC (.int 0)))
  (sSeq (sIf (bOr (bV (eBin gLt (eV 2) (eC (.int 0)))) (bV (eBin gGe (eV 2) (eBin gPow (eC (.int 10)) (eC (.int 18))))))
  (sSet 3 (eUn gAbs (eV 2)))
  sNil)
  (sRetL (lLst (lCons (eV 3) (lCons (eBin gMod (eBin gAdd (eBin gMul (eBin gMod (eV 2) (eC (.int 2147483629))) (eC (.int 69621))) (eBin gMul (eBin gMul (eC (.int 40009)) (eBin gAdd (eV 1) (eC (.int 1)))) (eBin gAdd (eV 1) (eC (.int 3))))) (eC (.int 2147483629))) lNil))))))))
def g__law_pool : Hf := fnNew 4 2 b__law_pool
def b__law_take : Sf :=
  (sSeq (sIf (bV (eBin gGt (eBinV gIdx 0 (eC (.int 0))) (eC (.int 0))))
  (sSeq (sSet 2 (eBin gMod (eBinV gIdx 0 (eC (.int 0))) (eV 1)))
  (sSeq (sPutI 0 (eC (.int 0)) (eBin gDiv (eBinV gIdx 0 (eC (.int 0))) (eV 1)))
  (sRet (eV 2))))
  sNil)
  (sSeq (sPutI 0 (eC (.int 1)) (eBin gMod (eBin gAdd (eBin gMul (eBinV gIdx 0 (eC (.int 1))) (eC (.int 48271))) (eC (.int 12820163))) (eC (.int 2147483647))))
  (sRet (eBin gMod (eBin gDiv (eBin gMod (eBin gMul (eBin gMod (eBin gMul (eBinV gIdx 0 (eC (.int 1))) (eBinV gIdx 0 (eC (.int 1)))) (eC (.int 2147483629))) (eC (.int 69621))) (eC (.int 2147483587))) (eC (.int 8))) (eV 1)))))
def g__law_take : Gf := fnRun 3 2 b__law_take
def b__law_power : Sf :=
  (sSeq (sSet 2 (eC (.int 1)))
  (sSeq (sFor (lRng1 (eV 1)) (tN 3)
  (sSet 2 (eBin gMul (eV 2) (eV 0))))
  (sRet (eV 2))))
def g__law_power : Gf := fnRun 4 2 b__law_power
def b__law_sets : Sf :=
  (sSeq (sSet 2 (eFz (lLst (lCons (eTup lNil) lNil))))
  (sSeq (sFor (lRng1 (eV 1)) (tN 3)
  (sSeq (sSetO 4 (lLst lNil))
  (sSeq (sFor (lIt (eV 2)) (tN 5)
  (sExpr (eMut mExtend 4 (eFz (lComp (lRng1 (eV 0)) [6] (tN 6) (bOr (bV (eBin gEq (eV 5) (eTup lNil))) (bV (eBin gGt (eV 6) (eBin gIdx (eV 5) (eUn gNeg (eC (.int 1))))))) (eBin gAdd (eV 5) (eTup (lCons (eV 6) lNil))))))))
  (sFrz 4 (sSet 2 (eV 4))))))
  (sRet (eV 2))))
def g__law_sets : Gf := fnRun 7 2 b__law_sets
def b_hands_asked : Sf :=
  (sFor (lEnumA (eV 1)) (tT 2 (gsC (tN 2) (gsC (tN 3) gsN)))
  (sSeq (sExpr (eCall g_hand_asked (aV (eV 0) (aV (eV 3) aNil))))
  (sIf (bAnd (bV (eBin gGt (eV 2) (eC (.int 0)))) (bV (eBin gLe (eV 3) (eBin gIdx (eV 1) (eBin gSub (eV 2) (eC (.int 1)))))))
  sNo
  sNil)))
def g_hands_asked : Gf := fnRun 4 2 b_hands_asked
def b_weights_of : Sf :=
  (sSeq (sSet 2 (eV 0))
  (sSeq (sSet 3 (eFz (lLst lNil)))
  (sSeq (sFor (lIt (eV 1)) (tN 4)
  (sSeq (sAsg (eCall g_common_parts (aV (eV 2) (aV (eBin gMod (eV 4) (eV 0)) aNil))) (tT 3 (gsC (tN 2) (gsC (tN 5) (gsC (tN 6) gsN)))))
  (sSet 3 (eBin gAdd (eFz (lComp (lIt (eV 3)) [7] (tN 7) bYes (eBin gMod (eBin gMul (eV 7) (eV 5)) (eV 0)))) (eFz (lLst (lCons (eBin gMod (eV 6) (eV 0)) lNil)))))))
  (sRet (eTup (lCons (eV 2) (lCons (eV 3) lNil)))))))
def g_weights_of : Gf := fnRun 8 2 b_weights_of
def b_readings_of : Sf :=
  (sSeq (sSetO 1 (lLst lNil))
  (sSeq (sFor (lIt (eCall g_swaps_of (aV (eBin gIdx (eV 0) (eC (.int 1))) aNil))) (tN 2)
  (sSeq (sExpr (eMut mAppend 1 (eTup (lCons (eV 2) (lCons (eC (.bool false)) lNil)))))
  (sIf (bV (eBin gIdx (eV 0) (eC (.int 3))))
  (sExpr (eMut mAppend 1 (eTup (lCons (eV 2) (lCons (eC (.bool true)) lNil)))))
  sNil)))
  (sFrz 1 (sRet (eV 1)))))
def g_readings_of : Gf := fnRun 3 1 b_readings_of
def b_is_taken : Sf :=
  (sRet (eUn gAll (eFz (lComp (lIt (eCall g_rows_of (aV (eV 0) (aV (eV 1) aNil)))) [4, 5, 6] (tT 3 (gsC (tN 4) (gsC (tN 5) (gsC (tN 6) gsN)))) bYes (eBin gEq (eBin gMod (eBin gSub (eBin gSub (eBin gMul (eV 4) (eV 3)) (eBin gMul (eV 5) (eV 2))) (eV 6)) (eBin gIdx (eV 0) (eC (.int 0)))) (eC (.int 0)))))))
def g_is_taken : Gf := fnRun 7 4 b_is_taken
def b_put_together : Sf :=
  (sRet (eUn gTuple (eFz (lComp (lRng1 (eUn gLen (eBin gIdx (eV 2) (eC (.int 0))))) [3] (tN 3) bYes (eBin gMod (eCall g_times_all (aV (eV 1) (aV (eFz (lComp (lIt (eV 2)) [4] (tN 4) bYes (eBin gIdx (eV 4) (eV 3)))) aNil))) (eV 0))))))
def g_put_together : Gf := fnRun 5 3 b_put_together
def b__law_some : Sf :=
  (sSeq (sSetO 3 (lUn gList (eV 1)))
  (sRet (eFz (lComp (lRng1 (eV 2)) [4] (tN 4) bYes (eMut mPopAt 3 (eCall g__law_take (aR 0 (aV (eUn gLen (eO 3)) aNil))))))))
def g__law_some : Gf := fnRun 5 3 b__law_some
def b__law_wide : Sf :=
  (sSeq (sSet 2 (eC (.int 0)))
  (sSeq (sFor (lRng1 (eC (.int 8))) (tN 3)
  (sSet 2 (eBin gAdd (eBin gMul (eV 2) (eBin gPow (eC (.int 10)) (eC (.int 8)))) (eCall g__law_take (aR 0 (aV (eBin gPow (eC (.int 10)) (eC (.int 8))) aNil))))))
  (sRet (eBin gMod (eV 2) (eV 1)))))
def g__law_wide : Gf := fnRun 4 2 b__law_wide
def b_painted_hands : Sf :=
  (sSeq (sExpr (eCall g_hands_asked (aV (eV 0) (aV (eV 1) aNil))))
  (sSeq (sAsg (eV 0) (tT 4 (gsC (tN 2) (gsC (tN 3) (gsC (tN 4) (gsC (tN 5) gsN))))))
  (sSeq (sSetO 6 (lUn gList (eV 3)))
  (sSeq (sSetO 7 (lComp (lIt (eV 3)) [10, 11, 12] (tT 3 (gsC (tN 10) (gsC (tN 11) (gsC (tN 12) gsN)))) bYes (eV 12)))
  (sSeq (sFor (lIt (eV 1)) (tN 8)
  (sSeq (sSet 9 (eBin gIdx (eFz (lComp (lIt c_LETTERS) [13] (tN 13) (bV (eBin gNi (eV 13) (eO 7))) (eV 13))) (eC (.int 0))))
  (sSeq (sExpr (eMut mAppend 7 (eV 9)))
  (sPutI 6 (eV 8) (eTup (lCons (eBin gIdx (eBin gIdx (eV 3) (eV 8)) (eC (.int 0))) (lCons (eBin gIdx (eBin gIdx (eV 3) (eV 8)) (eC (.int 1))) (lCons (eV 9) lNil))))))))
  (sRet (eTup (lCons (eV 2) (lCons (eUn gTuple (eO 6)) (lCons (eV 4) (lCons (eV 5) lNil)))))))))))
def g_painted_hands : Gf := fnRun 14 2 b_painted_hands
def b_cleared_of : Sf :=
  (sSeq (sAsg (eCall g_weights_of (aV (eV 0) (aV (eV 1) aNil))) (tT 2 (gsC (tN 2) (gsC (tN 3) gsN))))
  (sSeq (sSetO 4 (lLst lNil))
  (sSeq (sFor (lEnum (eV 1)) (tT 2 (gsC (tN 5) (gsC (tN 6) gsN)))
  (sSeq (sSet 7 (eBin gDiv (eV 6) (eV 2)))
  (sExpr (eMut mAppend 4 (eFz (lComp (lEnum (eV 3)) [9, 8] (tT 2 (gsC (tN 9) (gsC (tN 8) gsN))) bYes (eBin gSub (eUn gInt (eBin gEq (eV 9) (eV 5))) (eBin gMul (eV 7) (eV 8)))))))))
  (sSeq (sExpr (eMut mAppend 4 (eFz (lComp (lIt (eV 3)) [8] (tN 8) bYes (eBin gMul (eBin gDiv (eV 0) (eV 2)) (eV 8))))))
  (sFrz 4 (sRet (eTup (lCons (eV 4) (lCons (eV 3) (lCons (eV 2) lNil))))))))))
def g_cleared_of : Gf := fnRun 10 2 b_cleared_of
def b_is_doubt : Sf :=
  (sSeq (sAsg (eV 1) (tT 3 (gsC (tN 2) (gsC (tN 3) (gsC (tN 4) gsN)))))
  (sSeq (sIf (bOr (bV (eBin gEq (eBin gMod (eBin gSub (eV 2) (eV 3)) (eBin gIdx (eV 0) (eC (.int 0)))) (eC (.int 0)))) (bV (eBin gNi (eV 4) (eCall g_readings_of (aV (eV 0) aNil)))))
  (sRet (eC (.bool false)))
  sNil)
  (sRet (eCall g_is_taken (aV (eV 0) (aV (eV 4) (aV (eV 2) (aV (eV 3) aNil))))))))
def g_is_doubt : Gf := fnRun 5 2 b_is_doubt
def b__law_dial : Sf :=
  (sSeq (sSet 1 (eCall g__law_take (aR 0 (aV (eC (.int 6)) aNil))))
  (sSeq (sIf (bV (eBin gLt (eV 1) (eC (.int 2))))
  (sRet (eBin gAdd (eC (.int 2)) (eCall g__law_take (aR 0 (aV (eC (.int 59)) aNil)))))
  sNil)
  (sSeq (sIf (bV (eBin gEq (eV 1) (eC (.int 2))))
  (sRet (eBin gIdx (eFz (lLst (lCons (eC (.int 720)) (lCons (eC (.int 5040)) (lCons (eC (.int 1716)) (lCons (eC (.int 1155)) (lCons (eC (.int 46189)) (lCons (eC (.int 97)) lNil)))))))) (eCall g__law_take (aR 0 (aV (eC (.int 6)) aNil)))))
  sNil)
  (sSeq (sIf (bV (eBin gEq (eV 1) (eC (.int 3))))
  (sRet (eCall g__law_power (aV (eC (.int 2)) (aV (eBin gAdd (eC (.int 1)) (eCall g__law_take (aR 0 (aV (eC (.int 199)) aNil)))) aNil))))
  sNil)
  (sSeq (sIf (bV (eBin gEq (eV 1) (eC (.int 4))))
  (sRet (eCall g__law_power (aV (eC (.int 10)) (aV (eBin gAdd (eC (.int 1)) (eCall g__law_take (aR 0 (aV (eC (.int 60)) aNil)))) aNil))))
  sNil)
  (sRet (eBin gMul (eBin gIdx (eFz (lLst (lCons (eC (.int 12)) (lCons (eC (.int 30)) (lCons (eC (.int 2310)) (lCons (eC (.int 1)) lNil)))))) (eCall g__law_take (aR 0 (aV (eC (.int 4)) aNil)))) (eBin gAdd (eC (.int 2)) (eCall g__law_wide (aR 0 (aV (eBin gPow (eC (.int 10)) (eC (.int 55))) aNil)))))))))))
def g__law_dial : Gf := fnRun 2 1 b__law_dial
def b__law_mark : Sf :=
  (sSeq (sSet 2 (eCall g__law_take (aR 0 (aV (eC (.int 5)) aNil))))
  (sSeq (sSet 3 (eBin gIdx (eFz (lLst (lCons (eC (.int 2)) (lCons (eC (.int 3)) (lCons (eC (.int 4)) (lCons (eC (.int 5)) (lCons (eC (.int 6)) (lCons (eC (.int 7)) (lCons (eC (.int 10)) (lCons (eC (.int 11)) (lCons (eC (.int 12)) lNil))))))))))) (eCall g__law_take (aR 0 (aV (eC (.int 9)) aNil)))))
  (sSeq (sIf (bV (eBin gEq (eV 2) (eC (.int 0))))
  (sRet (eBin gMod (eCall g__law_take (aR 0 (aV (eC (.int 12)) aNil))) (eV 1)))
  sNil)
  (sSeq (sIf (bV (eBin gEq (eV 2) (eC (.int 1))))
  (sRet (eBin gSub (eBin gSub (eV 1) (eC (.int 1))) (eBin gMod (eCall g__law_take (aR 0 (aV (eC (.int 5)) aNil))) (eV 1))))
  sNil)
  (sSeq (sIf (bAnd (bV (eBin gLt (eV 2) (eC (.int 4)))) (bV (eBin gEq (eBin gMod (eV 1) (eV 3)) (eC (.int 0)))))
  (sRet (eBin gIdx (eFz (lLst (lCons (eBin gMul (eBin gDiv (eV 1) (eV 3)) (eCall g__law_take (aR 0 (aV (eV 3) aNil)))) (lCons (eBin gMod (eBin gMul (eV 3) (eCall g__law_wide (aR 0 (aV (eV 1) aNil)))) (eV 1)) lNil)))) (eBin gSub (eV 2) (eC (.int 2)))))
  sNil)
  (sRet (eCall g__law_wide (aR 0 (aV (eV 1) aNil)))))))))
def g__law_mark : Gf := fnRun 4 2 b__law_mark
def b_reading_doubt : Sf :=
  (sSeq (sIf (bV (eBin gEq (eV 1) (eFz (lLst lNil))))
  (sRet (eTup (lCons (eC (.str "doubt")) (lCons (eC (.int 0)) (lCons (eC (.int 1)) lNil)))))
  sNil)
  (sSeq (sSet 2 (eFz (lComp (lIt (eV 1)) [15, 16, 17] (tT 3 (gsC (tN 15) (gsC (tN 16) (gsC (tN 17) gsN)))) bYes (eV 15))))
  (sSeq (sSet 3 (eFz (lComp (lIt (eV 1)) [15, 16, 17] (tT 3 (gsC (tN 15) (gsC (tN 16) (gsC (tN 17) gsN)))) bYes (eV 17))))
  (sSeq (sAsg (eCall g_cleared_of (aV (eV 0) (aV (eFz (lComp (lIt (eV 1)) [15, 16, 17] (tT 3 (gsC (tN 15) (gsC (tN 16) (gsC (tN 17) gsN)))) bYes (eBin gMod (eBin gSub (eV 15) (eV 16)) (eV 0)))) aNil))) (tT 3 (gsC (tN 4) (gsC (tN 5) (gsC (tN 6) gsN)))))
  (sSeq (sSet 8 (eFz (lComp (lIt (eV 4)) [7] (tN 7) bYes (eBin gMod (eCall g_times_all (aV (eV 7) (aV (eV 2) aNil))) (eV 0)))))
  (sSeq (sSet 9 (eFz (lComp (lIt (eV 4)) [7] (tN 7) bYes (eBin gMod (eCall g_times_all (aV (eV 7) (aV (eV 3) aNil))) (eV 0)))))
  (sSeq (sAsg (eCall g_cleared_of (aV (eV 0) (aV (eV 8) aNil))) (tT 3 (gsC (tN 10) (gsC (tN 11) (gsC (tN 12) gsN)))))
  (sSeq (sFor (lIt (eV 10)) (tN 7)
  (sIf (bV (eBin gNe (eBin gMod (eCall g_times_all (aV (eV 7) (aV (eV 9) aNil))) (eV 0)) (eC (.int 0))))
  (sRet (eTup (lCons (eC (.str "never")) (lCons (eCall g_put_together (aV (eV 0) (aV (eV 7) (aV (eV 4) aNil)))) lNil))))
  sNil))
  (sSeq (sSet 13 (eBin gMod (eCall g_times_all (aV (eV 11) (aV (eV 9) aNil))) (eV 0)))
  (sSeq (sSet 14 (eBin gMod (eBin gDiv (eV 13) (eV 12)) (eBin gDiv (eV 0) (eV 12))))
  (sSeq (sIf (bAnd (bV (eBin gEq (eV 14) (eC (.int 0)))) (bV (eBin gEq (eV 12) (eC (.int 1)))))
  (sRet (eTup (lCons (eC (.str "one")) (lCons (eCall g_put_together (aV (eV 0) (aV (eV 11) (aV (eV 4) aNil)))) lNil))))
  sNil)
  (sSeq (sIf (bV (eBin gEq (eV 14) (eC (.int 0))))
  (sSet 14 (eBin gDiv (eV 0) (eV 12)))
  sNil)
  (sRet (eTup (lCons (eC (.str "doubt")) (lCons (eBin gDiv (eBin gMod (eBin gSub (eCall g_times_all (aV (eV 5) (aV (eV 3) aNil))) (eBin gMul (eCall g_times_all (aV (eV 5) (aV (eV 2) aNil))) (eV 14))) (eV 0)) (eV 6)) (lCons (eV 14) lNil)))))))))))))))))
def g_reading_doubt : Gf := fnRun 18 2 b_reading_doubt
def b_are_doubts : Sf :=
  (sRet (eAnd (eBin gEq (eUn gLen (eV 1)) (eUn gLen (eV 0))) (eUn gAll (eFz (lComp (lZip (eV 0) (eV 1)) [2, 3] (tT 2 (gsC (tN 2) (gsC (tN 3) gsN))) bYes (eCall g_is_doubt (aV (eV 2) (aV (eV 3) aNil))))))))
def g_are_doubts : Gf := fnRun 4 2 b_are_doubts
def b__law_hands : Sf :=
  (sSeq (sSet 4 (eCall g__law_some (aR 0 (aV (eFz (lUn gListS (eC (.str "abcdefghijklmnopqrstuvwxyz")))) (aV (eC (.int 5)) aNil)))))
  (sSeq (sSet 5 (eFz (lLst (lCons (eFz (lLst (lCons (eC (.int 0)) (lCons (eC (.int 1)) (lCons (eC (.int 2)) (lCons (eC (.int 3)) (lCons (eC (.int 4)) lNil))))))) (lCons (eFz (lLst (lCons (eC (.int 0)) (lCons (eC (.int 0)) (lCons (eC (.int 1)) (lCons (eC (.int 2)) (lCons (eC (.int 3)) lNil))))))) (lCons (eFz (lLst (lCons (eC (.int 0)) (lCons (eC (.int 0)) (lCons (eC (.int 1)) (lCons (eC (.int 2)) (lCons (eC (.int 3)) lNil))))))) (lCons (eFz (lLst (lCons (eC (.int 0)) (lCons (eC (.int 0)) (lCons (eC (.int 0)) (lCons (eC (.int 1)) (lCons (eC (.int 2)) lNil))))))) (lCons (eFz (lLst (lCons (eC (.int 0)) (lCons (eC (.int 0)) (lCons (eC (.int 1)) (lCons (eC (.int 1)) (lCons (eC (.int 2)) lNil))))))) lNil))))))))
  (sSeq (sSet 6 (eSl (eBin gIdx (eV 5) (eCall g__law_take (aR 0 (aV (eBin gIdx (eFz (lLst (lCons (eC (.int 5)) (lCons (eC (.int 3)) lNil)))) (eUn gInt (eV 3))) aNil)))) pNo (pE (eV 2))))
  (sSeq (sSetO 7 (lLst lNil))
  (sSeq (sFor (lIt (eCall g__law_some (aR 0 (aV (eV 6) (aV (eV 2) aNil))))) (tN 8)
  (sExpr (eMut mAppend 7 (eTup (lCons (eCall g__law_mark (aR 0 (aV (eV 1) aNil))) (lCons (eBin gMul (eCall g__law_mark (aR 0 (aV (eV 1) aNil))) (eUn gInt (eBin gGt (eCall g__law_take (aR 0 (aV (eC (.int 3)) aNil))) (eC (.int 0))))) (lCons (eBin gIdx (eV 4) (eV 8)) lNil)))))))
  (sRet (eUn gTuple (eO 7))))))))
def g__law_hands : Gf := fnRun 9 4 b__law_hands
def b_whole_paper : Sf :=
  (sSeq (sSet 1 (eBin gIdx (eV 0) (eC (.int 0))))
  (sSeq (sSetO 2 (lLst lNil))
  (sSeq (sFor (lIt (eCall g_readings_of (aV (eV 0) aNil))) (tN 3)
  (sSeq (sSet 4 (eCall g_reading_doubt (aV (eV 1) (aV (eCall g_rows_of (aV (eV 0) (aV (eV 3) aNil))) aNil))))
  (sSeq (sIf (bV (eBin gEq (eBin gIdx (eV 4) (eC (.int 0))) (eC (.str "doubt"))))
  (sRet (eTup (lCons (eC (.str "rival")) (lCons (eBin gIdx (eV 4) (eC (.int 1))) (lCons (eBin gMod (eBin gAdd (eBin gIdx (eV 4) (eC (.int 1))) (eBin gIdx (eV 4) (eC (.int 2)))) (eV 1)) (lCons (eV 3) lNil))))))
  sNil)
  (sExpr (eMut mAppend 2 (eV 4))))))
  (sFrz 2 (sRet (eTup (lCons (eC (.str "clear")) (lCons (eV 2) lNil))))))))
def g_whole_paper : Gf := fnRun 5 1 b_whole_paper
def b__law_clock : Sf :=
  (sSeq (sSet 3 (eBin gEq (eCall g__law_take (aR 0 (aV (eC (.int 3)) aNil))) (eC (.int 0))))
  (sSeq (sSet 4 (eBin gAdd (eC (.int 1)) (eCall g__law_take (aR 0 (aV (eV 2) aNil)))))
  (sRet (eTup (lCons (eV 1) (lCons (eCall g__law_hands (aR 0 (aV (eV 1) (aV (eV 4) (aV (eV 3) aNil))))) (lCons (eBin gEq (eCall g__law_take (aR 0 (aV (eC (.int 3)) aNil))) (eC (.int 0))) (lCons (eV 3) lNil))))))))
def g__law_clock : Gf := fnRun 5 3 b__law_clock
def b_no_doubt : Sf :=
  (sRet (eBin gEq (eBin gIdx (eCall g_whole_paper (aV (eV 0) aNil)) (eC (.int 0))) (eC (.str "clear"))))
def g_no_doubt : Gf := fnRun 1 1 b_no_doubt
def b_first_clear : Sf :=
  (sSeq (sSetO 1 (lLst lNil))
  (sSeq (sFor (lEnum (eV 0)) (tT 2 (gsC (tN 2) (gsC (tN 3) gsN)))
  (sSeq (sSet 4 (eCall g_whole_paper (aV (eV 3) aNil)))
  (sSeq (sIf (bV (eBin gEq (eBin gIdx (eV 4) (eC (.int 0))) (eC (.str "clear"))))
  (sFrz 1 (sRet (eTup (lCons (eV 2) (lCons (eV 1) lNil)))))
  sNil)
  (sExpr (eMut mAppend 1 (eSl (eV 4) (pE (eC (.int 1))) pNo))))))
  (sFrz 1 (sRet (eTup (lCons (eC .none) (lCons (eV 1) lNil)))))))
def g_first_clear : Gf := fnRun 5 1 b_first_clear
def b__law_clear : Sf :=
  (sRet (eBin gEq (eBin gIdx (eCall g_whole_paper (aV (eCall g_painted_hands (aV (eV 0) (aV (eV 1) aNil))) aNil)) (eC (.int 0))) (eC (.str "clear"))))
def g__law_clear : Gf := fnRun 2 2 b__law_clear
def b_fewest_painted : Sf :=
  (sSeq (sSet 1 (eFz (lLst lNil)))
  (sSeq (sFor (lRng1 (eBin gAdd (eUn gLen (eBin gIdx (eV 0) (eC (.int 1)))) (eC (.int 1)))) (tN 2)
  (sSeq (sSet 3 (eCall g_sets_of (aV (eUn gLen (eBin gIdx (eV 0) (eC (.int 1)))) (aV (eV 2) aNil))))
  (sSeq (sAsg (eCall g_first_clear (aV (eFz (lComp (lIt (eV 3)) [6] (tN 6) bYes (eCall g_painted_hands (aV (eV 0) (aV (eV 6) aNil))))) aNil)) (tT 2 (gsC (tN 4) (gsC (tN 5) gsN))))
  (sSeq (sIf (bV (eBin gNtN (eV 4) (eC .none)))
  (sRet (eTup (lCons (eC (.str "paint")) (lCons (eBin gIdx (eV 3) (eV 4)) (lCons (eV 1) lNil)))))
  sNil)
  (sSet 1 (eV 5))))))
  (sRet (eTup (lCons (eC (.str "never")) (lCons (eBin gIdx (eV 1) (eC (.int 0))) lNil))))))
def g_fewest_painted : Gf := fnRun 7 1 b_fewest_painted
def b_painted_right : Sf :=
  (sSeq (sSet 2 (eUn gLen (eBin gIdx (eV 0) (eC (.int 1)))))
  (sSeq (sIf (bV (eBin gEq (eBin gIdx (eV 1) (eC (.int 0))) (eC (.str "never"))))
  (sRet (eAnd (eBin gEq (eUn gLen (eV 1)) (eC (.int 2))) (eCall g_is_doubt (aV (eCall g_painted_hands (aV (eV 0) (aV (eTupRg (eV 2)) aNil))) (aV (eBin gIdx (eV 1) (eC (.int 1))) aNil)))))
  sNil)
  (sSeq (sIf (bOr (bV (eBin gNe (eBin gIdx (eV 1) (eC (.int 0))) (eC (.str "paint")))) (bOr (bV (eBin gNe (eUn gLen (eV 1)) (eC (.int 3)))) (bNot (bV (eCall g_is_rising_in (aV (eBin gIdx (eV 1) (eC (.int 1))) (aV (eV 2) aNil)))))))
  (sRet (eC (.bool false)))
  sNil)
  (sSeq (sSet 3 (eFz (lLst lNil)))
  (sSeq (sIf (bV (eBin gNe (eBin gIdx (eV 1) (eC (.int 1))) (eTup lNil)))
  (sSet 3 (eFz (lComp (lIt (eCall g_sets_of (aV (eV 2) (aV (eBin gSub (eUn gLen (eBin gIdx (eV 1) (eC (.int 1)))) (eC (.int 1))) aNil)))) [4] (tN 4) bYes (eCall g_painted_hands (aV (eV 0) (aV (eV 4) aNil))))))
  sNil)
  (sRet (eAnd (eCall g_no_doubt (aV (eCall g_painted_hands (aV (eV 0) (aV (eBin gIdx (eV 1) (eC (.int 1))) aNil))) aNil)) (eCall g_are_doubts (aV (eV 3) (aV (eBin gIdx (eV 1) (eC (.int 2))) aNil))))))))))
def g_painted_right : Gf := fnRun 5 2 b_painted_right
def b__law_right : Sf :=
  (sSeq (sSet 2 (eCall g_fewest_painted (aV (eV 1) aNil)))
  (sSeq (sSet 3 (eUn gLen (eBin gIdx (eV 1) (eC (.int 1)))))
  (sSeq (sIf (bOr (bV (eBin gNtB (eCall g_painted_right (aV (eV 1) (aV (eV 2) aNil))) (eC (.bool true)))) (bV (eBin gEq (eBin gEq (eBin gIdx (eV 2) (eC (.int 0))) (eC (.str "never"))) (eCall g__law_clear (aV (eV 1) (aV (eTupRg (eV 3)) aNil))))))
  (sRet (eC (.bool false)))
  sNil)
  (sSeq (sIf (bV (eBin gEq (eBin gIdx (eV 2) (eC (.int 0))) (eC (.str "never"))))
  (sRet (eUn gAll (eFz (lComp (lIt (eCall g__law_sets (aV (eV 3) (aV (eBin gSub (eV 3) (eC (.int 1))) aNil)))) [4] (tN 4) bYes (eNot (eCall g__law_clear (aV (eV 1) (aV (eV 4) aNil))))))))
  sNil)
  (sSeq (sIf (bV (eBin gNe (eBin gEq (eBin gIdx (eV 2) (eC (.int 1))) (eTup lNil)) (eBin gEq (eBin gIdx (eCall g_whole_paper (aV (eV 1) aNil)) (eC (.int 0))) (eC (.str "clear")))))
  (sRet (eC (.bool false)))
  sNil)
  (sSeq (sFor (lIt (eCall g__law_sets (aV (eV 3) (aV (eUn gLen (eBin gIdx (eV 2) (eC (.int 1)))) aNil)))) (tN 4)
  (sSeq (sSet 5 (eCall g_painted_right (aV (eV 1) (aV (eTup (lCons (eC (.str "paint")) (lCons (eV 4) (lCons (eBin gIdx (eV 2) (eC (.int 2))) lNil)))) aNil))))
  (sIf (bOr (bNot (bV (eUn (gIsi .bool) (eV 5)))) (bV (eBin gNe (eV 5) (eCall g__law_clear (aV (eV 1) (aV (eV 4) aNil))))))
  (sRet (eC (.bool false)))
  sNil)))
  (sSeq (sSet 6 (eFz (lComp (lRng1 (eV 3)) [8] (tN 8) (bOr (bV (eBin gIs (eV 8) (eBin gIdx (eV 2) (eC (.int 1))))) (bV (eBin gEq (eCall g__law_take (aR 0 (aV (eC (.int 2)) aNil))) (eC (.int 0))))) (eV 8))))
  (sSeq (sIf (bOr (bNot (bV (eCall g__law_clear (aV (eV 1) (aV (eBin gIdx (eV 2) (eC (.int 1))) aNil))))) (bNot (bV (eCall g__law_clear (aV (eV 1) (aV (eUn gTuple (eV 6)) aNil))))))
  (sRet (eC (.bool false)))
  sNil)
  (sSeq (sFor (lRng1 (eUn gLen (eBin gIdx (eV 2) (eC (.int 1))))) (tN 7)
  (sIf (bV (eUn gAny (eFz (lComp (lIt (eCall g__law_sets (aV (eV 3) (aV (eV 7) aNil)))) [4] (tN 4) bYes (eCall g__law_clear (aV (eV 1) (aV (eV 4) aNil)))))))
  (sRet (eC (.bool false)))
  sNil))
  (sRet (eC (.bool true))))))))))))
def g__law_right : Gf := fnRun 9 2 b__law_right
def b__law_one_by_one : Sf :=
  (sSeq (sSet 3 (eFz (lComp (lRng1 (eUn gLen (eBin gIdx (eV 1) (eC (.int 1))))) [2] (tN 2) (bV (eBin gEq (eCall g__law_take (aR 0 (aV (eC (.int 2)) aNil))) (eC (.int 0)))) (eV 2))))
  (sSeq (sSet 4 (eV 1))
  (sSeq (sFor (lIt (eCall g__law_some (aR 0 (aV (eV 3) (aV (eUn gLen (eV 3)) aNil))))) (tN 2)
  (sSet 4 (eCall g_painted_hands (aV (eV 4) (aV (eTup (lCons (eV 2) lNil)) aNil)))))
  (sSeq (sSet 5 (eFz (lLst (lCons (eCall g_fewest_painted (aV (eV 4) aNil)) (lCons (eCall g_fewest_painted (aV (eCall g_painted_hands (aV (eV 1) (aV (eUn gTuple (eV 3)) aNil))) aNil)) lNil)))))
  (sSeq (sIf (bOr (bV (eBin gEq (eBin gIdx (eBin gIdx (eV 5) (eC (.int 0))) (eC (.int 0))) (eC (.str "never")))) (bV (eBin gEq (eBin gIdx (eBin gIdx (eV 5) (eC (.int 1))) (eC (.int 0))) (eC (.str "never")))))
  (sRet (eBin gEq (eBin gIdx (eBin gIdx (eV 5) (eC (.int 0))) (eC (.int 0))) (eBin gIdx (eBin gIdx (eV 5) (eC (.int 1))) (eC (.int 0)))))
  sNil)
  (sRet (eBin gEq (eUn gLen (eBin gIdx (eBin gIdx (eV 5) (eC (.int 0))) (eC (.int 1)))) (eUn gLen (eBin gIdx (eBin gIdx (eV 5) (eC (.int 1))) (eC (.int 1)))))))))))
def g__law_one_by_one : Gf := fnRun 6 2 b__law_one_by_one
def b_law : Sf :=
  (sSeq (sSet 1 (eCall g__law_cells (aO 0 (aV (eC (.int 3)) aNil))))
  (sSeq (sFor (lRng1 (eBin gMax2 (eC (.int 1)) (eUn gLen (eV 1)))) (tN 2)
  (sSeq (sSetO 3 (lCall g__law_pool (aV (eV 1) (aV (eV 2) aNil))))
  (sSeq (sSet 4 (eCall g__law_clock (aR 3 (aV (eCall g__law_dial (aR 3 aNil)) (aV (eC (.int 5)) aNil)))))
  (sIf (bOr (bNot (bV (eCall g__law_right (aR 3 (aV (eV 4) aNil))))) (bNot (bV (eCall g__law_one_by_one (aR 3 (aV (eV 4) aNil))))))
  (sRet (eC (.bool false)))
  sNil))))
  (sRet (eC (.bool true)))))
def g_law : Gf := fnRun 5 1 b_law
end
def sr_rows_of_0 : Scope := { kind := .function, names := [(".0", .local), ("row", .local), ("tuple", .globalImplicit), ("zip", .globalImplicit), ("many", .cell), ("rows", .cell)], isGenerator := false, isCoroutine := false, more := [] }
def sr_put_together_0 : Scope := { kind := .function, names := [(".0", .local), ("at", .cell), ("times_all", .globalImplicit), ("many", .cell), ("row", .cell), ("rows", .cell)], isGenerator := false, isCoroutine := false, more := [] }
/-! ### what the top has left -/
structure Tx (K : Frg) (mg : Str → Option Value) where
  f_hand_asked : Addr
  d_hand_asked : FuncData
  F_hand_asked : Fun K "hand_asked" "hand_asked" s_hand_asked f_hand_asked d_hand_asked
  m_hand_asked : mg "hand_asked" = some (.ref f_hand_asked)
  b_hand_asked : Binds K d_hand_asked ["clock", "hand"] []
  f_common_parts : Addr
  d_common_parts : FuncData
  F_common_parts : Fun K "common_parts" "common_parts" s_common_parts f_common_parts d_common_parts
  m_common_parts : mg "common_parts" = some (.ref f_common_parts)
  b_common_parts : Binds K d_common_parts ["one", "other"] []
  f_swaps_of : Addr
  d_swaps_of : FuncData
  F_swaps_of : Fun K "swaps_of" "swaps_of" s_swaps_of f_swaps_of d_swaps_of
  m_swaps_of : mg "swaps_of" = some (.ref f_swaps_of)
  b_swaps_of : Binds K d_swaps_of ["hands"] []
  f_rows_of : Addr
  d_rows_of : FuncData
  F_rows_of : Fun K "rows_of" "rows_of" s_rows_of f_rows_of d_rows_of
  m_rows_of : mg "rows_of" = some (.ref f_rows_of)
  b_rows_of : Binds K d_rows_of ["clock", "reading"] []
  f_times_all : Addr
  d_times_all : FuncData
  F_times_all : Fun K "times_all" "times_all" s_times_all f_times_all d_times_all
  m_times_all : mg "times_all" = some (.ref f_times_all)
  b_times_all : Binds K d_times_all ["multipliers", "numbers"] []
  f_sets_of : Addr
  d_sets_of : FuncData
  F_sets_of : Fun K "sets_of" "sets_of" s_sets_of f_sets_of d_sets_of
  m_sets_of : mg "sets_of" = some (.ref f_sets_of)
  b_sets_of : Binds K d_sets_of ["many", "size"] []
  f_is_rising_in : Addr
  d_is_rising_in : FuncData
  F_is_rising_in : Fun K "is_rising_in" "is_rising_in" s_is_rising_in f_is_rising_in d_is_rising_in
  m_is_rising_in : mg "is_rising_in" = some (.ref f_is_rising_in)
  b_is_rising_in : Binds K d_is_rising_in ["hands", "many"] []
  f__law_cells : Addr
  d__law_cells : FuncData
  F__law_cells : Fun K "_law_cells" "_law_cells" s__law_cells f__law_cells d__law_cells
  m__law_cells : mg "_law_cells" = some (.ref f__law_cells)
  b__law_cells : Binds K d__law_cells ["script", "many"] []
  f__law_pool : Addr
  d__law_pool : FuncData
  F__law_pool : Fun K "_law_pool" "_law_pool" s__law_pool f__law_pool d__law_pool
  m__law_pool : mg "_law_pool" = some (.ref f__law_pool)
  b__law_pool : Binds K d__law_pool ["cells", "k"] []
  f__law_take : Addr
  d__law_take : FuncData
  F__law_take : Fun K "_law_take" "_law_take" s__law_take f__law_take d__law_take
  m__law_take : mg "_law_take" = some (.ref f__law_take)
  b__law_take : Binds K d__law_take ["pool", "many"] []
  f__law_power : Addr
  d__law_power : FuncData
  F__law_power : Fun K "_law_power" "_law_power" s__law_power f__law_power d__law_power
  m__law_power : mg "_law_power" = some (.ref f__law_power)
  b__law_power : Binds K d__law_power ["base", "times"] []
  f__law_sets : Addr
  d__law_sets : FuncData
  F__law_sets : Fun K "_law_sets" "_law_sets" s__law_sets f__law_sets d__law_sets
  m__law_sets : mg "_law_sets" = some (.ref f__law_sets)
  b__law_sets : Binds K d__law_sets ["count", "size"] []
  f_hands_asked : Addr
  d_hands_asked : FuncData
  F_hands_asked : Fun K "hands_asked" "hands_asked" s_hands_asked f_hands_asked d_hands_asked
  m_hands_asked : mg "hands_asked" = some (.ref f_hands_asked)
  b_hands_asked : Binds K d_hands_asked ["clock", "some"] []
  f_weights_of : Addr
  d_weights_of : FuncData
  F_weights_of : Fun K "weights_of" "weights_of" s_weights_of f_weights_of d_weights_of
  m_weights_of : mg "weights_of" = some (.ref f_weights_of)
  b_weights_of : Binds K d_weights_of ["many", "numbers"] []
  f_readings_of : Addr
  d_readings_of : FuncData
  F_readings_of : Fun K "readings_of" "readings_of" s_readings_of f_readings_of d_readings_of
  m_readings_of : mg "readings_of" = some (.ref f_readings_of)
  b_readings_of : Binds K d_readings_of ["clock"] []
  f_is_taken : Addr
  d_is_taken : FuncData
  F_is_taken : Fun K "is_taken" "is_taken" s_is_taken f_is_taken d_is_taken
  m_is_taken : mg "is_taken" = some (.ref f_is_taken)
  b_is_taken : Binds K d_is_taken ["clock", "reading", "tick", "other"] []
  f_put_together : Addr
  d_put_together : FuncData
  F_put_together : Fun K "put_together" "put_together" s_put_together f_put_together d_put_together
  m_put_together : mg "put_together" = some (.ref f_put_together)
  b_put_together : Binds K d_put_together ["many", "row", "rows"] []
  f__law_some : Addr
  d__law_some : FuncData
  F__law_some : Fun K "_law_some" "_law_some" s__law_some f__law_some d__law_some
  m__law_some : mg "_law_some" = some (.ref f__law_some)
  b__law_some : Binds K d__law_some ["pool", "menu", "many"] []
  f__law_wide : Addr
  d__law_wide : FuncData
  F__law_wide : Fun K "_law_wide" "_law_wide" s__law_wide f__law_wide d__law_wide
  m__law_wide : mg "_law_wide" = some (.ref f__law_wide)
  b__law_wide : Binds K d__law_wide ["pool", "base"] []
  f_painted_hands : Addr
  d_painted_hands : FuncData
  F_painted_hands : Fun K "painted_hands" "painted_hands" s_painted_hands f_painted_hands d_painted_hands
  m_painted_hands : mg "painted_hands" = some (.ref f_painted_hands)
  b_painted_hands : Binds K d_painted_hands ["clock", "some"] []
  f_cleared_of : Addr
  d_cleared_of : FuncData
  F_cleared_of : Fun K "cleared_of" "cleared_of" s_cleared_of f_cleared_of d_cleared_of
  m_cleared_of : mg "cleared_of" = some (.ref f_cleared_of)
  b_cleared_of : Binds K d_cleared_of ["many", "numbers"] []
  f_is_doubt : Addr
  d_is_doubt : FuncData
  F_is_doubt : Fun K "is_doubt" "is_doubt" s_is_doubt f_is_doubt d_is_doubt
  m_is_doubt : mg "is_doubt" = some (.ref f_is_doubt)
  b_is_doubt : Binds K d_is_doubt ["clock", "doubt"] []
  f__law_dial : Addr
  d__law_dial : FuncData
  F__law_dial : Fun K "_law_dial" "_law_dial" s__law_dial f__law_dial d__law_dial
  m__law_dial : mg "_law_dial" = some (.ref f__law_dial)
  b__law_dial : Binds K d__law_dial ["pool"] []
  f__law_mark : Addr
  d__law_mark : FuncData
  F__law_mark : Fun K "_law_mark" "_law_mark" s__law_mark f__law_mark d__law_mark
  m__law_mark : mg "_law_mark" = some (.ref f__law_mark)
  b__law_mark : Binds K d__law_mark ["pool", "many"] []
  f_reading_doubt : Addr
  d_reading_doubt : FuncData
  F_reading_doubt : Fun K "reading_doubt" "reading_doubt" s_reading_doubt f_reading_doubt d_reading_doubt
  m_reading_doubt : mg "reading_doubt" = some (.ref f_reading_doubt)
  b_reading_doubt : Binds K d_reading_doubt ["many", "rows"] []
  f_are_doubts : Addr
  d_are_doubts : FuncData
  F_are_doubts : Fun K "are_doubts" "are_doubts" s_are_doubts f_are_doubts d_are_doubts
  m_are_doubts : mg "are_doubts" = some (.ref f_are_doubts)
  b_are_doubts : Binds K d_are_doubts ["clocks", "doubts"] []
  f__law_hands : Addr
  d__law_hands : FuncData
  F__law_hands : Fun K "_law_hands" "_law_hands" s__law_hands f__law_hands d__law_hands
  m__law_hands : mg "_law_hands" = some (.ref f__law_hands)
  b__law_hands : Binds K d__law_hands ["pool", "many", "count", "mirror"] []
  f_whole_paper : Addr
  d_whole_paper : FuncData
  F_whole_paper : Fun K "whole_paper" "whole_paper" s_whole_paper f_whole_paper d_whole_paper
  m_whole_paper : mg "whole_paper" = some (.ref f_whole_paper)
  b_whole_paper : Binds K d_whole_paper ["clock"] []
  f__law_clock : Addr
  d__law_clock : FuncData
  F__law_clock : Fun K "_law_clock" "_law_clock" s__law_clock f__law_clock d__law_clock
  m__law_clock : mg "_law_clock" = some (.ref f__law_clock)
  b__law_clock : Binds K d__law_clock ["pool", "many", "most"] []
  f_no_doubt : Addr
  d_no_doubt : FuncData
  F_no_doubt : Fun K "no_doubt" "no_doubt" s_no_doubt f_no_doubt d_no_doubt
  m_no_doubt : mg "no_doubt" = some (.ref f_no_doubt)
  b_no_doubt : Binds K d_no_doubt ["clock"] []
  f_first_clear : Addr
  d_first_clear : FuncData
  F_first_clear : Fun K "first_clear" "first_clear" s_first_clear f_first_clear d_first_clear
  m_first_clear : mg "first_clear" = some (.ref f_first_clear)
  b_first_clear : Binds K d_first_clear ["clocks"] []
  f__law_clear : Addr
  d__law_clear : FuncData
  F__law_clear : Fun K "_law_clear" "_law_clear" s__law_clear f__law_clear d__law_clear
  m__law_clear : mg "_law_clear" = some (.ref f__law_clear)
  b__law_clear : Binds K d__law_clear ["clock", "hands"] []
  f_fewest_painted : Addr
  d_fewest_painted : FuncData
  F_fewest_painted : Fun K "fewest_painted" "fewest_painted" s_fewest_painted f_fewest_painted d_fewest_painted
  m_fewest_painted : mg "fewest_painted" = some (.ref f_fewest_painted)
  b_fewest_painted : Binds K d_fewest_painted ["clock"] []
  f_painted_right : Addr
  d_painted_right : FuncData
  F_painted_right : Fun K "painted_right" "painted_right" s_painted_right f_painted_right d_painted_right
  m_painted_right : mg "painted_right" = some (.ref f_painted_right)
  b_painted_right : Binds K d_painted_right ["clock", "told"] []
  f__law_right : Addr
  d__law_right : FuncData
  F__law_right : Fun K "_law_right" "_law_right" s__law_right f__law_right d__law_right
  m__law_right : mg "_law_right" = some (.ref f__law_right)
  b__law_right : Binds K d__law_right ["pool", "clock"] []
  f__law_one_by_one : Addr
  d__law_one_by_one : FuncData
  F__law_one_by_one : Fun K "_law_one_by_one" "_law_one_by_one" s__law_one_by_one f__law_one_by_one d__law_one_by_one
  m__law_one_by_one : mg "_law_one_by_one" = some (.ref f__law_one_by_one)
  b__law_one_by_one : Binds K d__law_one_by_one ["pool", "clock"] []
  f_law : Addr
  d_law : FuncData
  F_law : Fun K "law" "law" s_law f_law d_law
  m_law : mg "law" = some (.ref f_law)
  b_law : Binds K d_law ["script"] []
  t_LETTERS : Tok
  m_LETTERS : mg "LETTERS" = some (.str "abcdefghijklmnopqrstuvwxyz" t_LETTERS)
  z_abs : mg "abs" = none
  z_all : mg "all" = none
  z_any : mg "any" = none
  z_bool : mg "bool" = none
  z_enumerate : mg "enumerate" = none
  z_int : mg "int" = none
  z_isinstance : mg "isinstance" = none
  z_len : mg "len" = none
  z_list : mg "list" = none
  z_max : mg "max" = none
  z_range : mg "range" = none
  z_sum : mg "sum" = none
  z_tuple : mg "tuple" = none
  z_zip : mg "zip" = none
section
variable {P : Program} {w : World} {K : Frg} {mg : Str → Option Value} {base : Heap} (T : Tx K mg)
include T
theorem ok_hand_asked : FnOk P w K mg base CX0 1 T.f_hand_asked T.d_hand_asked ["clock", "hand"] (spF K g_hand_asked) :=
  fn_okE (k := 0) b_hand_asked 2 2 T.F_hand_asked sc_hand_asked rfl rfl rfl fun cdv A outer s H E hr =>
  (xss_one (xs_if (xb_not (xb_chain op_le gq_le op_lt gq_lt xe_int (xv 1) (xe_len T.z_len (XE.xo (xe_idx (xv 0) xe_int)))))
  (xss_one xs_never)
  xss_nil))
theorem ok_common_parts : FnOk P w K mg base CX0 1 T.f_common_parts T.d_common_parts ["one", "other"] (spF K g_common_parts) :=
  fn_okE (k := 0) b_common_parts 8 2 T.F_common_parts sc_common_parts rfl rfl rfl fun cdv A outer s H E hr =>
  (xss_cons (xs_par 2 3 (xl_cons (xe_tup (xl_cons (xv 0) (xl_cons xe_int (xl_cons xe_int xl_nil)))) (xl_cons (xe_tup (xl_cons (xv 1) (xl_cons xe_int (xl_cons xe_int xl_nil)))) xl_nil)) sc_common_parts.nd)
  (xss_cons (xs_while FU PassesOwn.never (xb_cmp (op_neD hr.units) gq_ne (xe_idx (xv 3) xe_int) xe_int (nomark _))
  (xss_cons (xs_set 4 (xe_div (xe_idx (xv 2) xe_int) (xe_idx (xv 3) xe_int)) sc_common_parts.nd)
  (xss_cons (xs_set 5 (xe_tuple T.z_tuple (XE.xo (XN.xe (xn_comp (own := [("a", 6), ("b", 7)]) (xi_zip (xv 2) (xv 3) T.z_zip) sc_common_parts.nd (blkOk_by (N := N_common_parts) (sc := defScope s_common_parts) (by decide +kernel)) (fun _ _ _ _ _ => (xg_tup (xgs_cons (xg_name 6 sc_common_parts.nd) (xgs_cons (xg_name 7 sc_common_parts.nd) xgs_nil)))) (fun _ _ _ _ _ => xts_nil) (fun _ _ _ _ _ => (xe_sub (xv 6) (xe_mul (xv 4) (xv 7)))))))) sc_common_parts.nd)
  (xss_one (xs_par 2 3 (xl_cons (xv 3) (xl_cons (xv 5) xl_nil)) sc_common_parts.nd)))))
  (xss_one (xs_ret (xv 2)))))
theorem ok_swaps_of : FnOk P w K mg base CX0 1 T.f_swaps_of T.d_swaps_of ["hands"] (spF K g_swaps_of) :=
  fn_okE (k := 0) b_swaps_of 8 1 T.F_swaps_of sc_swaps_of rfl rfl rfl fun cdv A outer s H E hr =>
  (xss_cons (xs_set 1 (XN.xe (xn_lst (xl_cons (xe_tup xl_nil) xl_nil))) sc_swaps_of.nd)
  (xss_cons (xs_for PassesOwn.never (xi_seq (xv 0)) (xg_tup (xgs_cons (xg_name 2 sc_swaps_of.nd) (xgs_cons (xg_name 3 sc_swaps_of.nd) (xgs_cons (xg_name 4 sc_swaps_of.nd) xgs_nil))))
  (xss_cons (xs_setO 5 (xn_lst xl_nil) sc_swaps_of.nd)
  (xss_cons (xs_for PassesOwn.never (xi_seq (xv 1)) (xg_name 6 sc_swaps_of.nd)
  (xss_one (xs_for PassesOwn.never (xi_rng1 (xe_len T.z_len (XE.xo (xv 0))) T.z_range) (xg_name 7 sc_swaps_of.nd)
  (xss_one (xs_if (xb_w (xw_and (xb_ni (hu65 hr) (xv 7) (XE.xo (xv 6))) (xw_and1 (xb_cmp (op_eqD hr.units) gq_eq (xe_idx (xe_idx (xv 0) (xv 7)) xe_int) (xv 4) (nomark _)))))
  (xss_one (xs_expr (xe_mut 5 PySem.F.slot_list_append PySem.F.type_list_append mt_append gm_append (xe_add (xv 6) (xe_tup (xl_cons (xv 7) xl_nil))))))
  xss_nil)))))
  (xss_one (xs_frz 5 (xs_set 1 (xv 5) sc_swaps_of.nd))))))
  (xss_one (xs_ret (xv 1)))))
theorem ok_rows_of : FnOk P w K mg base CX0 1 T.f_rows_of T.d_rows_of ["clock", "reading"] (spF K g_rows_of) :=
  fn_okE (k := 0) b_rows_of 17 2 T.F_rows_of sc_rows_of rfl rfl rfl fun cdv A outer s H E hr =>
  (xss_cons (xs_asg (xv 0) (xg_tup (xgs_cons (xg_name 2 sc_rows_of.nd) (xgs_cons (xg_name 3 sc_rows_of.nd) (xgs_cons (xg_name 4 sc_rows_of.nd) (xgs_cons (xg_name 5 sc_rows_of.nd) xgs_nil))))))
  (xss_cons (xs_asg (xv 1) (xg_tup (xgs_cons (xg_name 6 sc_rows_of.nd) (xgs_cons (xg_name 7 sc_rows_of.nd) xgs_nil))))
  (xss_cons (xs_set 8 (xe_sub xe_int (xe_mul xe_int (xe_int1 T.z_int (XE.xo (xv 7))))) sc_rows_of.nd)
  (xss_cons (xs_setO 9 (xn_lst xl_nil) sc_rows_of.nd)
  (xss_cons (xs_for PassesOwn.never (xi_zip (xv 6) (xv 3) T.z_zip) (xg_tup (xgs_cons (xg_name 10 sc_rows_of.nd) (xgs_cons (xg_tup (xgs_cons (xg_name 11 sc_rows_of.nd) (xgs_cons (xg_name 12 sc_rows_of.nd) (xgs_cons (xg_name 13 sc_rows_of.nd) xgs_nil)))) xgs_nil)))
  (xss_one (xs_expr (xe_mut 9 PySem.F.slot_list_append PySem.F.type_list_append mt_append gm_append (xe_tup (xl_cons (xe_idx (xe_idx (xv 3) (xv 10)) xe_int) (xl_cons (xe_mod (xe_mul (xv 8) (xv 11)) (xv 2)) (xl_cons (xe_mod (xe_sub (xe_mul (xv 8) (xv 12)) (xe_idx (xe_idx (xv 3) (xv 10)) xe_int)) (xv 2)) xl_nil))))))))
  (xss_cons (xs_if (xb_not (xb_val (xv 4)))
  (xss_one (xs_frz 9 (xs_ret (xv 9))))
  xss_nil)
  (xss_one (xs_ret (XN.xe (xn_comp (own := [("row", 14)]) (xi_seq (XN.xe (xn_sliceV 9 (xp_some xe_int) xp_none))) sc_rows_of.nd (blkOk_by (N := N_rows_of) (sc := defScope s_rows_of) (by decide +kernel)) (fun _ _ _ _ _ => (xg_name 14 sc_rows_of.nd)) (fun _ _ _ _ _ => xts_nil) (fun _ _ _ _ _ => (xe_tuple T.z_tuple (XE.xo (XN.xe (xn_comp (own := [("one", 15), ("other", 16)]) (xi_zip (xv 14) (xe_idxV 9 xe_int) T.z_zip) sc_rows_of.nd (blkOk_to rfl (blkOk_by (N := N_rows_of) (sc := sr_rows_of_0) (by decide +kernel))) (fun _ _ _ _ _ => (xg_tup (xgs_cons (xg_name 15 sc_rows_of.nd) (xgs_cons (xg_name 16 sc_rows_of.nd) xgs_nil)))) (fun _ _ _ _ _ => xts_nil) (fun _ _ _ _ _ => (xe_mod (xe_sub (xv 15) (xv 16)) (xv 2))))))))))))))))))
theorem ok_times_all : FnOk P w K mg base CX0 1 T.f_times_all T.d_times_all ["multipliers", "numbers"] (spF K g_times_all) :=
  fn_okE (k := 0) b_times_all 4 2 T.F_times_all sc_times_all rfl rfl rfl fun cdv A outer s H E hr =>
  (xss_one (xs_ret (xe_sum T.z_sum (XE.xo (XN.xe (xn_comp (own := [("by", 2), ("number", 3)]) (xi_zipA (xv 0) (xv 1) T.z_zip) sc_times_all.nd (blkOk_by (N := N_times_all) (sc := defScope s_times_all) (by decide +kernel)) (fun _ _ _ _ _ => (xg_tup (xgs_cons (xg_name 2 sc_times_all.nd) (xgs_cons (xg_name 3 sc_times_all.nd) xgs_nil)))) (fun _ _ _ _ _ => xts_nil) (fun _ _ _ _ _ => (xe_mul (xv 2) (xv 3)))))))))
theorem ok_sets_of : FnOk P w K mg base CX0 1 T.f_sets_of T.d_sets_of ["many", "size"] (spF K g_sets_of) :=
  fn_okE (k := 0) b_sets_of 7 2 T.F_sets_of sc_sets_of rfl rfl rfl fun cdv A outer s H E hr =>
  (xss_cons (xs_set 2 (XN.xe (xn_lst (xl_cons (xe_tup xl_nil) xl_nil))) sc_sets_of.nd)
  (xss_cons (xs_for PassesOwn.never (xi_rng1 (xv 1) T.z_range) (xg_name 3 sc_sets_of.nd)
  (xss_cons (xs_setO 4 (xn_lst xl_nil) sc_sets_of.nd)
  (xss_cons (xs_for PassesOwn.never (xi_seq (xv 2)) (xg_name 5 sc_sets_of.nd)
  (xss_one (xs_expr (xe_mut 4 PySem.F.slot_list_extend PySem.F.type_list_extend mt_extend gm_extend (XN.xe (xn_comp (own := [("number", 6)]) (xi_rng2 (xe_add (xe_maxD (hu65 hr) T.z_max (xv 5) (xe_neg xe_int)) xe_int) (xv 0) T.z_range) sc_sets_of.nd (blkOk_by (N := N_sets_of) (sc := defScope s_sets_of) (by decide +kernel)) (fun _ _ _ _ _ => (xg_name 6 sc_sets_of.nd)) (fun _ _ _ _ _ => xts_nil) (fun _ _ _ _ _ => (xe_add (xv 5) (xe_tup (xl_cons (xv 6) xl_nil))))))))))
  (xss_one (xs_frz 4 (xs_set 2 (xv 4) sc_sets_of.nd))))))
  (xss_one (xs_ret (xv 2)))))
theorem ok_is_rising_in : FnOk P w K mg base CX0 1 T.f_is_rising_in T.d_is_rising_in ["hands", "many"] (spF K g_is_rising_in) :=
  fn_okE (k := 0) b_is_rising_in 3 2 T.F_is_rising_in sc_is_rising_in rfl rfl rfl fun cdv A outer s H E hr =>
  (xss_one (xs_ret (xe_cmp (op_eqD hr.units) gq_eq (XN.xe (xn_list T.z_list (XE.xo (xv 0)))) (XN.xe (xn_comp (own := [("number", 2)]) (xi_rng1 (xv 1) T.z_range) sc_is_rising_in.nd (blkOk_by (N := N_is_rising_in) (sc := defScope s_is_rising_in) (by decide +kernel)) (fun _ _ _ _ _ => (xg_name 2 sc_is_rising_in.nd)) (fun _ _ _ _ _ => (xts_one (xb_in (hu65 hr) (xv 2) (XE.xo (xv 0))))) (fun _ _ _ _ _ => (xv 2)))) (nomark _))))
theorem ok__law_cells : FnOk P w K mg base CX0 1 T.f__law_cells T.d__law_cells ["script", "many"] (spF K g__law_cells) :=
  fn_okE (k := 0) b__law_cells 5 2 T.F__law_cells sc__law_cells rfl rfl rfl fun cdv A outer s H E hr =>
  (xss_cons (xs_setO 2 (xn_list T.z_list (XE.xo (XN.xe (xn_sliceV 0 xp_none (xp_some (xv 1)))))) sc__law_cells.nd)
  (xss_cons (xs_for PassesOwn.never (xi_enum (XN.xe (xn_sliceV 0 (xp_some (xv 1)) (xp_some xe_int))) T.z_enumerate) (xg_tup (xgs_cons (xg_name 3 sc__law_cells.nd) (xgs_cons (xg_name 4 sc__law_cells.nd) xgs_nil)))
  (xss_one (xs_put 2 (xe_add (xe_mul (xe_idxV 2 (xe_mod (xv 3) (xv 1))) xe_int) (xv 4)) (xe_mod (xv 3) (xv 1)))))
  (xss_one (xs_frz 2 (xs_ret (xv 2))))))
theorem ok__law_pool : FnOk P w K mg base CX0 1 T.f__law_pool T.d__law_pool ["cells", "k"] (spN K g__law_pool) :=
  fn_newE (k := 0) b__law_pool 4 2 T.F__law_pool sc__law_pool rfl rfl rfl fun cdv A outer s H E hr =>
  (xss_cons (xs_set 2 xe_int sc__law_pool.nd)
  (xss_cons (xs_if (xb_cmp op_gt gq_gt (xe_len T.z_len (XE.xo (xv 0))) xe_int (nomark _))
  (xss_one (xs_set 2 (xe_add (xe_idx (xv 0) (xe_mod (xv 1) (xe_len T.z_len (XE.xo (xv 0))))) (xe_div (xv 1) (xe_len T.z_len (XE.xo (xv 0))))) sc__law_pool.nd))
  xss_nil)
  (xss_cons (xs_set 3 xe_int sc__law_pool.nd)
  (xss_cons (xs_if (xb_w (xw_or (xb_cmp op_lt gq_lt (xv 2) xe_int (nomark _)) (xw_or1 (xb_cmp op_ge gq_ge (xv 2) (xe_pow xe_int xe_int) (nomark _)))))
  (xss_one (xs_set 3 (xe_abs T.z_abs (XE.xo (xv 2))) sc__law_pool.nd))
  xss_nil)
  (xss_one (xs_retL (xn_lst (xl_cons (xv 3) (xl_cons (xe_mod (xe_add (xe_mul (xe_mod (xv 2) xe_int) xe_int) (xe_mul (xe_mul xe_int (xe_add (xv 1) xe_int)) (xe_add (xv 1) xe_int))) xe_int) xl_nil)))))))))
theorem ok__law_take : FnOk P w K mg base CX0 1 T.f__law_take T.d__law_take ["pool", "many"] (spF K g__law_take) :=
  fn_okE (k := 0) b__law_take 3 2 T.F__law_take sc__law_take rfl rfl rfl fun cdv A outer s H E hr =>
  (xss_cons (xs_if (xb_cmp op_gt gq_gt (xe_idxV 0 xe_int) xe_int (nomark _))
  (xss_cons (xs_set 2 (xe_mod (xe_idxV 0 xe_int) (xv 1)) sc__law_take.nd)
  (xss_cons (xs_put 0 (xe_div (xe_idxV 0 xe_int) (xv 1)) xe_int)
  (xss_one (xs_ret (xv 2)))))
  xss_nil)
  (xss_cons (xs_put 0 (xe_mod (xe_add (xe_mul (xe_idxV 0 xe_int) xe_int) xe_int) xe_int) xe_int)
  (xss_one (xs_ret (xe_mod (xe_div (xe_mod (xe_mul (xe_mod (xe_mul (xe_idxV 0 xe_int) (xe_idxV 0 xe_int)) xe_int) xe_int) xe_int) xe_int) (xv 1))))))
theorem ok__law_power : FnOk P w K mg base CX0 1 T.f__law_power T.d__law_power ["base", "times"] (spF K g__law_power) :=
  fn_okE (k := 0) b__law_power 4 2 T.F__law_power sc__law_power rfl rfl rfl fun cdv A outer s H E hr =>
  (xss_cons (xs_set 2 xe_int sc__law_power.nd)
  (xss_cons (xs_for PassesOwn.never (xi_rng1 (xv 1) T.z_range) (xg_name 3 sc__law_power.nd)
  (xss_one (xs_set 2 (xe_mul (xv 2) (xv 0)) sc__law_power.nd)))
  (xss_one (xs_ret (xv 2)))))
theorem ok__law_sets : FnOk P w K mg base CX0 1 T.f__law_sets T.d__law_sets ["count", "size"] (spF K g__law_sets) :=
  fn_okE (k := 0) b__law_sets 7 2 T.F__law_sets sc__law_sets rfl rfl rfl fun cdv A outer s H E hr =>
  (xss_cons (xs_set 2 (XN.xe (xn_lst (xl_cons (xe_tup xl_nil) xl_nil))) sc__law_sets.nd)
  (xss_cons (xs_for PassesOwn.never (xi_rng1 (xv 1) T.z_range) (xg_name 3 sc__law_sets.nd)
  (xss_cons (xs_setO 4 (xn_lst xl_nil) sc__law_sets.nd)
  (xss_cons (xs_for PassesOwn.never (xi_seq (xv 2)) (xg_name 5 sc__law_sets.nd)
  (xss_one (xs_expr (xe_mut 4 PySem.F.slot_list_extend PySem.F.type_list_extend mt_extend gm_extend (XN.xe (xn_comp (own := [("number", 6)]) (xi_rng1 (xv 0) T.z_range) sc__law_sets.nd (blkOk_by (N := N__law_sets) (sc := defScope s__law_sets) (by decide +kernel)) (fun _ _ _ _ _ => (xg_name 6 sc__law_sets.nd)) (fun _ _ _ _ _ => (xts_one (xb_w (xw_or (xb_cmp (op_eqD hr.units) gq_eq (xv 5) (xe_tup xl_nil) (nomark _)) (xw_or1 (xb_cmp op_gt gq_gt (xv 6) (xe_idx (xv 5) (xe_neg xe_int)) (nomark _))))))) (fun _ _ _ _ _ => (xe_add (xv 5) (xe_tup (xl_cons (xv 6) xl_nil))))))))))
  (xss_one (xs_frz 4 (xs_set 2 (xv 4) sc__law_sets.nd))))))
  (xss_one (xs_ret (xv 2)))))
theorem ok_hands_asked : FnOk P w K mg base CX0 2 T.f_hands_asked T.d_hands_asked ["clock", "some"] (spF K g_hands_asked) :=
  fn_okE (k := 1) b_hands_asked 4 2 T.F_hands_asked sc_hands_asked rfl rfl rfl fun cdv A outer s H E hr =>
  (xss_one (xs_for PassesOwn.never (xi_enumA (xv 1) T.z_enumerate) (xg_tup (xgs_cons (xg_name 2 sc_hands_asked.nd) (xgs_cons (xg_name 3 sc_hands_asked.nd) xgs_nil)))
  (xss_cons (xs_expr (xe_call ((ok_hand_asked T).mono (by decide)) hr T.m_hand_asked T.F_hand_asked.kp T.b_hand_asked (xa_v (xv 0) (xa_v (xv 3) xa_nil))))
  (xss_one (xs_if (xb_w (xw_and (xb_cmp op_gt gq_gt (xv 2) xe_int (nomark _)) (xw_and1 (xb_cmp op_le gq_le (xv 3) (xe_idx (xv 1) (xe_sub (xv 2) xe_int)) (nomark _)))))
  (xss_one xs_never)
  xss_nil)))))
theorem ok_weights_of : FnOk P w K mg base CX0 2 T.f_weights_of T.d_weights_of ["many", "numbers"] (spF K g_weights_of) :=
  fn_okE (k := 1) b_weights_of 8 2 T.F_weights_of sc_weights_of rfl rfl rfl fun cdv A outer s H E hr =>
  (xss_cons (xs_set 2 (xv 0) sc_weights_of.nd)
  (xss_cons (xs_set 3 (XN.xe (xn_lst xl_nil)) sc_weights_of.nd)
  (xss_cons (xs_for PassesOwn.never (xi_seq (xv 1)) (xg_name 4 sc_weights_of.nd)
  (xss_cons (xs_asg (xe_call ((ok_common_parts T).mono (by decide)) hr T.m_common_parts T.F_common_parts.kp T.b_common_parts (xa_v (xv 2) (xa_v (xe_mod (xv 4) (xv 0)) xa_nil))) (xg_tup (xgs_cons (xg_name 2 sc_weights_of.nd) (xgs_cons (xg_name 5 sc_weights_of.nd) (xgs_cons (xg_name 6 sc_weights_of.nd) xgs_nil)))))
  (xss_one (xs_set 3 (xe_add (XN.xe (xn_comp (own := [("weight", 7)]) (xi_seq (xv 3)) sc_weights_of.nd (blkOk_by (N := N_weights_of) (sc := defScope s_weights_of) (by decide +kernel)) (fun _ _ _ _ _ => (xg_name 7 sc_weights_of.nd)) (fun _ _ _ _ _ => xts_nil) (fun _ _ _ _ _ => (xe_mod (xe_mul (xv 7) (xv 5)) (xv 0))))) (XN.xe (xn_lst (xl_cons (xe_mod (xv 6) (xv 0)) xl_nil)))) sc_weights_of.nd))))
  (xss_one (xs_ret (xe_tup (xl_cons (xv 2) (xl_cons (xv 3) xl_nil))))))))
theorem ok_readings_of : FnOk P w K mg base CX0 2 T.f_readings_of T.d_readings_of ["clock"] (spF K g_readings_of) :=
  fn_okE (k := 1) b_readings_of 3 1 T.F_readings_of sc_readings_of rfl rfl rfl fun cdv A outer s H E hr =>
  (xss_cons (xs_setO 1 (xn_lst xl_nil) sc_readings_of.nd)
  (xss_cons (xs_for PassesOwn.never (xi_seq (xe_call ((ok_swaps_of T).mono (by decide)) hr T.m_swaps_of T.F_swaps_of.kp T.b_swaps_of (xa_v (xe_idx (xv 0) xe_int) xa_nil))) (xg_name 2 sc_readings_of.nd)
  (xss_cons (xs_expr (xe_mut 1 PySem.F.slot_list_append PySem.F.type_list_append mt_append gm_append (xe_tup (xl_cons (xv 2) (xl_cons xe_bl xl_nil)))))
  (xss_one (xs_if (xb_val (xe_idx (xv 0) xe_int))
  (xss_one (xs_expr (xe_mut 1 PySem.F.slot_list_append PySem.F.type_list_append mt_append gm_append (xe_tup (xl_cons (xv 2) (xl_cons xe_bl xl_nil))))))
  xss_nil))))
  (xss_one (xs_frz 1 (xs_ret (xv 1))))))
theorem ok_is_taken : FnOk P w K mg base CX0 2 T.f_is_taken T.d_is_taken ["clock", "reading", "tick", "other"] (spF K g_is_taken) :=
  fn_okE (k := 1) b_is_taken 7 4 T.F_is_taken sc_is_taken rfl rfl rfl fun cdv A outer s H E hr =>
  (xss_one (xs_ret (xe_all T.z_all (XE.xo (XN.xe (xn_comp (own := [("a", 4), ("b", 5), ("c", 6)]) (xi_seq (xe_call ((ok_rows_of T).mono (by decide)) hr T.m_rows_of T.F_rows_of.kp T.b_rows_of (xa_v (xv 0) (xa_v (xv 1) xa_nil)))) sc_is_taken.nd (blkOk_by (N := N_is_taken) (sc := defScope s_is_taken) (by decide +kernel)) (fun _ _ _ _ _ => (xg_tup (xgs_cons (xg_name 4 sc_is_taken.nd) (xgs_cons (xg_name 5 sc_is_taken.nd) (xgs_cons (xg_name 6 sc_is_taken.nd) xgs_nil))))) (fun _ _ _ _ _ => xts_nil) (fun _ _ _ _ _ => (xe_cmp (op_eqD hr.units) gq_eq (xe_mod (xe_sub (xe_sub (xe_mul (xv 4) (xv 3)) (xe_mul (xv 5) (xv 2))) (xv 6)) (xe_idx (xv 0) xe_int)) xe_int (nomark _)))))))))
theorem ok_put_together : FnOk P w K mg base CX0 2 T.f_put_together T.d_put_together ["many", "row", "rows"] (spF K g_put_together) :=
  fn_okE (k := 1) b_put_together 5 3 T.F_put_together sc_put_together rfl rfl rfl fun cdv A outer s H E hr =>
  (xss_one (xs_ret (xe_tuple T.z_tuple (XE.xo (XN.xe (xn_comp (own := [("at", 3)]) (xi_rng1 (xe_len T.z_len (XE.xo (xe_idx (xv 2) xe_int))) T.z_range) sc_put_together.nd (blkOk_by (N := N_put_together) (sc := defScope s_put_together) (by decide +kernel)) (fun _ _ _ _ _ => (xg_name 3 sc_put_together.nd)) (fun _ _ _ _ _ => xts_nil) (fun _ _ _ _ _ => (xe_mod (xe_call ((ok_times_all T).mono (by decide)) hr T.m_times_all T.F_times_all.kp T.b_times_all (xa_v (xv 1) (xa_v (XN.xe (xn_comp (own := [("one", 4)]) (xi_seq (xv 2)) sc_put_together.nd (blkOk_to rfl (blkOk_by (N := N_put_together) (sc := sr_put_together_0) (by decide +kernel))) (fun _ _ _ _ _ => (xg_name 4 sc_put_together.nd)) (fun _ _ _ _ _ => xts_nil) (fun _ _ _ _ _ => (xe_idx (xv 4) (xv 3))))) xa_nil))) (xv 0)))))))))
theorem ok__law_some : FnOk P w K mg base CX0 2 T.f__law_some T.d__law_some ["pool", "menu", "many"] (spF K g__law_some) :=
  fn_okE (k := 1) b__law_some 5 3 T.F__law_some sc__law_some rfl rfl rfl fun cdv A outer s H E hr =>
  (xss_cons (xs_setO 3 (xn_list T.z_list (XE.xo (xv 1))) sc__law_some.nd)
  (xss_one (xs_ret (XN.xe (xn_comp (own := [("k", 4)]) (xi_rng1 (xv 2) T.z_range) sc__law_some.nd (blkOk_by (N := N__law_some) (sc := defScope s__law_some) (by decide +kernel)) (fun _ _ _ _ _ => (xg_name 4 sc__law_some.nd)) (fun _ _ _ _ _ => xts_nil) (fun _ _ _ _ _ => (xe_mut 3 PySem.F.slot_list_pop PySem.F.type_list_pop mt_popAt gm_popAt (xe_call ((ok__law_take T).mono (by decide)) hr T.m__law_take T.F__law_take.kp T.b__law_take (xa_r 0 (xa_v (xe_len T.z_len (xvo 3)) xa_nil))))))))))
theorem ok__law_wide : FnOk P w K mg base CX0 2 T.f__law_wide T.d__law_wide ["pool", "base"] (spF K g__law_wide) :=
  fn_okE (k := 1) b__law_wide 4 2 T.F__law_wide sc__law_wide rfl rfl rfl fun cdv A outer s H E hr =>
  (xss_cons (xs_set 2 xe_int sc__law_wide.nd)
  (xss_cons (xs_for PassesOwn.never (xi_rng1 xe_int T.z_range) (xg_name 3 sc__law_wide.nd)
  (xss_one (xs_set 2 (xe_add (xe_mul (xv 2) (xe_pow xe_int xe_int)) (xe_call ((ok__law_take T).mono (by decide)) hr T.m__law_take T.F__law_take.kp T.b__law_take (xa_r 0 (xa_v (xe_pow xe_int xe_int) xa_nil)))) sc__law_wide.nd)))
  (xss_one (xs_ret (xe_mod (xv 2) (xv 1))))))
theorem ok_painted_hands : FnOk P w K mg base CX0 3 T.f_painted_hands T.d_painted_hands ["clock", "some"] (spF K g_painted_hands) :=
  fn_okE (k := 2) b_painted_hands 14 2 T.F_painted_hands sc_painted_hands rfl rfl rfl fun cdv A outer s H E hr =>
  (xss_cons (xs_expr (xe_call ((ok_hands_asked T).mono (by decide)) hr T.m_hands_asked T.F_hands_asked.kp T.b_hands_asked (xa_v (xv 0) (xa_v (xv 1) xa_nil))))
  (xss_cons (xs_asg (xv 0) (xg_tup (xgs_cons (xg_name 2 sc_painted_hands.nd) (xgs_cons (xg_name 3 sc_painted_hands.nd) (xgs_cons (xg_name 4 sc_painted_hands.nd) (xgs_cons (xg_name 5 sc_painted_hands.nd) xgs_nil))))))
  (xss_cons (xs_setO 6 (xn_list T.z_list (XE.xo (xv 3))) sc_painted_hands.nd)
  (xss_cons (xs_setO 7 (xn_comp (own := [("gear", 10), ("start", 11), ("look", 12)]) (xi_seq (xv 3)) sc_painted_hands.nd (blkOk_by (N := N_painted_hands) (sc := defScope s_painted_hands) (by decide +kernel)) (fun _ _ _ _ _ => (xg_tup (xgs_cons (xg_name 10 sc_painted_hands.nd) (xgs_cons (xg_name 11 sc_painted_hands.nd) (xgs_cons (xg_name 12 sc_painted_hands.nd) xgs_nil))))) (fun _ _ _ _ _ => xts_nil) (fun _ _ _ _ _ => (xv 12))) sc_painted_hands.nd)
  (xss_cons (xs_for PassesOwn.never (xi_seq (xv 1)) (xg_name 8 sc_painted_hands.nd)
  (xss_cons (xs_set 9 (xe_idx (XN.xe (xn_comp (own := [("letter", 13)]) (xi_seq (xe_glob (v := .str _) (by rfl) T.m_LETTERS ⟨_, rfl⟩ (fun _ => .str _))) sc_painted_hands.nd (blkOk_by (N := N_painted_hands) (sc := defScope s_painted_hands) (by decide +kernel)) (fun _ _ _ _ _ => (xg_name 13 sc_painted_hands.nd)) (fun _ _ _ _ _ => (xts_one (xb_ni (hu65 hr) (xv 13) (xvo 7)))) (fun _ _ _ _ _ => (xv 13)))) xe_int) sc_painted_hands.nd)
  (xss_cons (xs_expr (xe_mut 7 PySem.F.slot_list_append PySem.F.type_list_append mt_append gm_append (xv 9)))
  (xss_one (xs_put 6 (xe_tup (xl_cons (xe_idx (xe_idx (xv 3) (xv 8)) xe_int) (xl_cons (xe_idx (xe_idx (xv 3) (xv 8)) xe_int) (xl_cons (xv 9) xl_nil)))) (xv 8))))))
  (xss_one (xs_ret (xe_tup (xl_cons (xv 2) (xl_cons (xe_tuple T.z_tuple (xvo 6)) (xl_cons (xv 4) (xl_cons (xv 5) xl_nil))))))))))))
theorem ok_cleared_of : FnOk P w K mg base CX0 3 T.f_cleared_of T.d_cleared_of ["many", "numbers"] (spF K g_cleared_of) :=
  fn_okE (k := 2) b_cleared_of 10 2 T.F_cleared_of sc_cleared_of rfl rfl rfl fun cdv A outer s H E hr =>
  (xss_cons (xs_asg (xe_call ((ok_weights_of T).mono (by decide)) hr T.m_weights_of T.F_weights_of.kp T.b_weights_of (xa_v (xv 0) (xa_v (xv 1) xa_nil))) (xg_tup (xgs_cons (xg_name 2 sc_cleared_of.nd) (xgs_cons (xg_name 3 sc_cleared_of.nd) xgs_nil))))
  (xss_cons (xs_setO 4 (xn_lst xl_nil) sc_cleared_of.nd)
  (xss_cons (xs_for PassesOwn.never (xi_enum (xv 1) T.z_enumerate) (xg_tup (xgs_cons (xg_name 5 sc_cleared_of.nd) (xgs_cons (xg_name 6 sc_cleared_of.nd) xgs_nil)))
  (xss_cons (xs_set 7 (xe_div (xv 6) (xv 2)) sc_cleared_of.nd)
  (xss_one (xs_expr (xe_mut 4 PySem.F.slot_list_append PySem.F.type_list_append mt_append gm_append (XN.xe (xn_comp (own := [("to", 9), ("weight", 8)]) (xi_enum (xv 3) T.z_enumerate) sc_cleared_of.nd (blkOk_by (N := N_cleared_of) (sc := defScope s_cleared_of) (by decide +kernel)) (fun _ _ _ _ _ => (xg_tup (xgs_cons (xg_name 9 sc_cleared_of.nd) (xgs_cons (xg_name 8 sc_cleared_of.nd) xgs_nil)))) (fun _ _ _ _ _ => xts_nil) (fun _ _ _ _ _ => (xe_sub (xe_int1 T.z_int (XE.xo (xe_cmp (op_eqD hr.units) gq_eq (xv 9) (xv 5) (nomark _)))) (xe_mul (xv 7) (xv 8)))))))))))
  (xss_cons (xs_expr (xe_mut 4 PySem.F.slot_list_append PySem.F.type_list_append mt_append gm_append (XN.xe (xn_comp (own := [("weight", 8)]) (xi_seq (xv 3)) sc_cleared_of.nd (blkOk_by (N := N_cleared_of) (sc := defScope s_cleared_of) (by decide +kernel)) (fun _ _ _ _ _ => (xg_name 8 sc_cleared_of.nd)) (fun _ _ _ _ _ => xts_nil) (fun _ _ _ _ _ => (xe_mul (xe_div (xv 0) (xv 2)) (xv 8)))))))
  (xss_one (xs_frz 4 (xs_ret (xe_tup (xl_cons (xv 4) (xl_cons (xv 3) (xl_cons (xv 2) xl_nil)))))))))))
theorem ok_is_doubt : FnOk P w K mg base CX0 3 T.f_is_doubt T.d_is_doubt ["clock", "doubt"] (spF K g_is_doubt) :=
  fn_okE (k := 2) b_is_doubt 5 2 T.F_is_doubt sc_is_doubt rfl rfl rfl fun cdv A outer s H E hr =>
  (xss_cons (xs_asg (xv 1) (xg_tup (xgs_cons (xg_name 2 sc_is_doubt.nd) (xgs_cons (xg_name 3 sc_is_doubt.nd) (xgs_cons (xg_name 4 sc_is_doubt.nd) xgs_nil)))))
  (xss_cons (xs_if (xb_w (xw_or (xb_cmp (op_eqD hr.units) gq_eq (xe_mod (xe_sub (xv 2) (xv 3)) (xe_idx (xv 0) xe_int)) xe_int (nomark _)) (xw_or1 (xb_ni (hu65 hr) (xv 4) (XE.xo (xe_call ((ok_readings_of T).mono (by decide)) hr T.m_readings_of T.F_readings_of.kp T.b_readings_of (xa_v (xv 0) xa_nil)))))))
  (xss_one (xs_ret xe_bl))
  xss_nil)
  (xss_one (xs_ret (xe_call ((ok_is_taken T).mono (by decide)) hr T.m_is_taken T.F_is_taken.kp T.b_is_taken (xa_v (xv 0) (xa_v (xv 4) (xa_v (xv 2) (xa_v (xv 3) xa_nil)))))))))
theorem ok__law_dial : FnOk P w K mg base CX0 3 T.f__law_dial T.d__law_dial ["pool"] (spF K g__law_dial) :=
  fn_okE (k := 2) b__law_dial 2 1 T.F__law_dial sc__law_dial rfl rfl rfl fun cdv A outer s H E hr =>
  (xss_cons (xs_set 1 (xe_call ((ok__law_take T).mono (by decide)) hr T.m__law_take T.F__law_take.kp T.b__law_take (xa_r 0 (xa_v xe_int xa_nil))) sc__law_dial.nd)
  (xss_cons (xs_if (xb_cmp op_lt gq_lt (xv 1) xe_int (nomark _))
  (xss_one (xs_ret (xe_add xe_int (xe_call ((ok__law_take T).mono (by decide)) hr T.m__law_take T.F__law_take.kp T.b__law_take (xa_r 0 (xa_v xe_int xa_nil))))))
  xss_nil)
  (xss_cons (xs_if (xb_cmp (op_eqD hr.units) gq_eq (xv 1) xe_int (nomark _))
  (xss_one (xs_ret (xe_idx (XN.xe (xn_lst (xl_cons xe_int (xl_cons xe_int (xl_cons xe_int (xl_cons xe_int (xl_cons xe_int (xl_cons xe_int xl_nil)))))))) (xe_call ((ok__law_take T).mono (by decide)) hr T.m__law_take T.F__law_take.kp T.b__law_take (xa_r 0 (xa_v xe_int xa_nil))))))
  xss_nil)
  (xss_cons (xs_if (xb_cmp (op_eqD hr.units) gq_eq (xv 1) xe_int (nomark _))
  (xss_one (xs_ret (xe_call ((ok__law_power T).mono (by decide)) hr T.m__law_power T.F__law_power.kp T.b__law_power (xa_v xe_int (xa_v (xe_add xe_int (xe_call ((ok__law_take T).mono (by decide)) hr T.m__law_take T.F__law_take.kp T.b__law_take (xa_r 0 (xa_v xe_int xa_nil)))) xa_nil)))))
  xss_nil)
  (xss_cons (xs_if (xb_cmp (op_eqD hr.units) gq_eq (xv 1) xe_int (nomark _))
  (xss_one (xs_ret (xe_call ((ok__law_power T).mono (by decide)) hr T.m__law_power T.F__law_power.kp T.b__law_power (xa_v xe_int (xa_v (xe_add xe_int (xe_call ((ok__law_take T).mono (by decide)) hr T.m__law_take T.F__law_take.kp T.b__law_take (xa_r 0 (xa_v xe_int xa_nil)))) xa_nil)))))
  xss_nil)
  (xss_one (xs_ret (xe_mul (xe_idx (XN.xe (xn_lst (xl_cons xe_int (xl_cons xe_int (xl_cons xe_int (xl_cons xe_int xl_nil)))))) (xe_call ((ok__law_take T).mono (by decide)) hr T.m__law_take T.F__law_take.kp T.b__law_take (xa_r 0 (xa_v xe_int xa_nil)))) (xe_add xe_int (xe_call ((ok__law_wide T).mono (by decide)) hr T.m__law_wide T.F__law_wide.kp T.b__law_wide (xa_r 0 (xa_v (xe_pow xe_int xe_int) xa_nil))))))))))))
theorem ok__law_mark : FnOk P w K mg base CX0 3 T.f__law_mark T.d__law_mark ["pool", "many"] (spF K g__law_mark) :=
  fn_okE (k := 2) b__law_mark 4 2 T.F__law_mark sc__law_mark rfl rfl rfl fun cdv A outer s H E hr =>
  (xss_cons (xs_set 2 (xe_call ((ok__law_take T).mono (by decide)) hr T.m__law_take T.F__law_take.kp T.b__law_take (xa_r 0 (xa_v xe_int xa_nil))) sc__law_mark.nd)
  (xss_cons (xs_set 3 (xe_idx (XN.xe (xn_lst (xl_cons xe_int (xl_cons xe_int (xl_cons xe_int (xl_cons xe_int (xl_cons xe_int (xl_cons xe_int (xl_cons xe_int (xl_cons xe_int (xl_cons xe_int xl_nil))))))))))) (xe_call ((ok__law_take T).mono (by decide)) hr T.m__law_take T.F__law_take.kp T.b__law_take (xa_r 0 (xa_v xe_int xa_nil)))) sc__law_mark.nd)
  (xss_cons (xs_if (xb_cmp (op_eqD hr.units) gq_eq (xv 2) xe_int (nomark _))
  (xss_one (xs_ret (xe_mod (xe_call ((ok__law_take T).mono (by decide)) hr T.m__law_take T.F__law_take.kp T.b__law_take (xa_r 0 (xa_v xe_int xa_nil))) (xv 1))))
  xss_nil)
  (xss_cons (xs_if (xb_cmp (op_eqD hr.units) gq_eq (xv 2) xe_int (nomark _))
  (xss_one (xs_ret (xe_sub (xe_sub (xv 1) xe_int) (xe_mod (xe_call ((ok__law_take T).mono (by decide)) hr T.m__law_take T.F__law_take.kp T.b__law_take (xa_r 0 (xa_v xe_int xa_nil))) (xv 1)))))
  xss_nil)
  (xss_cons (xs_if (xb_w (xw_and (xb_cmp op_lt gq_lt (xv 2) xe_int (nomark _)) (xw_and1 (xb_cmp (op_eqD hr.units) gq_eq (xe_mod (xv 1) (xv 3)) xe_int (nomark _)))))
  (xss_one (xs_ret (xe_idx (XN.xe (xn_lst (xl_cons (xe_mul (xe_div (xv 1) (xv 3)) (xe_call ((ok__law_take T).mono (by decide)) hr T.m__law_take T.F__law_take.kp T.b__law_take (xa_r 0 (xa_v (xv 3) xa_nil)))) (xl_cons (xe_mod (xe_mul (xv 3) (xe_call ((ok__law_wide T).mono (by decide)) hr T.m__law_wide T.F__law_wide.kp T.b__law_wide (xa_r 0 (xa_v (xv 1) xa_nil)))) (xv 1)) xl_nil)))) (xe_sub (xv 2) xe_int))))
  xss_nil)
  (xss_one (xs_ret (xe_call ((ok__law_wide T).mono (by decide)) hr T.m__law_wide T.F__law_wide.kp T.b__law_wide (xa_r 0 (xa_v (xv 1) xa_nil))))))))))
theorem ok_reading_doubt : FnOk P w K mg base CX0 4 T.f_reading_doubt T.d_reading_doubt ["many", "rows"] (spF K g_reading_doubt) :=
  fn_okE (k := 3) b_reading_doubt 18 2 T.F_reading_doubt sc_reading_doubt rfl rfl rfl fun cdv A outer s H E hr =>
  (xss_cons (xs_if (xb_cmp (op_eqD hr.units) gq_eq (xv 1) (XN.xe (xn_lst xl_nil)) (nomark _))
  (xss_one (xs_ret (xe_tup (xl_cons xe_str (xl_cons xe_int (xl_cons xe_int xl_nil))))))
  xss_nil)
  (xss_cons (xs_set 2 (XN.xe (xn_comp (own := [("a", 15), ("b", 16), ("c", 17)]) (xi_seq (xv 1)) sc_reading_doubt.nd (blkOk_by (N := N_reading_doubt) (sc := defScope s_reading_doubt) (by decide +kernel)) (fun _ _ _ _ _ => (xg_tup (xgs_cons (xg_name 15 sc_reading_doubt.nd) (xgs_cons (xg_name 16 sc_reading_doubt.nd) (xgs_cons (xg_name 17 sc_reading_doubt.nd) xgs_nil))))) (fun _ _ _ _ _ => xts_nil) (fun _ _ _ _ _ => (xv 15)))) sc_reading_doubt.nd)
  (xss_cons (xs_set 3 (XN.xe (xn_comp (own := [("a", 15), ("b", 16), ("c", 17)]) (xi_seq (xv 1)) sc_reading_doubt.nd (blkOk_by (N := N_reading_doubt) (sc := defScope s_reading_doubt) (by decide +kernel)) (fun _ _ _ _ _ => (xg_tup (xgs_cons (xg_name 15 sc_reading_doubt.nd) (xgs_cons (xg_name 16 sc_reading_doubt.nd) (xgs_cons (xg_name 17 sc_reading_doubt.nd) xgs_nil))))) (fun _ _ _ _ _ => xts_nil) (fun _ _ _ _ _ => (xv 17)))) sc_reading_doubt.nd)
  (xss_cons (xs_asg (xe_call ((ok_cleared_of T).mono (by decide)) hr T.m_cleared_of T.F_cleared_of.kp T.b_cleared_of (xa_v (xv 0) (xa_v (XN.xe (xn_comp (own := [("a", 15), ("b", 16), ("c", 17)]) (xi_seq (xv 1)) sc_reading_doubt.nd (blkOk_by (N := N_reading_doubt) (sc := defScope s_reading_doubt) (by decide +kernel)) (fun _ _ _ _ _ => (xg_tup (xgs_cons (xg_name 15 sc_reading_doubt.nd) (xgs_cons (xg_name 16 sc_reading_doubt.nd) (xgs_cons (xg_name 17 sc_reading_doubt.nd) xgs_nil))))) (fun _ _ _ _ _ => xts_nil) (fun _ _ _ _ _ => (xe_mod (xe_sub (xv 15) (xv 16)) (xv 0))))) xa_nil))) (xg_tup (xgs_cons (xg_name 4 sc_reading_doubt.nd) (xgs_cons (xg_name 5 sc_reading_doubt.nd) (xgs_cons (xg_name 6 sc_reading_doubt.nd) xgs_nil)))))
  (xss_cons (xs_setComp 8 (own := [("row", 7)]) (xi_seq (xv 4)) sc_reading_doubt.nd (blkOk_by (N := N_reading_doubt) (sc := defScope s_reading_doubt) (by decide +kernel)) (fun _ _ _ _ _ => (xg_name 7 sc_reading_doubt.nd)) (fun _ _ _ _ _ => xts_nil) (fun _ _ _ _ _ => (xe_mod (xe_call ((ok_times_all T).mono (by decide)) hr T.m_times_all T.F_times_all.kp T.b_times_all (xa_v (xv 7) (xa_v (xv 2) xa_nil))) (xv 0))) (sw_true rfl rfl rfl (by decide +kernel)))
  (xss_cons (xs_setComp 9 (own := [("row", 7)]) (xi_seq (xv 4)) sc_reading_doubt.nd (blkOk_by (N := N_reading_doubt) (sc := defScope s_reading_doubt) (by decide +kernel)) (fun _ _ _ _ _ => (xg_name 7 sc_reading_doubt.nd)) (fun _ _ _ _ _ => xts_nil) (fun _ _ _ _ _ => (xe_mod (xe_call ((ok_times_all T).mono (by decide)) hr T.m_times_all T.F_times_all.kp T.b_times_all (xa_v (xv 7) (xa_v (xv 3) xa_nil))) (xv 0))) (sw_true rfl rfl rfl (by decide +kernel)))
  (xss_cons (xs_asg (xe_call ((ok_cleared_of T).mono (by decide)) hr T.m_cleared_of T.F_cleared_of.kp T.b_cleared_of (xa_v (xv 0) (xa_v (xv 8) xa_nil))) (xg_tup (xgs_cons (xg_name 10 sc_reading_doubt.nd) (xgs_cons (xg_name 11 sc_reading_doubt.nd) (xgs_cons (xg_name 12 sc_reading_doubt.nd) xgs_nil)))))
  (xss_cons (xs_for PassesOwn.never (xi_seq (xv 10)) (xg_name 7 sc_reading_doubt.nd)
  (xss_one (xs_if (xb_cmp (op_neD hr.units) gq_ne (xe_mod (xe_call ((ok_times_all T).mono (by decide)) hr T.m_times_all T.F_times_all.kp T.b_times_all (xa_v (xv 7) (xa_v (xv 9) xa_nil))) (xv 0)) xe_int (nomark _))
  (xss_one (xs_ret (xe_tup (xl_cons xe_str (xl_cons (xe_call ((ok_put_together T).mono (by decide)) hr T.m_put_together T.F_put_together.kp T.b_put_together (xa_v (xv 0) (xa_v (xv 7) (xa_v (xv 4) xa_nil)))) xl_nil)))))
  xss_nil)))
  (xss_cons (xs_set 13 (xe_mod (xe_call ((ok_times_all T).mono (by decide)) hr T.m_times_all T.F_times_all.kp T.b_times_all (xa_v (xv 11) (xa_v (xv 9) xa_nil))) (xv 0)) sc_reading_doubt.nd)
  (xss_cons (xs_set 14 (xe_mod (xe_div (xv 13) (xv 12)) (xe_div (xv 0) (xv 12))) sc_reading_doubt.nd)
  (xss_cons (xs_if (xb_w (xw_and (xb_cmp (op_eqD hr.units) gq_eq (xv 14) xe_int (nomark _)) (xw_and1 (xb_cmp (op_eqD hr.units) gq_eq (xv 12) xe_int (nomark _)))))
  (xss_one (xs_ret (xe_tup (xl_cons xe_str (xl_cons (xe_call ((ok_put_together T).mono (by decide)) hr T.m_put_together T.F_put_together.kp T.b_put_together (xa_v (xv 0) (xa_v (xv 11) (xa_v (xv 4) xa_nil)))) xl_nil)))))
  xss_nil)
  (xss_cons (xs_if (xb_cmp (op_eqD hr.units) gq_eq (xv 14) xe_int (nomark _))
  (xss_one (xs_set 14 (xe_div (xv 0) (xv 12)) sc_reading_doubt.nd))
  xss_nil)
  (xss_one (xs_ret (xe_tup (xl_cons xe_str (xl_cons (xe_div (xe_mod (xe_sub (xe_call ((ok_times_all T).mono (by decide)) hr T.m_times_all T.F_times_all.kp T.b_times_all (xa_v (xv 5) (xa_v (xv 3) xa_nil))) (xe_mul (xe_call ((ok_times_all T).mono (by decide)) hr T.m_times_all T.F_times_all.kp T.b_times_all (xa_v (xv 5) (xa_v (xv 2) xa_nil))) (xv 14))) (xv 0)) (xv 6)) (xl_cons (xv 14) xl_nil))))))))))))))))))
theorem ok_are_doubts : FnOk P w K mg base CX0 4 T.f_are_doubts T.d_are_doubts ["clocks", "doubts"] (spF K g_are_doubts) :=
  fn_okE (k := 3) b_are_doubts 4 2 T.F_are_doubts sc_are_doubts rfl rfl rfl fun cdv A outer s H E hr =>
  (xss_one (xs_ret (xe_and (xe_cmp (op_eqD hr.units) gq_eq (xe_len T.z_len (XE.xo (xv 1))) (xe_len T.z_len (XE.xo (xv 0))) (nomark _)) (xe_one (xe_all T.z_all (XE.xo (XN.xe (xn_comp (own := [("clock", 2), ("doubt", 3)]) (xi_zip (xv 0) (xv 1) T.z_zip) sc_are_doubts.nd (blkOk_by (N := N_are_doubts) (sc := defScope s_are_doubts) (by decide +kernel)) (fun _ _ _ _ _ => (xg_tup (xgs_cons (xg_name 2 sc_are_doubts.nd) (xgs_cons (xg_name 3 sc_are_doubts.nd) xgs_nil)))) (fun _ _ _ _ _ => xts_nil) (fun _ _ _ _ _ => (xe_call ((ok_is_doubt T).mono (by decide)) hr T.m_is_doubt T.F_is_doubt.kp T.b_is_doubt (xa_v (xv 2) (xa_v (xv 3) xa_nil))))))))))))
theorem ok__law_hands : FnOk P w K mg base CX0 4 T.f__law_hands T.d__law_hands ["pool", "many", "count", "mirror"] (spF K g__law_hands) :=
  fn_okE (k := 3) b__law_hands 9 4 T.F__law_hands sc__law_hands rfl rfl rfl fun cdv A outer s H E hr =>
  (xss_cons (xs_set 4 (xe_call ((ok__law_some T).mono (by decide)) hr T.m__law_some T.F__law_some.kp T.b__law_some (xa_r 0 (xa_v (XN.xe (xn_listS T.z_list (XE.xo xe_str))) (xa_v xe_int xa_nil)))) sc__law_hands.nd)
  (xss_cons (xs_set 5 (XN.xe (xn_lst (xl_cons (XN.xe (xn_lst (xl_cons xe_int (xl_cons xe_int (xl_cons xe_int (xl_cons xe_int (xl_cons xe_int xl_nil))))))) (xl_cons (XN.xe (xn_lst (xl_cons xe_int (xl_cons xe_int (xl_cons xe_int (xl_cons xe_int (xl_cons xe_int xl_nil))))))) (xl_cons (XN.xe (xn_lst (xl_cons xe_int (xl_cons xe_int (xl_cons xe_int (xl_cons xe_int (xl_cons xe_int xl_nil))))))) (xl_cons (XN.xe (xn_lst (xl_cons xe_int (xl_cons xe_int (xl_cons xe_int (xl_cons xe_int (xl_cons xe_int xl_nil))))))) (xl_cons (XN.xe (xn_lst (xl_cons xe_int (xl_cons xe_int (xl_cons xe_int (xl_cons xe_int (xl_cons xe_int xl_nil))))))) xl_nil))))))) sc__law_hands.nd)
  (xss_cons (xs_set 6 (xe_slice (xe_idx (xv 5) (xe_call ((ok__law_take T).mono (by decide)) hr T.m__law_take T.F__law_take.kp T.b__law_take (xa_r 0 (xa_v (xe_idx (XN.xe (xn_lst (xl_cons xe_int (xl_cons xe_int xl_nil)))) (xe_int1 T.z_int (XE.xo (xv 3)))) xa_nil)))) xp_none (xp_some (xv 2))) sc__law_hands.nd)
  (xss_cons (xs_setO 7 (xn_lst xl_nil) sc__law_hands.nd)
  (xss_cons (xs_for PassesOwn.never (xi_seq (xe_call ((ok__law_some T).mono (by decide)) hr T.m__law_some T.F__law_some.kp T.b__law_some (xa_r 0 (xa_v (xv 6) (xa_v (xv 2) xa_nil))))) (xg_name 8 sc__law_hands.nd)
  (xss_one (xs_expr (xe_mut 7 PySem.F.slot_list_append PySem.F.type_list_append mt_append gm_append (xe_tup (xl_cons (xe_call ((ok__law_mark T).mono (by decide)) hr T.m__law_mark T.F__law_mark.kp T.b__law_mark (xa_r 0 (xa_v (xv 1) xa_nil))) (xl_cons (xe_mul (xe_call ((ok__law_mark T).mono (by decide)) hr T.m__law_mark T.F__law_mark.kp T.b__law_mark (xa_r 0 (xa_v (xv 1) xa_nil))) (xe_int1 T.z_int (XE.xo (xe_cmp op_gt gq_gt (xe_call ((ok__law_take T).mono (by decide)) hr T.m__law_take T.F__law_take.kp T.b__law_take (xa_r 0 (xa_v xe_int xa_nil))) xe_int (nomark _))))) (xl_cons (xe_idx (xv 4) (xv 8)) xl_nil))))))))
  (xss_one (xs_ret (xe_tuple T.z_tuple (xvo 7)))))))))
theorem ok_whole_paper : FnOk P w K mg base CX0 5 T.f_whole_paper T.d_whole_paper ["clock"] (spF K g_whole_paper) :=
  fn_okE (k := 4) b_whole_paper 5 1 T.F_whole_paper sc_whole_paper rfl rfl rfl fun cdv A outer s H E hr =>
  (xss_cons (xs_set 1 (xe_idx (xv 0) xe_int) sc_whole_paper.nd)
  (xss_cons (xs_setO 2 (xn_lst xl_nil) sc_whole_paper.nd)
  (xss_cons (xs_for PassesOwn.never (xi_seq (xe_call ((ok_readings_of T).mono (by decide)) hr T.m_readings_of T.F_readings_of.kp T.b_readings_of (xa_v (xv 0) xa_nil))) (xg_name 3 sc_whole_paper.nd)
  (xss_cons (xs_set 4 (xe_call ((ok_reading_doubt T).mono (by decide)) hr T.m_reading_doubt T.F_reading_doubt.kp T.b_reading_doubt (xa_v (xv 1) (xa_v (xe_call ((ok_rows_of T).mono (by decide)) hr T.m_rows_of T.F_rows_of.kp T.b_rows_of (xa_v (xv 0) (xa_v (xv 3) xa_nil))) xa_nil))) sc_whole_paper.nd)
  (xss_cons (xs_if (xb_cmp (op_eqD hr.units) gq_eq (xe_idx (xv 4) xe_int) xe_str (nomark _))
  (xss_one (xs_ret (xe_tup (xl_cons xe_str (xl_cons (xe_idx (xv 4) xe_int) (xl_cons (xe_mod (xe_add (xe_idx (xv 4) xe_int) (xe_idx (xv 4) xe_int)) (xv 1)) (xl_cons (xv 3) xl_nil)))))))
  xss_nil)
  (xss_one (xs_expr (xe_mut 2 PySem.F.slot_list_append PySem.F.type_list_append mt_append gm_append (xv 4)))))))
  (xss_one (xs_frz 2 (xs_ret (xe_tup (xl_cons xe_str (xl_cons (xv 2) xl_nil)))))))))
theorem ok__law_clock : FnOk P w K mg base CX0 5 T.f__law_clock T.d__law_clock ["pool", "many", "most"] (spF K g__law_clock) :=
  fn_okE (k := 4) b__law_clock 5 3 T.F__law_clock sc__law_clock rfl rfl rfl fun cdv A outer s H E hr =>
  (xss_cons (xs_set 3 (xe_cmp (op_eqD hr.units) gq_eq (xe_call ((ok__law_take T).mono (by decide)) hr T.m__law_take T.F__law_take.kp T.b__law_take (xa_r 0 (xa_v xe_int xa_nil))) xe_int (nomark _)) sc__law_clock.nd)
  (xss_cons (xs_set 4 (xe_add xe_int (xe_call ((ok__law_take T).mono (by decide)) hr T.m__law_take T.F__law_take.kp T.b__law_take (xa_r 0 (xa_v (xv 2) xa_nil)))) sc__law_clock.nd)
  (xss_one (xs_ret (xe_tup (xl_cons (xv 1) (xl_cons (xe_call ((ok__law_hands T).mono (by decide)) hr T.m__law_hands T.F__law_hands.kp T.b__law_hands (xa_r 0 (xa_v (xv 1) (xa_v (xv 4) (xa_v (xv 3) xa_nil))))) (xl_cons (xe_cmp (op_eqD hr.units) gq_eq (xe_call ((ok__law_take T).mono (by decide)) hr T.m__law_take T.F__law_take.kp T.b__law_take (xa_r 0 (xa_v xe_int xa_nil))) xe_int (nomark _)) (xl_cons (xv 3) xl_nil)))))))))
theorem ok_no_doubt : FnOk P w K mg base CX0 6 T.f_no_doubt T.d_no_doubt ["clock"] (spF K g_no_doubt) :=
  fn_okE (k := 5) b_no_doubt 1 1 T.F_no_doubt sc_no_doubt rfl rfl rfl fun cdv A outer s H E hr =>
  (xss_one (xs_ret (xe_cmp (op_eqD hr.units) gq_eq (xe_idx (xe_call ((ok_whole_paper T).mono (by decide)) hr T.m_whole_paper T.F_whole_paper.kp T.b_whole_paper (xa_v (xv 0) xa_nil)) xe_int) xe_str (nomark _))))
theorem ok_first_clear : FnOk P w K mg base CX0 6 T.f_first_clear T.d_first_clear ["clocks"] (spF K g_first_clear) :=
  fn_okE (k := 5) b_first_clear 5 1 T.F_first_clear sc_first_clear rfl rfl rfl fun cdv A outer s H E hr =>
  (xss_cons (xs_setO 1 (xn_lst xl_nil) sc_first_clear.nd)
  (xss_cons (xs_for PassesOwn.never (xi_enum (xv 0) T.z_enumerate) (xg_tup (xgs_cons (xg_name 2 sc_first_clear.nd) (xgs_cons (xg_name 3 sc_first_clear.nd) xgs_nil)))
  (xss_cons (xs_set 4 (xe_call ((ok_whole_paper T).mono (by decide)) hr T.m_whole_paper T.F_whole_paper.kp T.b_whole_paper (xa_v (xv 3) xa_nil)) sc_first_clear.nd)
  (xss_cons (xs_if (xb_cmp (op_eqD hr.units) gq_eq (xe_idx (xv 4) xe_int) xe_str (nomark _))
  (xss_one (xs_frz 1 (xs_ret (xe_tup (xl_cons (xv 2) (xl_cons (xv 1) xl_nil))))))
  xss_nil)
  (xss_one (xs_expr (xe_mut 1 PySem.F.slot_list_append PySem.F.type_list_append mt_append gm_append (xe_slice (xv 4) (xp_some xe_int) xp_none)))))))
  (xss_one (xs_frz 1 (xs_ret (xe_tup (xl_cons xe_non (xl_cons (xv 1) xl_nil))))))))
theorem ok__law_clear : FnOk P w K mg base CX0 6 T.f__law_clear T.d__law_clear ["clock", "hands"] (spF K g__law_clear) :=
  fn_okE (k := 5) b__law_clear 2 2 T.F__law_clear sc__law_clear rfl rfl rfl fun cdv A outer s H E hr =>
  (xss_one (xs_ret (xe_cmp (op_eqD hr.units) gq_eq (xe_idx (xe_call ((ok_whole_paper T).mono (by decide)) hr T.m_whole_paper T.F_whole_paper.kp T.b_whole_paper (xa_v (xe_call ((ok_painted_hands T).mono (by decide)) hr T.m_painted_hands T.F_painted_hands.kp T.b_painted_hands (xa_v (xv 0) (xa_v (xv 1) xa_nil))) xa_nil)) xe_int) xe_str (nomark _))))
theorem ok_fewest_painted : FnOk P w K mg base CX0 7 T.f_fewest_painted T.d_fewest_painted ["clock"] (spF K g_fewest_painted) :=
  fn_okE (k := 6) b_fewest_painted 7 1 T.F_fewest_painted sc_fewest_painted rfl rfl rfl fun cdv A outer s H E hr =>
  (xss_cons (xs_set 1 (XN.xe (xn_lst xl_nil)) sc_fewest_painted.nd)
  (xss_cons (xs_for PassesOwn.never (xi_rng1 (xe_add (xe_len T.z_len (XE.xo (xe_idx (xv 0) xe_int))) xe_int) T.z_range) (xg_name 2 sc_fewest_painted.nd)
  (xss_cons (xs_set 3 (xe_call ((ok_sets_of T).mono (by decide)) hr T.m_sets_of T.F_sets_of.kp T.b_sets_of (xa_v (xe_len T.z_len (XE.xo (xe_idx (xv 0) xe_int))) (xa_v (xv 2) xa_nil))) sc_fewest_painted.nd)
  (xss_cons (xs_asg (xe_call ((ok_first_clear T).mono (by decide)) hr T.m_first_clear T.F_first_clear.kp T.b_first_clear (xa_v (XN.xe (xn_comp (own := [("hands", 6)]) (xi_seq (xv 3)) sc_fewest_painted.nd (blkOk_by (N := N_fewest_painted) (sc := defScope s_fewest_painted) (by decide +kernel)) (fun _ _ _ _ _ => (xg_name 6 sc_fewest_painted.nd)) (fun _ _ _ _ _ => xts_nil) (fun _ _ _ _ _ => (xe_call ((ok_painted_hands T).mono (by decide)) hr T.m_painted_hands T.F_painted_hands.kp T.b_painted_hands (xa_v (xv 0) (xa_v (xv 6) xa_nil)))))) xa_nil)) (xg_tup (xgs_cons (xg_name 4 sc_fewest_painted.nd) (xgs_cons (xg_name 5 sc_fewest_painted.nd) xgs_nil))))
  (xss_cons (xs_if (xb_cmp op_notNo gq_ntN (xv 4) xe_non (nomark _))
  (xss_one (xs_ret (xe_tup (xl_cons xe_str (xl_cons (xe_idx (xv 3) (xv 4)) (xl_cons (xv 1) xl_nil))))))
  xss_nil)
  (xss_one (xs_set 1 (xv 5) sc_fewest_painted.nd))))))
  (xss_one (xs_ret (xe_tup (xl_cons xe_str (xl_cons (xe_idx (xv 1) xe_int) xl_nil)))))))
theorem ok_painted_right : FnOk P w K mg base CX0 7 T.f_painted_right T.d_painted_right ["clock", "told"] (spF K g_painted_right) :=
  fn_okE (k := 6) b_painted_right 5 2 T.F_painted_right sc_painted_right rfl rfl rfl fun cdv A outer s H E hr =>
  (xss_cons (xs_set 2 (xe_len T.z_len (XE.xo (xe_idx (xv 0) xe_int))) sc_painted_right.nd)
  (xss_cons (xs_if (xb_cmp (op_eqD hr.units) gq_eq (xe_idx (xv 1) xe_int) xe_str (nomark _))
  (xss_one (xs_ret (xe_and (xe_cmp (op_eqD hr.units) gq_eq (xe_len T.z_len (XE.xo (xv 1))) xe_int (nomark _)) (xe_one (xe_call ((ok_is_doubt T).mono (by decide)) hr T.m_is_doubt T.F_is_doubt.kp T.b_is_doubt (xa_v (xe_call ((ok_painted_hands T).mono (by decide)) hr T.m_painted_hands T.F_painted_hands.kp T.b_painted_hands (xa_v (xv 0) (xa_v (xe_tupRg T.z_tuple T.z_range (xv 2)) xa_nil))) (xa_v (xe_idx (xv 1) xe_int) xa_nil)))))))
  xss_nil)
  (xss_cons (xs_if (xb_w (xw_or (xb_cmp (op_neD hr.units) gq_ne (xe_idx (xv 1) xe_int) xe_str (nomark _)) (xw_or (xb_cmp (op_neD hr.units) gq_ne (xe_len T.z_len (XE.xo (xv 1))) xe_int (nomark _)) (xw_or1 (xb_not (xb_val (xe_call ((ok_is_rising_in T).mono (by decide)) hr T.m_is_rising_in T.F_is_rising_in.kp T.b_is_rising_in (xa_v (xe_idx (xv 1) xe_int) (xa_v (xv 2) xa_nil)))))))))
  (xss_one (xs_ret xe_bl))
  xss_nil)
  (xss_cons (xs_set 3 (XN.xe (xn_lst xl_nil)) sc_painted_right.nd)
  (xss_cons (xs_if (xb_cmp (op_neD hr.units) gq_ne (xe_idx (xv 1) xe_int) (xe_tup xl_nil) (nomark _))
  (xss_one (xs_setComp 3 (own := [("hands", 4)]) (xi_seq (xe_call ((ok_sets_of T).mono (by decide)) hr T.m_sets_of T.F_sets_of.kp T.b_sets_of (xa_v (xv 2) (xa_v (xe_sub (xe_len T.z_len (XE.xo (xe_idx (xv 1) xe_int))) xe_int) xa_nil)))) sc_painted_right.nd (blkOk_by (N := N_painted_right) (sc := defScope s_painted_right) (by decide +kernel)) (fun _ _ _ _ _ => (xg_name 4 sc_painted_right.nd)) (fun _ _ _ _ _ => xts_nil) (fun _ _ _ _ _ => (xe_call ((ok_painted_hands T).mono (by decide)) hr T.m_painted_hands T.F_painted_hands.kp T.b_painted_hands (xa_v (xv 0) (xa_v (xv 4) xa_nil)))) (sw_true rfl rfl rfl (by decide +kernel))))
  xss_nil)
  (xss_one (xs_ret (xe_and (xe_call ((ok_no_doubt T).mono (by decide)) hr T.m_no_doubt T.F_no_doubt.kp T.b_no_doubt (xa_v (xe_call ((ok_painted_hands T).mono (by decide)) hr T.m_painted_hands T.F_painted_hands.kp T.b_painted_hands (xa_v (xv 0) (xa_v (xe_idx (xv 1) xe_int) xa_nil))) xa_nil)) (xe_one (xe_call ((ok_are_doubts T).mono (by decide)) hr T.m_are_doubts T.F_are_doubts.kp T.b_are_doubts (xa_v (xv 3) (xa_v (xe_idx (xv 1) xe_int) xa_nil))))))))))))
theorem ok__law_right : FnOk P w K mg base CX0 8 T.f__law_right T.d__law_right ["pool", "clock"] (spF K g__law_right) :=
  fn_okE (k := 7) b__law_right 9 2 T.F__law_right sc__law_right rfl rfl rfl fun cdv A outer s H E hr =>
  (xss_cons (xs_set 2 (xe_call ((ok_fewest_painted T).mono (by decide)) hr T.m_fewest_painted T.F_fewest_painted.kp T.b_fewest_painted (xa_v (xv 1) xa_nil)) sc__law_right.nd)
  (xss_cons (xs_set 3 (xe_len T.z_len (XE.xo (xe_idx (xv 1) xe_int))) sc__law_right.nd)
  (xss_cons (xs_if (xb_w (xw_or (xb_cmp op_notBl gq_ntB (xe_call ((ok_painted_right T).mono (by decide)) hr T.m_painted_right T.F_painted_right.kp T.b_painted_right (xa_v (xv 1) (xa_v (xv 2) xa_nil))) xe_bl (nomark _)) (xw_or1 (xb_cmp (op_eqD hr.units) gq_eq (xe_cmp (op_eqD hr.units) gq_eq (xe_idx (xv 2) xe_int) xe_str (nomark _)) (xe_call ((ok__law_clear T).mono (by decide)) hr T.m__law_clear T.F__law_clear.kp T.b__law_clear (xa_v (xv 1) (xa_v (xe_tupRg T.z_tuple T.z_range (xv 3)) xa_nil))) (nomark _)))))
  (xss_one (xs_ret xe_bl))
  xss_nil)
  (xss_cons (xs_if (xb_cmp (op_eqD hr.units) gq_eq (xe_idx (xv 2) xe_int) xe_str (nomark _))
  (xss_one (xs_ret (xe_all T.z_all (XE.xo (XN.xe (xn_comp (own := [("hands", 4)]) (xi_seq (xe_call ((ok__law_sets T).mono (by decide)) hr T.m__law_sets T.F__law_sets.kp T.b__law_sets (xa_v (xv 3) (xa_v (xe_sub (xv 3) xe_int) xa_nil)))) sc__law_right.nd (blkOk_by (N := N__law_right) (sc := defScope s__law_right) (by decide +kernel)) (fun _ _ _ _ _ => (xg_name 4 sc__law_right.nd)) (fun _ _ _ _ _ => xts_nil) (fun _ _ _ _ _ => (xe_not (xe_call ((ok__law_clear T).mono (by decide)) hr T.m__law_clear T.F__law_clear.kp T.b__law_clear (xa_v (xv 1) (xa_v (xv 4) xa_nil)))))))))))
  xss_nil)
  (xss_cons (xs_if (xb_cmp (op_neD hr.units) gq_ne (xe_cmp (op_eqD hr.units) gq_eq (xe_idx (xv 2) xe_int) (xe_tup xl_nil) (nomark _)) (xe_cmp (op_eqD hr.units) gq_eq (xe_idx (xe_call ((ok_whole_paper T).mono (by decide)) hr T.m_whole_paper T.F_whole_paper.kp T.b_whole_paper (xa_v (xv 1) xa_nil)) xe_int) xe_str (nomark _)) (nomark _))
  (xss_one (xs_ret xe_bl))
  xss_nil)
  (xss_cons (xs_for PassesOwn.never (xi_seq (xe_call ((ok__law_sets T).mono (by decide)) hr T.m__law_sets T.F__law_sets.kp T.b__law_sets (xa_v (xv 3) (xa_v (xe_len T.z_len (XE.xo (xe_idx (xv 2) xe_int))) xa_nil)))) (xg_name 4 sc__law_right.nd)
  (xss_cons (xs_set 5 (xe_call ((ok_painted_right T).mono (by decide)) hr T.m_painted_right T.F_painted_right.kp T.b_painted_right (xa_v (xv 1) (xa_v (xe_tup (xl_cons xe_str (xl_cons (xv 4) (xl_cons (xe_idx (xv 2) xe_int) xl_nil)))) xa_nil))) sc__law_right.nd)
  (xss_one (xs_if (xb_w (xw_or (xb_not (xb_val (xe_isi .bool boot_bool T.z_isinstance T.z_bool (xv 5)))) (xw_or1 (xb_cmp (op_neD hr.units) gq_ne (xv 5) (xe_call ((ok__law_clear T).mono (by decide)) hr T.m__law_clear T.F__law_clear.kp T.b__law_clear (xa_v (xv 1) (xa_v (xv 4) xa_nil))) (nomark _)))))
  (xss_one (xs_ret xe_bl))
  xss_nil))))
  (xss_cons (xs_setComp 6 (own := [("hand", 8)]) (xi_rng1 (xv 3) T.z_range) sc__law_right.nd (blkOk_by (N := N__law_right) (sc := defScope s__law_right) (by decide +kernel)) (fun _ _ _ _ _ => (xg_name 8 sc__law_right.nd)) (fun _ _ _ _ _ => (xts_one (xb_w (xw_or (xb_in (hu65 hr) (xv 8) (XE.xo (xe_idx (xv 2) xe_int))) (xw_or1 (xb_cmp (op_eqD hr.units) gq_eq (xe_call ((ok__law_take T).mono (by decide)) hr T.m__law_take T.F__law_take.kp T.b__law_take (xa_r 0 (xa_v xe_int xa_nil))) xe_int (nomark _))))))) (fun _ _ _ _ _ => (xv 8)) (sw_true rfl rfl rfl (by decide +kernel)))
  (xss_cons (xs_if (xb_w (xw_or (xb_not (xb_val (xe_call ((ok__law_clear T).mono (by decide)) hr T.m__law_clear T.F__law_clear.kp T.b__law_clear (xa_v (xv 1) (xa_v (xe_idx (xv 2) xe_int) xa_nil))))) (xw_or1 (xb_not (xb_val (xe_call ((ok__law_clear T).mono (by decide)) hr T.m__law_clear T.F__law_clear.kp T.b__law_clear (xa_v (xv 1) (xa_v (xe_tuple T.z_tuple (XE.xo (xv 6))) xa_nil))))))))
  (xss_one (xs_ret xe_bl))
  xss_nil)
  (xss_cons (xs_for PassesOwn.never (xi_rng1 (xe_len T.z_len (XE.xo (xe_idx (xv 2) xe_int))) T.z_range) (xg_name 7 sc__law_right.nd)
  (xss_one (xs_if (xb_val (xe_any T.z_any (XE.xo (XN.xe (xn_comp (own := [("hands", 4)]) (xi_seq (xe_call ((ok__law_sets T).mono (by decide)) hr T.m__law_sets T.F__law_sets.kp T.b__law_sets (xa_v (xv 3) (xa_v (xv 7) xa_nil)))) sc__law_right.nd (blkOk_by (N := N__law_right) (sc := defScope s__law_right) (by decide +kernel)) (fun _ _ _ _ _ => (xg_name 4 sc__law_right.nd)) (fun _ _ _ _ _ => xts_nil) (fun _ _ _ _ _ => (xe_call ((ok__law_clear T).mono (by decide)) hr T.m__law_clear T.F__law_clear.kp T.b__law_clear (xa_v (xv 1) (xa_v (xv 4) xa_nil)))))))))
  (xss_one (xs_ret xe_bl))
  xss_nil)))
  (xss_one (xs_ret xe_bl)))))))))))
theorem ok__law_one_by_one : FnOk P w K mg base CX0 8 T.f__law_one_by_one T.d__law_one_by_one ["pool", "clock"] (spF K g__law_one_by_one) :=
  fn_okE (k := 7) b__law_one_by_one 6 2 T.F__law_one_by_one sc__law_one_by_one rfl rfl rfl fun cdv A outer s H E hr =>
  (xss_cons (xs_setComp 3 (own := [("hand", 2)]) (xi_rng1 (xe_len T.z_len (XE.xo (xe_idx (xv 1) xe_int))) T.z_range) sc__law_one_by_one.nd (blkOk_by (N := N__law_one_by_one) (sc := defScope s__law_one_by_one) (by decide +kernel)) (fun _ _ _ _ _ => (xg_name 2 sc__law_one_by_one.nd)) (fun _ _ _ _ _ => (xts_one (xb_cmp (op_eqD hr.units) gq_eq (xe_call ((ok__law_take T).mono (by decide)) hr T.m__law_take T.F__law_take.kp T.b__law_take (xa_r 0 (xa_v xe_int xa_nil))) xe_int (nomark _)))) (fun _ _ _ _ _ => (xv 2)) (sw_true rfl rfl rfl (by decide +kernel)))
  (xss_cons (xs_set 4 (xv 1) sc__law_one_by_one.nd)
  (xss_cons (xs_for PassesOwn.never (xi_seq (xe_call ((ok__law_some T).mono (by decide)) hr T.m__law_some T.F__law_some.kp T.b__law_some (xa_r 0 (xa_v (xv 3) (xa_v (xe_len T.z_len (XE.xo (xv 3))) xa_nil))))) (xg_name 2 sc__law_one_by_one.nd)
  (xss_one (xs_set 4 (xe_call ((ok_painted_hands T).mono (by decide)) hr T.m_painted_hands T.F_painted_hands.kp T.b_painted_hands (xa_v (xv 4) (xa_v (xe_tup (xl_cons (xv 2) xl_nil)) xa_nil))) sc__law_one_by_one.nd)))
  (xss_cons (xs_set 5 (XN.xe (xn_lst (xl_cons (xe_call ((ok_fewest_painted T).mono (by decide)) hr T.m_fewest_painted T.F_fewest_painted.kp T.b_fewest_painted (xa_v (xv 4) xa_nil)) (xl_cons (xe_call ((ok_fewest_painted T).mono (by decide)) hr T.m_fewest_painted T.F_fewest_painted.kp T.b_fewest_painted (xa_v (xe_call ((ok_painted_hands T).mono (by decide)) hr T.m_painted_hands T.F_painted_hands.kp T.b_painted_hands (xa_v (xv 1) (xa_v (xe_tuple T.z_tuple (XE.xo (xv 3))) xa_nil))) xa_nil)) xl_nil)))) sc__law_one_by_one.nd)
  (xss_cons (xs_if (xb_w (xw_or (xb_cmp (op_eqD hr.units) gq_eq (xe_idx (xe_idx (xv 5) xe_int) xe_int) xe_str (nomark _)) (xw_or1 (xb_cmp (op_eqD hr.units) gq_eq (xe_idx (xe_idx (xv 5) xe_int) xe_int) xe_str (nomark _)))))
  (xss_one (xs_ret (xe_cmp (op_eqD hr.units) gq_eq (xe_idx (xe_idx (xv 5) xe_int) xe_int) (xe_idx (xe_idx (xv 5) xe_int) xe_int) (nomark _))))
  xss_nil)
  (xss_one (xs_ret (xe_cmp (op_eqD hr.units) gq_eq (xe_len T.z_len (XE.xo (xe_idx (xe_idx (xv 5) xe_int) xe_int))) (xe_len T.z_len (XE.xo (xe_idx (xe_idx (xv 5) xe_int) xe_int))) (nomark _)))))))))
theorem ok_law : FnOk P w K mg base CX0 9 T.f_law T.d_law ["script"] (spF K g_law) :=
  fn_okE (k := 8) b_law 5 1 T.F_law sc_law rfl rfl rfl fun cdv A outer s H E hr =>
  (xss_cons (xs_set 1 (xe_call ((ok__law_cells T).mono (by decide)) hr T.m__law_cells T.F__law_cells.kp T.b__law_cells (xa_o 0 (xa_v xe_int xa_nil))) sc_law.nd)
  (xss_cons (xs_for PassesOwn.never (xi_rng1 (xe_max2 T.z_max xe_int (xe_len T.z_len (XE.xo (xv 1)))) T.z_range) (xg_name 2 sc_law.nd)
  (xss_cons (xs_setO 3 (xn_call ((ok__law_pool T).mono (by decide)) hr T.m__law_pool T.F__law_pool.kp T.b__law_pool (xa_v (xv 1) (xa_v (xv 2) xa_nil))) sc_law.nd)
  (xss_cons (xs_set 4 (xe_call ((ok__law_clock T).mono (by decide)) hr T.m__law_clock T.F__law_clock.kp T.b__law_clock (xa_r 3 (xa_v (xe_call ((ok__law_dial T).mono (by decide)) hr T.m__law_dial T.F__law_dial.kp T.b__law_dial (xa_r 3 xa_nil)) (xa_v xe_int xa_nil)))) sc_law.nd)
  (xss_one (xs_if (xb_w (xw_or (xb_not (xb_val (xe_call ((ok__law_right T).mono (by decide)) hr T.m__law_right T.F__law_right.kp T.b__law_right (xa_r 3 (xa_v (xv 4) xa_nil))))) (xw_or1 (xb_not (xb_val (xe_call ((ok__law_one_by_one T).mono (by decide)) hr T.m__law_one_by_one T.F__law_one_by_one.kp T.b__law_one_by_one (xa_r 3 (xa_v (xv 4) xa_nil))))))))
  (xss_one (xs_ret xe_bl))
  xss_nil)))))
  (xss_one (xs_ret xe_bl))))
end
end Lw

namespace Lw
open PySem PySem.Spec PyProof.Rows L2 M
theorem tx_mk {K : Frg} {h : Heap} {mg : Str → Option Value} (X : K.In h) (G : h.Ns mainGlobals mg)
    {od0 an0 : Option Addr} {sl0 : Array (Option Value)} {oc0 kV0 dc0 pm0 cd0 ct0 : Value} {f0 : Addr}
    (a0 : PySem.W.nsIn K mainGlobals "hand_asked" = some (some (.ref f0))) (l0 : K.lookup f0 = some ⟨oc0, od0, .func (PySem.W.fnOf "hand_asked" "hand_asked" (defArgs s_hand_asked) (defBody s_hand_asked) (defScope s_hand_asked) .none kV0 dc0 pm0 an0 cd0 ct0), sl0⟩) (c0 : PySem.W.codeIn K cd0 "hand_asked" = true) (k0 : PySem.W.keepIn K (.ref f0) = true)
    {od1 an1 : Option Addr} {sl1 : Array (Option Value)} {oc1 kV1 dc1 pm1 cd1 ct1 : Value} {f1 : Addr}
    (a1 : PySem.W.nsIn K mainGlobals "common_parts" = some (some (.ref f1))) (l1 : K.lookup f1 = some ⟨oc1, od1, .func (PySem.W.fnOf "common_parts" "common_parts" (defArgs s_common_parts) (defBody s_common_parts) (defScope s_common_parts) .none kV1 dc1 pm1 an1 cd1 ct1), sl1⟩) (c1 : PySem.W.codeIn K cd1 "common_parts" = true) (k1 : PySem.W.keepIn K (.ref f1) = true)
    {od2 an2 : Option Addr} {sl2 : Array (Option Value)} {oc2 kV2 dc2 pm2 cd2 ct2 : Value} {f2 : Addr}
    (a2 : PySem.W.nsIn K mainGlobals "swaps_of" = some (some (.ref f2))) (l2 : K.lookup f2 = some ⟨oc2, od2, .func (PySem.W.fnOf "swaps_of" "swaps_of" (defArgs s_swaps_of) (defBody s_swaps_of) (defScope s_swaps_of) .none kV2 dc2 pm2 an2 cd2 ct2), sl2⟩) (c2 : PySem.W.codeIn K cd2 "swaps_of" = true) (k2 : PySem.W.keepIn K (.ref f2) = true)
    {od3 an3 : Option Addr} {sl3 : Array (Option Value)} {oc3 kV3 dc3 pm3 cd3 ct3 : Value} {f3 : Addr}
    (a3 : PySem.W.nsIn K mainGlobals "rows_of" = some (some (.ref f3))) (l3 : K.lookup f3 = some ⟨oc3, od3, .func (PySem.W.fnOf "rows_of" "rows_of" (defArgs s_rows_of) (defBody s_rows_of) (defScope s_rows_of) .none kV3 dc3 pm3 an3 cd3 ct3), sl3⟩) (c3 : PySem.W.codeIn K cd3 "rows_of" = true) (k3 : PySem.W.keepIn K (.ref f3) = true)
    {od4 an4 : Option Addr} {sl4 : Array (Option Value)} {oc4 kV4 dc4 pm4 cd4 ct4 : Value} {f4 : Addr}
    (a4 : PySem.W.nsIn K mainGlobals "times_all" = some (some (.ref f4))) (l4 : K.lookup f4 = some ⟨oc4, od4, .func (PySem.W.fnOf "times_all" "times_all" (defArgs s_times_all) (defBody s_times_all) (defScope s_times_all) .none kV4 dc4 pm4 an4 cd4 ct4), sl4⟩) (c4 : PySem.W.codeIn K cd4 "times_all" = true) (k4 : PySem.W.keepIn K (.ref f4) = true)
    {od5 an5 : Option Addr} {sl5 : Array (Option Value)} {oc5 kV5 dc5 pm5 cd5 ct5 : Value} {f5 : Addr}
    (a5 : PySem.W.nsIn K mainGlobals "sets_of" = some (some (.ref f5))) (l5 : K.lookup f5 = some ⟨oc5, od5, .func (PySem.W.fnOf "sets_of" "sets_of" (defArgs s_sets_of) (defBody s_sets_of) (defScope s_sets_of) .none kV5 dc5 pm5 an5 cd5 ct5), sl5⟩) (c5 : PySem.W.codeIn K cd5 "sets_of" = true) (k5 : PySem.W.keepIn K (.ref f5) = true)
    {od6 an6 : Option Addr} {sl6 : Array (Option Value)} {oc6 kV6 dc6 pm6 cd6 ct6 : Value} {f6 : Addr}
    (a6 : PySem.W.nsIn K mainGlobals "is_rising_in" = some (some (.ref f6))) (l6 : K.lookup f6 = some ⟨oc6, od6, .func (PySem.W.fnOf "is_rising_in" "is_rising_in" (defArgs s_is_rising_in) (defBody s_is_rising_in) (defScope s_is_rising_in) .none kV6 dc6 pm6 an6 cd6 ct6), sl6⟩) (c6 : PySem.W.codeIn K cd6 "is_rising_in" = true) (k6 : PySem.W.keepIn K (.ref f6) = true)
    {od7 an7 : Option Addr} {sl7 : Array (Option Value)} {oc7 kV7 dc7 pm7 cd7 ct7 : Value} {f7 : Addr}
    (a7 : PySem.W.nsIn K mainGlobals "_law_cells" = some (some (.ref f7))) (l7 : K.lookup f7 = some ⟨oc7, od7, .func (PySem.W.fnOf "_law_cells" "_law_cells" (defArgs s__law_cells) (defBody s__law_cells) (defScope s__law_cells) .none kV7 dc7 pm7 an7 cd7 ct7), sl7⟩) (c7 : PySem.W.codeIn K cd7 "_law_cells" = true) (k7 : PySem.W.keepIn K (.ref f7) = true)
    {od8 an8 : Option Addr} {sl8 : Array (Option Value)} {oc8 kV8 dc8 pm8 cd8 ct8 : Value} {f8 : Addr}
    (a8 : PySem.W.nsIn K mainGlobals "_law_pool" = some (some (.ref f8))) (l8 : K.lookup f8 = some ⟨oc8, od8, .func (PySem.W.fnOf "_law_pool" "_law_pool" (defArgs s__law_pool) (defBody s__law_pool) (defScope s__law_pool) .none kV8 dc8 pm8 an8 cd8 ct8), sl8⟩) (c8 : PySem.W.codeIn K cd8 "_law_pool" = true) (k8 : PySem.W.keepIn K (.ref f8) = true)
    {od9 an9 : Option Addr} {sl9 : Array (Option Value)} {oc9 kV9 dc9 pm9 cd9 ct9 : Value} {f9 : Addr}
    (a9 : PySem.W.nsIn K mainGlobals "_law_take" = some (some (.ref f9))) (l9 : K.lookup f9 = some ⟨oc9, od9, .func (PySem.W.fnOf "_law_take" "_law_take" (defArgs s__law_take) (defBody s__law_take) (defScope s__law_take) .none kV9 dc9 pm9 an9 cd9 ct9), sl9⟩) (c9 : PySem.W.codeIn K cd9 "_law_take" = true) (k9 : PySem.W.keepIn K (.ref f9) = true)
    {od10 an10 : Option Addr} {sl10 : Array (Option Value)} {oc10 kV10 dc10 pm10 cd10 ct10 : Value} {f10 : Addr}
    (a10 : PySem.W.nsIn K mainGlobals "_law_power" = some (some (.ref f10))) (l10 : K.lookup f10 = some ⟨oc10, od10, .func (PySem.W.fnOf "_law_power" "_law_power" (defArgs s__law_power) (defBody s__law_power) (defScope s__law_power) .none kV10 dc10 pm10 an10 cd10 ct10), sl10⟩) (c10 : PySem.W.codeIn K cd10 "_law_power" = true) (k10 : PySem.W.keepIn K (.ref f10) = true)
    {od11 an11 : Option Addr} {sl11 : Array (Option Value)} {oc11 kV11 dc11 pm11 cd11 ct11 : Value} {f11 : Addr}
    (a11 : PySem.W.nsIn K mainGlobals "_law_sets" = some (some (.ref f11))) (l11 : K.lookup f11 = some ⟨oc11, od11, .func (PySem.W.fnOf "_law_sets" "_law_sets" (defArgs s__law_sets) (defBody s__law_sets) (defScope s__law_sets) .none kV11 dc11 pm11 an11 cd11 ct11), sl11⟩) (c11 : PySem.W.codeIn K cd11 "_law_sets" = true) (k11 : PySem.W.keepIn K (.ref f11) = true)
    {od12 an12 : Option Addr} {sl12 : Array (Option Value)} {oc12 kV12 dc12 pm12 cd12 ct12 : Value} {f12 : Addr}
    (a12 : PySem.W.nsIn K mainGlobals "hands_asked" = some (some (.ref f12))) (l12 : K.lookup f12 = some ⟨oc12, od12, .func (PySem.W.fnOf "hands_asked" "hands_asked" (defArgs s_hands_asked) (defBody s_hands_asked) (defScope s_hands_asked) .none kV12 dc12 pm12 an12 cd12 ct12), sl12⟩) (c12 : PySem.W.codeIn K cd12 "hands_asked" = true) (k12 : PySem.W.keepIn K (.ref f12) = true)
    {od13 an13 : Option Addr} {sl13 : Array (Option Value)} {oc13 kV13 dc13 pm13 cd13 ct13 : Value} {f13 : Addr}
    (a13 : PySem.W.nsIn K mainGlobals "weights_of" = some (some (.ref f13))) (l13 : K.lookup f13 = some ⟨oc13, od13, .func (PySem.W.fnOf "weights_of" "weights_of" (defArgs s_weights_of) (defBody s_weights_of) (defScope s_weights_of) .none kV13 dc13 pm13 an13 cd13 ct13), sl13⟩) (c13 : PySem.W.codeIn K cd13 "weights_of" = true) (k13 : PySem.W.keepIn K (.ref f13) = true)
    {od14 an14 : Option Addr} {sl14 : Array (Option Value)} {oc14 kV14 dc14 pm14 cd14 ct14 : Value} {f14 : Addr}
    (a14 : PySem.W.nsIn K mainGlobals "readings_of" = some (some (.ref f14))) (l14 : K.lookup f14 = some ⟨oc14, od14, .func (PySem.W.fnOf "readings_of" "readings_of" (defArgs s_readings_of) (defBody s_readings_of) (defScope s_readings_of) .none kV14 dc14 pm14 an14 cd14 ct14), sl14⟩) (c14 : PySem.W.codeIn K cd14 "readings_of" = true) (k14 : PySem.W.keepIn K (.ref f14) = true)
    {od15 an15 : Option Addr} {sl15 : Array (Option Value)} {oc15 kV15 dc15 pm15 cd15 ct15 : Value} {f15 : Addr}
    (a15 : PySem.W.nsIn K mainGlobals "is_taken" = some (some (.ref f15))) (l15 : K.lookup f15 = some ⟨oc15, od15, .func (PySem.W.fnOf "is_taken" "is_taken" (defArgs s_is_taken) (defBody s_is_taken) (defScope s_is_taken) .none kV15 dc15 pm15 an15 cd15 ct15), sl15⟩) (c15 : PySem.W.codeIn K cd15 "is_taken" = true) (k15 : PySem.W.keepIn K (.ref f15) = true)
    {od16 an16 : Option Addr} {sl16 : Array (Option Value)} {oc16 kV16 dc16 pm16 cd16 ct16 : Value} {f16 : Addr}
    (a16 : PySem.W.nsIn K mainGlobals "put_together" = some (some (.ref f16))) (l16 : K.lookup f16 = some ⟨oc16, od16, .func (PySem.W.fnOf "put_together" "put_together" (defArgs s_put_together) (defBody s_put_together) (defScope s_put_together) .none kV16 dc16 pm16 an16 cd16 ct16), sl16⟩) (c16 : PySem.W.codeIn K cd16 "put_together" = true) (k16 : PySem.W.keepIn K (.ref f16) = true)
    {od17 an17 : Option Addr} {sl17 : Array (Option Value)} {oc17 kV17 dc17 pm17 cd17 ct17 : Value} {f17 : Addr}
    (a17 : PySem.W.nsIn K mainGlobals "_law_some" = some (some (.ref f17))) (l17 : K.lookup f17 = some ⟨oc17, od17, .func (PySem.W.fnOf "_law_some" "_law_some" (defArgs s__law_some) (defBody s__law_some) (defScope s__law_some) .none kV17 dc17 pm17 an17 cd17 ct17), sl17⟩) (c17 : PySem.W.codeIn K cd17 "_law_some" = true) (k17 : PySem.W.keepIn K (.ref f17) = true)
    {od18 an18 : Option Addr} {sl18 : Array (Option Value)} {oc18 kV18 dc18 pm18 cd18 ct18 : Value} {f18 : Addr}
    (a18 : PySem.W.nsIn K mainGlobals "_law_wide" = some (some (.ref f18))) (l18 : K.lookup f18 = some ⟨oc18, od18, .func (PySem.W.fnOf "_law_wide" "_law_wide" (defArgs s__law_wide) (defBody s__law_wide) (defScope s__law_wide) .none kV18 dc18 pm18 an18 cd18 ct18), sl18⟩) (c18 : PySem.W.codeIn K cd18 "_law_wide" = true) (k18 : PySem.W.keepIn K (.ref f18) = true)
    {od19 an19 : Option Addr} {sl19 : Array (Option Value)} {oc19 kV19 dc19 pm19 cd19 ct19 : Value} {f19 : Addr}
    (a19 : PySem.W.nsIn K mainGlobals "painted_hands" = some (some (.ref f19))) (l19 : K.lookup f19 = some ⟨oc19, od19, .func (PySem.W.fnOf "painted_hands" "painted_hands" (defArgs s_painted_hands) (defBody s_painted_hands) (defScope s_painted_hands) .none kV19 dc19 pm19 an19 cd19 ct19), sl19⟩) (c19 : PySem.W.codeIn K cd19 "painted_hands" = true) (k19 : PySem.W.keepIn K (.ref f19) = true)
    {od20 an20 : Option Addr} {sl20 : Array (Option Value)} {oc20 kV20 dc20 pm20 cd20 ct20 : Value} {f20 : Addr}
    (a20 : PySem.W.nsIn K mainGlobals "cleared_of" = some (some (.ref f20))) (l20 : K.lookup f20 = some ⟨oc20, od20, .func (PySem.W.fnOf "cleared_of" "cleared_of" (defArgs s_cleared_of) (defBody s_cleared_of) (defScope s_cleared_of) .none kV20 dc20 pm20 an20 cd20 ct20), sl20⟩) (c20 : PySem.W.codeIn K cd20 "cleared_of" = true) (k20 : PySem.W.keepIn K (.ref f20) = true)
    {od21 an21 : Option Addr} {sl21 : Array (Option Value)} {oc21 kV21 dc21 pm21 cd21 ct21 : Value} {f21 : Addr}
    (a21 : PySem.W.nsIn K mainGlobals "is_doubt" = some (some (.ref f21))) (l21 : K.lookup f21 = some ⟨oc21, od21, .func (PySem.W.fnOf "is_doubt" "is_doubt" (defArgs s_is_doubt) (defBody s_is_doubt) (defScope s_is_doubt) .none kV21 dc21 pm21 an21 cd21 ct21), sl21⟩) (c21 : PySem.W.codeIn K cd21 "is_doubt" = true) (k21 : PySem.W.keepIn K (.ref f21) = true)
    {od22 an22 : Option Addr} {sl22 : Array (Option Value)} {oc22 kV22 dc22 pm22 cd22 ct22 : Value} {f22 : Addr}
    (a22 : PySem.W.nsIn K mainGlobals "_law_dial" = some (some (.ref f22))) (l22 : K.lookup f22 = some ⟨oc22, od22, .func (PySem.W.fnOf "_law_dial" "_law_dial" (defArgs s__law_dial) (defBody s__law_dial) (defScope s__law_dial) .none kV22 dc22 pm22 an22 cd22 ct22), sl22⟩) (c22 : PySem.W.codeIn K cd22 "_law_dial" = true) (k22 : PySem.W.keepIn K (.ref f22) = true)
    {od23 an23 : Option Addr} {sl23 : Array (Option Value)} {oc23 kV23 dc23 pm23 cd23 ct23 : Value} {f23 : Addr}
    (a23 : PySem.W.nsIn K mainGlobals "_law_mark" = some (some (.ref f23))) (l23 : K.lookup f23 = some ⟨oc23, od23, .func (PySem.W.fnOf "_law_mark" "_law_mark" (defArgs s__law_mark) (defBody s__law_mark) (defScope s__law_mark) .none kV23 dc23 pm23 an23 cd23 ct23), sl23⟩) (c23 : PySem.W.codeIn K cd23 "_law_mark" = true) (k23 : PySem.W.keepIn K (.ref f23) = true)
    {od24 an24 : Option Addr} {sl24 : Array (Option Value)} {oc24 kV24 dc24 pm24 cd24 ct24 : Value} {f24 : Addr}
    (a24 : PySem.W.nsIn K mainGlobals "reading_doubt" = some (some (.ref f24))) (l24 : K.lookup f24 = some ⟨oc24, od24, .func (PySem.W.fnOf "reading_doubt" "reading_doubt" (defArgs s_reading_doubt) (defBody s_reading_doubt) (defScope s_reading_doubt) .none kV24 dc24 pm24 an24 cd24 ct24), sl24⟩) (c24 : PySem.W.codeIn K cd24 "reading_doubt" = true) (k24 : PySem.W.keepIn K (.ref f24) = true)
    {od25 an25 : Option Addr} {sl25 : Array (Option Value)} {oc25 kV25 dc25 pm25 cd25 ct25 : Value} {f25 : Addr}
    (a25 : PySem.W.nsIn K mainGlobals "are_doubts" = some (some (.ref f25))) (l25 : K.lookup f25 = some ⟨oc25, od25, .func (PySem.W.fnOf "are_doubts" "are_doubts" (defArgs s_are_doubts) (defBody s_are_doubts) (defScope s_are_doubts) .none kV25 dc25 pm25 an25 cd25 ct25), sl25⟩) (c25 : PySem.W.codeIn K cd25 "are_doubts" = true) (k25 : PySem.W.keepIn K (.ref f25) = true)
    {od26 an26 : Option Addr} {sl26 : Array (Option Value)} {oc26 kV26 dc26 pm26 cd26 ct26 : Value} {f26 : Addr}
    (a26 : PySem.W.nsIn K mainGlobals "_law_hands" = some (some (.ref f26))) (l26 : K.lookup f26 = some ⟨oc26, od26, .func (PySem.W.fnOf "_law_hands" "_law_hands" (defArgs s__law_hands) (defBody s__law_hands) (defScope s__law_hands) .none kV26 dc26 pm26 an26 cd26 ct26), sl26⟩) (c26 : PySem.W.codeIn K cd26 "_law_hands" = true) (k26 : PySem.W.keepIn K (.ref f26) = true)
    {od27 an27 : Option Addr} {sl27 : Array (Option Value)} {oc27 kV27 dc27 pm27 cd27 ct27 : Value} {f27 : Addr}
    (a27 : PySem.W.nsIn K mainGlobals "whole_paper" = some (some (.ref f27))) (l27 : K.lookup f27 = some ⟨oc27, od27, .func (PySem.W.fnOf "whole_paper" "whole_paper" (defArgs s_whole_paper) (defBody s_whole_paper) (defScope s_whole_paper) .none kV27 dc27 pm27 an27 cd27 ct27), sl27⟩) (c27 : PySem.W.codeIn K cd27 "whole_paper" = true) (k27 : PySem.W.keepIn K (.ref f27) = true)
    {od28 an28 : Option Addr} {sl28 : Array (Option Value)} {oc28 kV28 dc28 pm28 cd28 ct28 : Value} {f28 : Addr}
    (a28 : PySem.W.nsIn K mainGlobals "_law_clock" = some (some (.ref f28))) (l28 : K.lookup f28 = some ⟨oc28, od28, .func (PySem.W.fnOf "_law_clock" "_law_clock" (defArgs s__law_clock) (defBody s__law_clock) (defScope s__law_clock) .none kV28 dc28 pm28 an28 cd28 ct28), sl28⟩) (c28 : PySem.W.codeIn K cd28 "_law_clock" = true) (k28 : PySem.W.keepIn K (.ref f28) = true)
    {od29 an29 : Option Addr} {sl29 : Array (Option Value)} {oc29 kV29 dc29 pm29 cd29 ct29 : Value} {f29 : Addr}
    (a29 : PySem.W.nsIn K mainGlobals "no_doubt" = some (some (.ref f29))) (l29 : K.lookup f29 = some ⟨oc29, od29, .func (PySem.W.fnOf "no_doubt" "no_doubt" (defArgs s_no_doubt) (defBody s_no_doubt) (defScope s_no_doubt) .none kV29 dc29 pm29 an29 cd29 ct29), sl29⟩) (c29 : PySem.W.codeIn K cd29 "no_doubt" = true) (k29 : PySem.W.keepIn K (.ref f29) = true)
    {od30 an30 : Option Addr} {sl30 : Array (Option Value)} {oc30 kV30 dc30 pm30 cd30 ct30 : Value} {f30 : Addr}
    (a30 : PySem.W.nsIn K mainGlobals "first_clear" = some (some (.ref f30))) (l30 : K.lookup f30 = some ⟨oc30, od30, .func (PySem.W.fnOf "first_clear" "first_clear" (defArgs s_first_clear) (defBody s_first_clear) (defScope s_first_clear) .none kV30 dc30 pm30 an30 cd30 ct30), sl30⟩) (c30 : PySem.W.codeIn K cd30 "first_clear" = true) (k30 : PySem.W.keepIn K (.ref f30) = true)
    {od31 an31 : Option Addr} {sl31 : Array (Option Value)} {oc31 kV31 dc31 pm31 cd31 ct31 : Value} {f31 : Addr}
    (a31 : PySem.W.nsIn K mainGlobals "_law_clear" = some (some (.ref f31))) (l31 : K.lookup f31 = some ⟨oc31, od31, .func (PySem.W.fnOf "_law_clear" "_law_clear" (defArgs s__law_clear) (defBody s__law_clear) (defScope s__law_clear) .none kV31 dc31 pm31 an31 cd31 ct31), sl31⟩) (c31 : PySem.W.codeIn K cd31 "_law_clear" = true) (k31 : PySem.W.keepIn K (.ref f31) = true)
    {od32 an32 : Option Addr} {sl32 : Array (Option Value)} {oc32 kV32 dc32 pm32 cd32 ct32 : Value} {f32 : Addr}
    (a32 : PySem.W.nsIn K mainGlobals "fewest_painted" = some (some (.ref f32))) (l32 : K.lookup f32 = some ⟨oc32, od32, .func (PySem.W.fnOf "fewest_painted" "fewest_painted" (defArgs s_fewest_painted) (defBody s_fewest_painted) (defScope s_fewest_painted) .none kV32 dc32 pm32 an32 cd32 ct32), sl32⟩) (c32 : PySem.W.codeIn K cd32 "fewest_painted" = true) (k32 : PySem.W.keepIn K (.ref f32) = true)
    {od33 an33 : Option Addr} {sl33 : Array (Option Value)} {oc33 kV33 dc33 pm33 cd33 ct33 : Value} {f33 : Addr}
    (a33 : PySem.W.nsIn K mainGlobals "painted_right" = some (some (.ref f33))) (l33 : K.lookup f33 = some ⟨oc33, od33, .func (PySem.W.fnOf "painted_right" "painted_right" (defArgs s_painted_right) (defBody s_painted_right) (defScope s_painted_right) .none kV33 dc33 pm33 an33 cd33 ct33), sl33⟩) (c33 : PySem.W.codeIn K cd33 "painted_right" = true) (k33 : PySem.W.keepIn K (.ref f33) = true)
    {od34 an34 : Option Addr} {sl34 : Array (Option Value)} {oc34 kV34 dc34 pm34 cd34 ct34 : Value} {f34 : Addr}
    (a34 : PySem.W.nsIn K mainGlobals "_law_right" = some (some (.ref f34))) (l34 : K.lookup f34 = some ⟨oc34, od34, .func (PySem.W.fnOf "_law_right" "_law_right" (defArgs s__law_right) (defBody s__law_right) (defScope s__law_right) .none kV34 dc34 pm34 an34 cd34 ct34), sl34⟩) (c34 : PySem.W.codeIn K cd34 "_law_right" = true) (k34 : PySem.W.keepIn K (.ref f34) = true)
    {od35 an35 : Option Addr} {sl35 : Array (Option Value)} {oc35 kV35 dc35 pm35 cd35 ct35 : Value} {f35 : Addr}
    (a35 : PySem.W.nsIn K mainGlobals "_law_one_by_one" = some (some (.ref f35))) (l35 : K.lookup f35 = some ⟨oc35, od35, .func (PySem.W.fnOf "_law_one_by_one" "_law_one_by_one" (defArgs s__law_one_by_one) (defBody s__law_one_by_one) (defScope s__law_one_by_one) .none kV35 dc35 pm35 an35 cd35 ct35), sl35⟩) (c35 : PySem.W.codeIn K cd35 "_law_one_by_one" = true) (k35 : PySem.W.keepIn K (.ref f35) = true)
    {od36 an36 : Option Addr} {sl36 : Array (Option Value)} {oc36 kV36 dc36 pm36 cd36 ct36 : Value} {f36 : Addr}
    (a36 : PySem.W.nsIn K mainGlobals "law" = some (some (.ref f36))) (l36 : K.lookup f36 = some ⟨oc36, od36, .func (PySem.W.fnOf "law" "law" (defArgs s_law) (defBody s_law) (defScope s_law) .none kV36 dc36 pm36 an36 cd36 ct36), sl36⟩) (c36 : PySem.W.codeIn K cd36 "law" = true) (k36 : PySem.W.keepIn K (.ref f36) = true)
    {t0 : Tok} (v0 : PySem.W.nsIn K mainGlobals "LETTERS" = some (some (.str "abcdefghijklmnopqrstuvwxyz" t0)))
    (z0 : PySem.W.nsIn K mainGlobals "abs" = some none)
    (z1 : PySem.W.nsIn K mainGlobals "all" = some none)
    (z2 : PySem.W.nsIn K mainGlobals "any" = some none)
    (z3 : PySem.W.nsIn K mainGlobals "bool" = some none)
    (z4 : PySem.W.nsIn K mainGlobals "enumerate" = some none)
    (z5 : PySem.W.nsIn K mainGlobals "int" = some none)
    (z6 : PySem.W.nsIn K mainGlobals "isinstance" = some none)
    (z7 : PySem.W.nsIn K mainGlobals "len" = some none)
    (z8 : PySem.W.nsIn K mainGlobals "list" = some none)
    (z9 : PySem.W.nsIn K mainGlobals "max" = some none)
    (z10 : PySem.W.nsIn K mainGlobals "range" = some none)
    (z11 : PySem.W.nsIn K mainGlobals "sum" = some none)
    (z12 : PySem.W.nsIn K mainGlobals "tuple" = some none)
    (z13 : PySem.W.nsIn K mainGlobals "zip" = some none) :
    ∃ T : Tx K mg, T.f_law = f36 ∧ T.d_law = PySem.W.fnOf "law" "law" (defArgs s_law) (defBody s_law) (defScope s_law) .none kV36 dc36 pm36 an36 cd36 ct36 := by
  have F0 := fun_mk (st := s_hand_asked) l0 c0 k0
  have B0 := F0.binds (ps := ["clock", "hand"]) fun _ _ _ _ _ _ us hl => match us, hl with | [_, _], _ => rfl
  have F1 := fun_mk (st := s_common_parts) l1 c1 k1
  have B1 := F1.binds (ps := ["one", "other"]) fun _ _ _ _ _ _ us hl => match us, hl with | [_, _], _ => rfl
  have F2 := fun_mk (st := s_swaps_of) l2 c2 k2
  have B2 := F2.binds (ps := ["hands"]) fun _ _ _ _ _ _ us hl => match us, hl with | [_], _ => rfl
  have F3 := fun_mk (st := s_rows_of) l3 c3 k3
  have B3 := F3.binds (ps := ["clock", "reading"]) fun _ _ _ _ _ _ us hl => match us, hl with | [_, _], _ => rfl
  have F4 := fun_mk (st := s_times_all) l4 c4 k4
  have B4 := F4.binds (ps := ["multipliers", "numbers"]) fun _ _ _ _ _ _ us hl => match us, hl with | [_, _], _ => rfl
  have F5 := fun_mk (st := s_sets_of) l5 c5 k5
  have B5 := F5.binds (ps := ["many", "size"]) fun _ _ _ _ _ _ us hl => match us, hl with | [_, _], _ => rfl
  have F6 := fun_mk (st := s_is_rising_in) l6 c6 k6
  have B6 := F6.binds (ps := ["hands", "many"]) fun _ _ _ _ _ _ us hl => match us, hl with | [_, _], _ => rfl
  have F7 := fun_mk (st := s__law_cells) l7 c7 k7
  have B7 := F7.binds (ps := ["script", "many"]) fun _ _ _ _ _ _ us hl => match us, hl with | [_, _], _ => rfl
  have F8 := fun_mk (st := s__law_pool) l8 c8 k8
  have B8 := F8.binds (ps := ["cells", "k"]) fun _ _ _ _ _ _ us hl => match us, hl with | [_, _], _ => rfl
  have F9 := fun_mk (st := s__law_take) l9 c9 k9
  have B9 := F9.binds (ps := ["pool", "many"]) fun _ _ _ _ _ _ us hl => match us, hl with | [_, _], _ => rfl
  have F10 := fun_mk (st := s__law_power) l10 c10 k10
  have B10 := F10.binds (ps := ["base", "times"]) fun _ _ _ _ _ _ us hl => match us, hl with | [_, _], _ => rfl
  have F11 := fun_mk (st := s__law_sets) l11 c11 k11
  have B11 := F11.binds (ps := ["count", "size"]) fun _ _ _ _ _ _ us hl => match us, hl with | [_, _], _ => rfl
  have F12 := fun_mk (st := s_hands_asked) l12 c12 k12
  have B12 := F12.binds (ps := ["clock", "some"]) fun _ _ _ _ _ _ us hl => match us, hl with | [_, _], _ => rfl
  have F13 := fun_mk (st := s_weights_of) l13 c13 k13
  have B13 := F13.binds (ps := ["many", "numbers"]) fun _ _ _ _ _ _ us hl => match us, hl with | [_, _], _ => rfl
  have F14 := fun_mk (st := s_readings_of) l14 c14 k14
  have B14 := F14.binds (ps := ["clock"]) fun _ _ _ _ _ _ us hl => match us, hl with | [_], _ => rfl
  have F15 := fun_mk (st := s_is_taken) l15 c15 k15
  have B15 := F15.binds (ps := ["clock", "reading", "tick", "other"]) fun _ _ _ _ _ _ us hl => match us, hl with | [_, _, _, _], _ => rfl
  have F16 := fun_mk (st := s_put_together) l16 c16 k16
  have B16 := F16.binds (ps := ["many", "row", "rows"]) fun _ _ _ _ _ _ us hl => match us, hl with | [_, _, _], _ => rfl
  have F17 := fun_mk (st := s__law_some) l17 c17 k17
  have B17 := F17.binds (ps := ["pool", "menu", "many"]) fun _ _ _ _ _ _ us hl => match us, hl with | [_, _, _], _ => rfl
  have F18 := fun_mk (st := s__law_wide) l18 c18 k18
  have B18 := F18.binds (ps := ["pool", "base"]) fun _ _ _ _ _ _ us hl => match us, hl with | [_, _], _ => rfl
  have F19 := fun_mk (st := s_painted_hands) l19 c19 k19
  have B19 := F19.binds (ps := ["clock", "some"]) fun _ _ _ _ _ _ us hl => match us, hl with | [_, _], _ => rfl
  have F20 := fun_mk (st := s_cleared_of) l20 c20 k20
  have B20 := F20.binds (ps := ["many", "numbers"]) fun _ _ _ _ _ _ us hl => match us, hl with | [_, _], _ => rfl
  have F21 := fun_mk (st := s_is_doubt) l21 c21 k21
  have B21 := F21.binds (ps := ["clock", "doubt"]) fun _ _ _ _ _ _ us hl => match us, hl with | [_, _], _ => rfl
  have F22 := fun_mk (st := s__law_dial) l22 c22 k22
  have B22 := F22.binds (ps := ["pool"]) fun _ _ _ _ _ _ us hl => match us, hl with | [_], _ => rfl
  have F23 := fun_mk (st := s__law_mark) l23 c23 k23
  have B23 := F23.binds (ps := ["pool", "many"]) fun _ _ _ _ _ _ us hl => match us, hl with | [_, _], _ => rfl
  have F24 := fun_mk (st := s_reading_doubt) l24 c24 k24
  have B24 := F24.binds (ps := ["many", "rows"]) fun _ _ _ _ _ _ us hl => match us, hl with | [_, _], _ => rfl
  have F25 := fun_mk (st := s_are_doubts) l25 c25 k25
  have B25 := F25.binds (ps := ["clocks", "doubts"]) fun _ _ _ _ _ _ us hl => match us, hl with | [_, _], _ => rfl
  have F26 := fun_mk (st := s__law_hands) l26 c26 k26
  have B26 := F26.binds (ps := ["pool", "many", "count", "mirror"]) fun _ _ _ _ _ _ us hl => match us, hl with | [_, _, _, _], _ => rfl
  have F27 := fun_mk (st := s_whole_paper) l27 c27 k27
  have B27 := F27.binds (ps := ["clock"]) fun _ _ _ _ _ _ us hl => match us, hl with | [_], _ => rfl
  have F28 := fun_mk (st := s__law_clock) l28 c28 k28
  have B28 := F28.binds (ps := ["pool", "many", "most"]) fun _ _ _ _ _ _ us hl => match us, hl with | [_, _, _], _ => rfl
  have F29 := fun_mk (st := s_no_doubt) l29 c29 k29
  have B29 := F29.binds (ps := ["clock"]) fun _ _ _ _ _ _ us hl => match us, hl with | [_], _ => rfl
  have F30 := fun_mk (st := s_first_clear) l30 c30 k30
  have B30 := F30.binds (ps := ["clocks"]) fun _ _ _ _ _ _ us hl => match us, hl with | [_], _ => rfl
  have F31 := fun_mk (st := s__law_clear) l31 c31 k31
  have B31 := F31.binds (ps := ["clock", "hands"]) fun _ _ _ _ _ _ us hl => match us, hl with | [_, _], _ => rfl
  have F32 := fun_mk (st := s_fewest_painted) l32 c32 k32
  have B32 := F32.binds (ps := ["clock"]) fun _ _ _ _ _ _ us hl => match us, hl with | [_], _ => rfl
  have F33 := fun_mk (st := s_painted_right) l33 c33 k33
  have B33 := F33.binds (ps := ["clock", "told"]) fun _ _ _ _ _ _ us hl => match us, hl with | [_, _], _ => rfl
  have F34 := fun_mk (st := s__law_right) l34 c34 k34
  have B34 := F34.binds (ps := ["pool", "clock"]) fun _ _ _ _ _ _ us hl => match us, hl with | [_, _], _ => rfl
  have F35 := fun_mk (st := s__law_one_by_one) l35 c35 k35
  have B35 := F35.binds (ps := ["pool", "clock"]) fun _ _ _ _ _ _ us hl => match us, hl with | [_, _], _ => rfl
  have F36 := fun_mk (st := s_law) l36 c36 k36
  have B36 := F36.binds (ps := ["script"]) fun _ _ _ _ _ _ us hl => match us, hl with | [_], _ => rfl
  exact ⟨{ f_hand_asked := _, d_hand_asked := _, F_hand_asked := F0, m_hand_asked := PySem.W.mg_of X G a0, b_hand_asked := B0, f_common_parts := _, d_common_parts := _, F_common_parts := F1, m_common_parts := PySem.W.mg_of X G a1, b_common_parts := B1, f_swaps_of := _, d_swaps_of := _, F_swaps_of := F2, m_swaps_of := PySem.W.mg_of X G a2, b_swaps_of := B2, f_rows_of := _, d_rows_of := _, F_rows_of := F3, m_rows_of := PySem.W.mg_of X G a3, b_rows_of := B3, f_times_all := _, d_times_all := _, F_times_all := F4, m_times_all := PySem.W.mg_of X G a4, b_times_all := B4, f_sets_of := _, d_sets_of := _, F_sets_of := F5, m_sets_of := PySem.W.mg_of X G a5, b_sets_of := B5, f_is_rising_in := _, d_is_rising_in := _, F_is_rising_in := F6, m_is_rising_in := PySem.W.mg_of X G a6, b_is_rising_in := B6, f__law_cells := _, d__law_cells := _, F__law_cells := F7, m__law_cells := PySem.W.mg_of X G a7, b__law_cells := B7, f__law_pool := _, d__law_pool := _, F__law_pool := F8, m__law_pool := PySem.W.mg_of X G a8, b__law_pool := B8, f__law_take := _, d__law_take := _, F__law_take := F9, m__law_take := PySem.W.mg_of X G a9, b__law_take := B9, f__law_power := _, d__law_power := _, F__law_power := F10, m__law_power := PySem.W.mg_of X G a10, b__law_power := B10, f__law_sets := _, d__law_sets := _, F__law_sets := F11, m__law_sets := PySem.W.mg_of X G a11, b__law_sets := B11, f_hands_asked := _, d_hands_asked := _, F_hands_asked := F12, m_hands_asked := PySem.W.mg_of X G a12, b_hands_asked := B12, f_weights_of := _, d_weights_of := _, F_weights_of := F13, m_weights_of := PySem.W.mg_of X G a13, b_weights_of := B13, f_readings_of := _, d_readings_of := _, F_readings_of := F14, m_readings_of := PySem.W.mg_of X G a14, b_readings_of := B14, f_is_taken := _, d_is_taken := _, F_is_taken := F15, m_is_taken := PySem.W.mg_of X G a15, b_is_taken := B15, f_put_together := _, d_put_together := _, F_put_together := F16, m_put_together := PySem.W.mg_of X G a16, b_put_together := B16, f__law_some := _, d__law_some := _, F__law_some := F17, m__law_some := PySem.W.mg_of X G a17, b__law_some := B17, f__law_wide := _, d__law_wide := _, F__law_wide := F18, m__law_wide := PySem.W.mg_of X G a18, b__law_wide := B18, f_painted_hands := _, d_painted_hands := _, F_painted_hands := F19, m_painted_hands := PySem.W.mg_of X G a19, b_painted_hands := B19, f_cleared_of := _, d_cleared_of := _, F_cleared_of := F20, m_cleared_of := PySem.W.mg_of X G a20, b_cleared_of := B20, f_is_doubt := _, d_is_doubt := _, F_is_doubt := F21, m_is_doubt := PySem.W.mg_of X G a21, b_is_doubt := B21, f__law_dial := _, d__law_dial := _, F__law_dial := F22, m__law_dial := PySem.W.mg_of X G a22, b__law_dial := B22, f__law_mark := _, d__law_mark := _, F__law_mark := F23, m__law_mark := PySem.W.mg_of X G a23, b__law_mark := B23, f_reading_doubt := _, d_reading_doubt := _, F_reading_doubt := F24, m_reading_doubt := PySem.W.mg_of X G a24, b_reading_doubt := B24, f_are_doubts := _, d_are_doubts := _, F_are_doubts := F25, m_are_doubts := PySem.W.mg_of X G a25, b_are_doubts := B25, f__law_hands := _, d__law_hands := _, F__law_hands := F26, m__law_hands := PySem.W.mg_of X G a26, b__law_hands := B26, f_whole_paper := _, d_whole_paper := _, F_whole_paper := F27, m_whole_paper := PySem.W.mg_of X G a27, b_whole_paper := B27, f__law_clock := _, d__law_clock := _, F__law_clock := F28, m__law_clock := PySem.W.mg_of X G a28, b__law_clock := B28, f_no_doubt := _, d_no_doubt := _, F_no_doubt := F29, m_no_doubt := PySem.W.mg_of X G a29, b_no_doubt := B29, f_first_clear := _, d_first_clear := _, F_first_clear := F30, m_first_clear := PySem.W.mg_of X G a30, b_first_clear := B30, f__law_clear := _, d__law_clear := _, F__law_clear := F31, m__law_clear := PySem.W.mg_of X G a31, b__law_clear := B31, f_fewest_painted := _, d_fewest_painted := _, F_fewest_painted := F32, m_fewest_painted := PySem.W.mg_of X G a32, b_fewest_painted := B32, f_painted_right := _, d_painted_right := _, F_painted_right := F33, m_painted_right := PySem.W.mg_of X G a33, b_painted_right := B33, f__law_right := _, d__law_right := _, F__law_right := F34, m__law_right := PySem.W.mg_of X G a34, b__law_right := B34, f__law_one_by_one := _, d__law_one_by_one := _, F__law_one_by_one := F35, m__law_one_by_one := PySem.W.mg_of X G a35, b__law_one_by_one := B35, f_law := _, d_law := _, F_law := F36, m_law := PySem.W.mg_of X G a36, b_law := B36, t_LETTERS := _, m_LETTERS := PySem.W.mg_of X G v0, z_abs := PySem.W.mg_none_of X G z0, z_all := PySem.W.mg_none_of X G z1, z_any := PySem.W.mg_none_of X G z2, z_bool := PySem.W.mg_none_of X G z3, z_enumerate := PySem.W.mg_none_of X G z4, z_int := PySem.W.mg_none_of X G z5, z_isinstance := PySem.W.mg_none_of X G z6, z_len := PySem.W.mg_none_of X G z7, z_list := PySem.W.mg_none_of X G z8, z_max := PySem.W.mg_none_of X G z9, z_range := PySem.W.mg_none_of X G z10, z_sum := PySem.W.mg_none_of X G z11, z_tuple := PySem.W.mg_none_of X G z12, z_zip := PySem.W.mg_none_of X G z13 }, rfl, rfl⟩
theorem all_mk {l : PySem.W.OpenLaw} {w : World} {K : Frg} {h : Heap} {mg : Str → Option Value} {fa : Addr} (X : K.In h) (G : h.Ns mainGlobals mg) (hfa : mg "law" = some (.ref fa))
    {od0 an0 : Option Addr} {sl0 : Array (Option Value)} {oc0 kV0 dc0 pm0 cd0 ct0 : Value} {f0 : Addr}
    (a0 : PySem.W.nsIn K mainGlobals "hand_asked" = some (some (.ref f0))) (l0 : K.lookup f0 = some ⟨oc0, od0, .func (PySem.W.fnOf "hand_asked" "hand_asked" (defArgs s_hand_asked) (defBody s_hand_asked) (defScope s_hand_asked) .none kV0 dc0 pm0 an0 cd0 ct0), sl0⟩) (c0 : PySem.W.codeIn K cd0 "hand_asked" = true) (k0 : PySem.W.keepIn K (.ref f0) = true)
    {od1 an1 : Option Addr} {sl1 : Array (Option Value)} {oc1 kV1 dc1 pm1 cd1 ct1 : Value} {f1 : Addr}
    (a1 : PySem.W.nsIn K mainGlobals "common_parts" = some (some (.ref f1))) (l1 : K.lookup f1 = some ⟨oc1, od1, .func (PySem.W.fnOf "common_parts" "common_parts" (defArgs s_common_parts) (defBody s_common_parts) (defScope s_common_parts) .none kV1 dc1 pm1 an1 cd1 ct1), sl1⟩) (c1 : PySem.W.codeIn K cd1 "common_parts" = true) (k1 : PySem.W.keepIn K (.ref f1) = true)
    {od2 an2 : Option Addr} {sl2 : Array (Option Value)} {oc2 kV2 dc2 pm2 cd2 ct2 : Value} {f2 : Addr}
    (a2 : PySem.W.nsIn K mainGlobals "swaps_of" = some (some (.ref f2))) (l2 : K.lookup f2 = some ⟨oc2, od2, .func (PySem.W.fnOf "swaps_of" "swaps_of" (defArgs s_swaps_of) (defBody s_swaps_of) (defScope s_swaps_of) .none kV2 dc2 pm2 an2 cd2 ct2), sl2⟩) (c2 : PySem.W.codeIn K cd2 "swaps_of" = true) (k2 : PySem.W.keepIn K (.ref f2) = true)
    {od3 an3 : Option Addr} {sl3 : Array (Option Value)} {oc3 kV3 dc3 pm3 cd3 ct3 : Value} {f3 : Addr}
    (a3 : PySem.W.nsIn K mainGlobals "rows_of" = some (some (.ref f3))) (l3 : K.lookup f3 = some ⟨oc3, od3, .func (PySem.W.fnOf "rows_of" "rows_of" (defArgs s_rows_of) (defBody s_rows_of) (defScope s_rows_of) .none kV3 dc3 pm3 an3 cd3 ct3), sl3⟩) (c3 : PySem.W.codeIn K cd3 "rows_of" = true) (k3 : PySem.W.keepIn K (.ref f3) = true)
    {od4 an4 : Option Addr} {sl4 : Array (Option Value)} {oc4 kV4 dc4 pm4 cd4 ct4 : Value} {f4 : Addr}
    (a4 : PySem.W.nsIn K mainGlobals "times_all" = some (some (.ref f4))) (l4 : K.lookup f4 = some ⟨oc4, od4, .func (PySem.W.fnOf "times_all" "times_all" (defArgs s_times_all) (defBody s_times_all) (defScope s_times_all) .none kV4 dc4 pm4 an4 cd4 ct4), sl4⟩) (c4 : PySem.W.codeIn K cd4 "times_all" = true) (k4 : PySem.W.keepIn K (.ref f4) = true)
    {od5 an5 : Option Addr} {sl5 : Array (Option Value)} {oc5 kV5 dc5 pm5 cd5 ct5 : Value} {f5 : Addr}
    (a5 : PySem.W.nsIn K mainGlobals "sets_of" = some (some (.ref f5))) (l5 : K.lookup f5 = some ⟨oc5, od5, .func (PySem.W.fnOf "sets_of" "sets_of" (defArgs s_sets_of) (defBody s_sets_of) (defScope s_sets_of) .none kV5 dc5 pm5 an5 cd5 ct5), sl5⟩) (c5 : PySem.W.codeIn K cd5 "sets_of" = true) (k5 : PySem.W.keepIn K (.ref f5) = true)
    {od6 an6 : Option Addr} {sl6 : Array (Option Value)} {oc6 kV6 dc6 pm6 cd6 ct6 : Value} {f6 : Addr}
    (a6 : PySem.W.nsIn K mainGlobals "is_rising_in" = some (some (.ref f6))) (l6 : K.lookup f6 = some ⟨oc6, od6, .func (PySem.W.fnOf "is_rising_in" "is_rising_in" (defArgs s_is_rising_in) (defBody s_is_rising_in) (defScope s_is_rising_in) .none kV6 dc6 pm6 an6 cd6 ct6), sl6⟩) (c6 : PySem.W.codeIn K cd6 "is_rising_in" = true) (k6 : PySem.W.keepIn K (.ref f6) = true)
    {od7 an7 : Option Addr} {sl7 : Array (Option Value)} {oc7 kV7 dc7 pm7 cd7 ct7 : Value} {f7 : Addr}
    (a7 : PySem.W.nsIn K mainGlobals "_law_cells" = some (some (.ref f7))) (l7 : K.lookup f7 = some ⟨oc7, od7, .func (PySem.W.fnOf "_law_cells" "_law_cells" (defArgs s__law_cells) (defBody s__law_cells) (defScope s__law_cells) .none kV7 dc7 pm7 an7 cd7 ct7), sl7⟩) (c7 : PySem.W.codeIn K cd7 "_law_cells" = true) (k7 : PySem.W.keepIn K (.ref f7) = true)
    {od8 an8 : Option Addr} {sl8 : Array (Option Value)} {oc8 kV8 dc8 pm8 cd8 ct8 : Value} {f8 : Addr}
    (a8 : PySem.W.nsIn K mainGlobals "_law_pool" = some (some (.ref f8))) (l8 : K.lookup f8 = some ⟨oc8, od8, .func (PySem.W.fnOf "_law_pool" "_law_pool" (defArgs s__law_pool) (defBody s__law_pool) (defScope s__law_pool) .none kV8 dc8 pm8 an8 cd8 ct8), sl8⟩) (c8 : PySem.W.codeIn K cd8 "_law_pool" = true) (k8 : PySem.W.keepIn K (.ref f8) = true)
    {od9 an9 : Option Addr} {sl9 : Array (Option Value)} {oc9 kV9 dc9 pm9 cd9 ct9 : Value} {f9 : Addr}
    (a9 : PySem.W.nsIn K mainGlobals "_law_take" = some (some (.ref f9))) (l9 : K.lookup f9 = some ⟨oc9, od9, .func (PySem.W.fnOf "_law_take" "_law_take" (defArgs s__law_take) (defBody s__law_take) (defScope s__law_take) .none kV9 dc9 pm9 an9 cd9 ct9), sl9⟩) (c9 : PySem.W.codeIn K cd9 "_law_take" = true) (k9 : PySem.W.keepIn K (.ref f9) = true)
    {od10 an10 : Option Addr} {sl10 : Array (Option Value)} {oc10 kV10 dc10 pm10 cd10 ct10 : Value} {f10 : Addr}
    (a10 : PySem.W.nsIn K mainGlobals "_law_power" = some (some (.ref f10))) (l10 : K.lookup f10 = some ⟨oc10, od10, .func (PySem.W.fnOf "_law_power" "_law_power" (defArgs s__law_power) (defBody s__law_power) (defScope s__law_power) .none kV10 dc10 pm10 an10 cd10 ct10), sl10⟩) (c10 : PySem.W.codeIn K cd10 "_law_power" = true) (k10 : PySem.W.keepIn K (.ref f10) = true)
    {od11 an11 : Option Addr} {sl11 : Array (Option Value)} {oc11 kV11 dc11 pm11 cd11 ct11 : Value} {f11 : Addr}
    (a11 : PySem.W.nsIn K mainGlobals "_law_sets" = some (some (.ref f11))) (l11 : K.lookup f11 = some ⟨oc11, od11, .func (PySem.W.fnOf "_law_sets" "_law_sets" (defArgs s__law_sets) (defBody s__law_sets) (defScope s__law_sets) .none kV11 dc11 pm11 an11 cd11 ct11), sl11⟩) (c11 : PySem.W.codeIn K cd11 "_law_sets" = true) (k11 : PySem.W.keepIn K (.ref f11) = true)
    {od12 an12 : Option Addr} {sl12 : Array (Option Value)} {oc12 kV12 dc12 pm12 cd12 ct12 : Value} {f12 : Addr}
    (a12 : PySem.W.nsIn K mainGlobals "hands_asked" = some (some (.ref f12))) (l12 : K.lookup f12 = some ⟨oc12, od12, .func (PySem.W.fnOf "hands_asked" "hands_asked" (defArgs s_hands_asked) (defBody s_hands_asked) (defScope s_hands_asked) .none kV12 dc12 pm12 an12 cd12 ct12), sl12⟩) (c12 : PySem.W.codeIn K cd12 "hands_asked" = true) (k12 : PySem.W.keepIn K (.ref f12) = true)
    {od13 an13 : Option Addr} {sl13 : Array (Option Value)} {oc13 kV13 dc13 pm13 cd13 ct13 : Value} {f13 : Addr}
    (a13 : PySem.W.nsIn K mainGlobals "weights_of" = some (some (.ref f13))) (l13 : K.lookup f13 = some ⟨oc13, od13, .func (PySem.W.fnOf "weights_of" "weights_of" (defArgs s_weights_of) (defBody s_weights_of) (defScope s_weights_of) .none kV13 dc13 pm13 an13 cd13 ct13), sl13⟩) (c13 : PySem.W.codeIn K cd13 "weights_of" = true) (k13 : PySem.W.keepIn K (.ref f13) = true)
    {od14 an14 : Option Addr} {sl14 : Array (Option Value)} {oc14 kV14 dc14 pm14 cd14 ct14 : Value} {f14 : Addr}
    (a14 : PySem.W.nsIn K mainGlobals "readings_of" = some (some (.ref f14))) (l14 : K.lookup f14 = some ⟨oc14, od14, .func (PySem.W.fnOf "readings_of" "readings_of" (defArgs s_readings_of) (defBody s_readings_of) (defScope s_readings_of) .none kV14 dc14 pm14 an14 cd14 ct14), sl14⟩) (c14 : PySem.W.codeIn K cd14 "readings_of" = true) (k14 : PySem.W.keepIn K (.ref f14) = true)
    {od15 an15 : Option Addr} {sl15 : Array (Option Value)} {oc15 kV15 dc15 pm15 cd15 ct15 : Value} {f15 : Addr}
    (a15 : PySem.W.nsIn K mainGlobals "is_taken" = some (some (.ref f15))) (l15 : K.lookup f15 = some ⟨oc15, od15, .func (PySem.W.fnOf "is_taken" "is_taken" (defArgs s_is_taken) (defBody s_is_taken) (defScope s_is_taken) .none kV15 dc15 pm15 an15 cd15 ct15), sl15⟩) (c15 : PySem.W.codeIn K cd15 "is_taken" = true) (k15 : PySem.W.keepIn K (.ref f15) = true)
    {od16 an16 : Option Addr} {sl16 : Array (Option Value)} {oc16 kV16 dc16 pm16 cd16 ct16 : Value} {f16 : Addr}
    (a16 : PySem.W.nsIn K mainGlobals "put_together" = some (some (.ref f16))) (l16 : K.lookup f16 = some ⟨oc16, od16, .func (PySem.W.fnOf "put_together" "put_together" (defArgs s_put_together) (defBody s_put_together) (defScope s_put_together) .none kV16 dc16 pm16 an16 cd16 ct16), sl16⟩) (c16 : PySem.W.codeIn K cd16 "put_together" = true) (k16 : PySem.W.keepIn K (.ref f16) = true)
    {od17 an17 : Option Addr} {sl17 : Array (Option Value)} {oc17 kV17 dc17 pm17 cd17 ct17 : Value} {f17 : Addr}
    (a17 : PySem.W.nsIn K mainGlobals "_law_some" = some (some (.ref f17))) (l17 : K.lookup f17 = some ⟨oc17, od17, .func (PySem.W.fnOf "_law_some" "_law_some" (defArgs s__law_some) (defBody s__law_some) (defScope s__law_some) .none kV17 dc17 pm17 an17 cd17 ct17), sl17⟩) (c17 : PySem.W.codeIn K cd17 "_law_some" = true) (k17 : PySem.W.keepIn K (.ref f17) = true)
    {od18 an18 : Option Addr} {sl18 : Array (Option Value)} {oc18 kV18 dc18 pm18 cd18 ct18 : Value} {f18 : Addr}
    (a18 : PySem.W.nsIn K mainGlobals "_law_wide" = some (some (.ref f18))) (l18 : K.lookup f18 = some ⟨oc18, od18, .func (PySem.W.fnOf "_law_wide" "_law_wide" (defArgs s__law_wide) (defBody s__law_wide) (defScope s__law_wide) .none kV18 dc18 pm18 an18 cd18 ct18), sl18⟩) (c18 : PySem.W.codeIn K cd18 "_law_wide" = true) (k18 : PySem.W.keepIn K (.ref f18) = true)
    {od19 an19 : Option Addr} {sl19 : Array (Option Value)} {oc19 kV19 dc19 pm19 cd19 ct19 : Value} {f19 : Addr}
    (a19 : PySem.W.nsIn K mainGlobals "painted_hands" = some (some (.ref f19))) (l19 : K.lookup f19 = some ⟨oc19, od19, .func (PySem.W.fnOf "painted_hands" "painted_hands" (defArgs s_painted_hands) (defBody s_painted_hands) (defScope s_painted_hands) .none kV19 dc19 pm19 an19 cd19 ct19), sl19⟩) (c19 : PySem.W.codeIn K cd19 "painted_hands" = true) (k19 : PySem.W.keepIn K (.ref f19) = true)
    {od20 an20 : Option Addr} {sl20 : Array (Option Value)} {oc20 kV20 dc20 pm20 cd20 ct20 : Value} {f20 : Addr}
    (a20 : PySem.W.nsIn K mainGlobals "cleared_of" = some (some (.ref f20))) (l20 : K.lookup f20 = some ⟨oc20, od20, .func (PySem.W.fnOf "cleared_of" "cleared_of" (defArgs s_cleared_of) (defBody s_cleared_of) (defScope s_cleared_of) .none kV20 dc20 pm20 an20 cd20 ct20), sl20⟩) (c20 : PySem.W.codeIn K cd20 "cleared_of" = true) (k20 : PySem.W.keepIn K (.ref f20) = true)
    {od21 an21 : Option Addr} {sl21 : Array (Option Value)} {oc21 kV21 dc21 pm21 cd21 ct21 : Value} {f21 : Addr}
    (a21 : PySem.W.nsIn K mainGlobals "is_doubt" = some (some (.ref f21))) (l21 : K.lookup f21 = some ⟨oc21, od21, .func (PySem.W.fnOf "is_doubt" "is_doubt" (defArgs s_is_doubt) (defBody s_is_doubt) (defScope s_is_doubt) .none kV21 dc21 pm21 an21 cd21 ct21), sl21⟩) (c21 : PySem.W.codeIn K cd21 "is_doubt" = true) (k21 : PySem.W.keepIn K (.ref f21) = true)
    {od22 an22 : Option Addr} {sl22 : Array (Option Value)} {oc22 kV22 dc22 pm22 cd22 ct22 : Value} {f22 : Addr}
    (a22 : PySem.W.nsIn K mainGlobals "_law_dial" = some (some (.ref f22))) (l22 : K.lookup f22 = some ⟨oc22, od22, .func (PySem.W.fnOf "_law_dial" "_law_dial" (defArgs s__law_dial) (defBody s__law_dial) (defScope s__law_dial) .none kV22 dc22 pm22 an22 cd22 ct22), sl22⟩) (c22 : PySem.W.codeIn K cd22 "_law_dial" = true) (k22 : PySem.W.keepIn K (.ref f22) = true)
    {od23 an23 : Option Addr} {sl23 : Array (Option Value)} {oc23 kV23 dc23 pm23 cd23 ct23 : Value} {f23 : Addr}
    (a23 : PySem.W.nsIn K mainGlobals "_law_mark" = some (some (.ref f23))) (l23 : K.lookup f23 = some ⟨oc23, od23, .func (PySem.W.fnOf "_law_mark" "_law_mark" (defArgs s__law_mark) (defBody s__law_mark) (defScope s__law_mark) .none kV23 dc23 pm23 an23 cd23 ct23), sl23⟩) (c23 : PySem.W.codeIn K cd23 "_law_mark" = true) (k23 : PySem.W.keepIn K (.ref f23) = true)
    {od24 an24 : Option Addr} {sl24 : Array (Option Value)} {oc24 kV24 dc24 pm24 cd24 ct24 : Value} {f24 : Addr}
    (a24 : PySem.W.nsIn K mainGlobals "reading_doubt" = some (some (.ref f24))) (l24 : K.lookup f24 = some ⟨oc24, od24, .func (PySem.W.fnOf "reading_doubt" "reading_doubt" (defArgs s_reading_doubt) (defBody s_reading_doubt) (defScope s_reading_doubt) .none kV24 dc24 pm24 an24 cd24 ct24), sl24⟩) (c24 : PySem.W.codeIn K cd24 "reading_doubt" = true) (k24 : PySem.W.keepIn K (.ref f24) = true)
    {od25 an25 : Option Addr} {sl25 : Array (Option Value)} {oc25 kV25 dc25 pm25 cd25 ct25 : Value} {f25 : Addr}
    (a25 : PySem.W.nsIn K mainGlobals "are_doubts" = some (some (.ref f25))) (l25 : K.lookup f25 = some ⟨oc25, od25, .func (PySem.W.fnOf "are_doubts" "are_doubts" (defArgs s_are_doubts) (defBody s_are_doubts) (defScope s_are_doubts) .none kV25 dc25 pm25 an25 cd25 ct25), sl25⟩) (c25 : PySem.W.codeIn K cd25 "are_doubts" = true) (k25 : PySem.W.keepIn K (.ref f25) = true)
    {od26 an26 : Option Addr} {sl26 : Array (Option Value)} {oc26 kV26 dc26 pm26 cd26 ct26 : Value} {f26 : Addr}
    (a26 : PySem.W.nsIn K mainGlobals "_law_hands" = some (some (.ref f26))) (l26 : K.lookup f26 = some ⟨oc26, od26, .func (PySem.W.fnOf "_law_hands" "_law_hands" (defArgs s__law_hands) (defBody s__law_hands) (defScope s__law_hands) .none kV26 dc26 pm26 an26 cd26 ct26), sl26⟩) (c26 : PySem.W.codeIn K cd26 "_law_hands" = true) (k26 : PySem.W.keepIn K (.ref f26) = true)
    {od27 an27 : Option Addr} {sl27 : Array (Option Value)} {oc27 kV27 dc27 pm27 cd27 ct27 : Value} {f27 : Addr}
    (a27 : PySem.W.nsIn K mainGlobals "whole_paper" = some (some (.ref f27))) (l27 : K.lookup f27 = some ⟨oc27, od27, .func (PySem.W.fnOf "whole_paper" "whole_paper" (defArgs s_whole_paper) (defBody s_whole_paper) (defScope s_whole_paper) .none kV27 dc27 pm27 an27 cd27 ct27), sl27⟩) (c27 : PySem.W.codeIn K cd27 "whole_paper" = true) (k27 : PySem.W.keepIn K (.ref f27) = true)
    {od28 an28 : Option Addr} {sl28 : Array (Option Value)} {oc28 kV28 dc28 pm28 cd28 ct28 : Value} {f28 : Addr}
    (a28 : PySem.W.nsIn K mainGlobals "_law_clock" = some (some (.ref f28))) (l28 : K.lookup f28 = some ⟨oc28, od28, .func (PySem.W.fnOf "_law_clock" "_law_clock" (defArgs s__law_clock) (defBody s__law_clock) (defScope s__law_clock) .none kV28 dc28 pm28 an28 cd28 ct28), sl28⟩) (c28 : PySem.W.codeIn K cd28 "_law_clock" = true) (k28 : PySem.W.keepIn K (.ref f28) = true)
    {od29 an29 : Option Addr} {sl29 : Array (Option Value)} {oc29 kV29 dc29 pm29 cd29 ct29 : Value} {f29 : Addr}
    (a29 : PySem.W.nsIn K mainGlobals "no_doubt" = some (some (.ref f29))) (l29 : K.lookup f29 = some ⟨oc29, od29, .func (PySem.W.fnOf "no_doubt" "no_doubt" (defArgs s_no_doubt) (defBody s_no_doubt) (defScope s_no_doubt) .none kV29 dc29 pm29 an29 cd29 ct29), sl29⟩) (c29 : PySem.W.codeIn K cd29 "no_doubt" = true) (k29 : PySem.W.keepIn K (.ref f29) = true)
    {od30 an30 : Option Addr} {sl30 : Array (Option Value)} {oc30 kV30 dc30 pm30 cd30 ct30 : Value} {f30 : Addr}
    (a30 : PySem.W.nsIn K mainGlobals "first_clear" = some (some (.ref f30))) (l30 : K.lookup f30 = some ⟨oc30, od30, .func (PySem.W.fnOf "first_clear" "first_clear" (defArgs s_first_clear) (defBody s_first_clear) (defScope s_first_clear) .none kV30 dc30 pm30 an30 cd30 ct30), sl30⟩) (c30 : PySem.W.codeIn K cd30 "first_clear" = true) (k30 : PySem.W.keepIn K (.ref f30) = true)
    {od31 an31 : Option Addr} {sl31 : Array (Option Value)} {oc31 kV31 dc31 pm31 cd31 ct31 : Value} {f31 : Addr}
    (a31 : PySem.W.nsIn K mainGlobals "_law_clear" = some (some (.ref f31))) (l31 : K.lookup f31 = some ⟨oc31, od31, .func (PySem.W.fnOf "_law_clear" "_law_clear" (defArgs s__law_clear) (defBody s__law_clear) (defScope s__law_clear) .none kV31 dc31 pm31 an31 cd31 ct31), sl31⟩) (c31 : PySem.W.codeIn K cd31 "_law_clear" = true) (k31 : PySem.W.keepIn K (.ref f31) = true)
    {od32 an32 : Option Addr} {sl32 : Array (Option Value)} {oc32 kV32 dc32 pm32 cd32 ct32 : Value} {f32 : Addr}
    (a32 : PySem.W.nsIn K mainGlobals "fewest_painted" = some (some (.ref f32))) (l32 : K.lookup f32 = some ⟨oc32, od32, .func (PySem.W.fnOf "fewest_painted" "fewest_painted" (defArgs s_fewest_painted) (defBody s_fewest_painted) (defScope s_fewest_painted) .none kV32 dc32 pm32 an32 cd32 ct32), sl32⟩) (c32 : PySem.W.codeIn K cd32 "fewest_painted" = true) (k32 : PySem.W.keepIn K (.ref f32) = true)
    {od33 an33 : Option Addr} {sl33 : Array (Option Value)} {oc33 kV33 dc33 pm33 cd33 ct33 : Value} {f33 : Addr}
    (a33 : PySem.W.nsIn K mainGlobals "painted_right" = some (some (.ref f33))) (l33 : K.lookup f33 = some ⟨oc33, od33, .func (PySem.W.fnOf "painted_right" "painted_right" (defArgs s_painted_right) (defBody s_painted_right) (defScope s_painted_right) .none kV33 dc33 pm33 an33 cd33 ct33), sl33⟩) (c33 : PySem.W.codeIn K cd33 "painted_right" = true) (k33 : PySem.W.keepIn K (.ref f33) = true)
    {od34 an34 : Option Addr} {sl34 : Array (Option Value)} {oc34 kV34 dc34 pm34 cd34 ct34 : Value} {f34 : Addr}
    (a34 : PySem.W.nsIn K mainGlobals "_law_right" = some (some (.ref f34))) (l34 : K.lookup f34 = some ⟨oc34, od34, .func (PySem.W.fnOf "_law_right" "_law_right" (defArgs s__law_right) (defBody s__law_right) (defScope s__law_right) .none kV34 dc34 pm34 an34 cd34 ct34), sl34⟩) (c34 : PySem.W.codeIn K cd34 "_law_right" = true) (k34 : PySem.W.keepIn K (.ref f34) = true)
    {od35 an35 : Option Addr} {sl35 : Array (Option Value)} {oc35 kV35 dc35 pm35 cd35 ct35 : Value} {f35 : Addr}
    (a35 : PySem.W.nsIn K mainGlobals "_law_one_by_one" = some (some (.ref f35))) (l35 : K.lookup f35 = some ⟨oc35, od35, .func (PySem.W.fnOf "_law_one_by_one" "_law_one_by_one" (defArgs s__law_one_by_one) (defBody s__law_one_by_one) (defScope s__law_one_by_one) .none kV35 dc35 pm35 an35 cd35 ct35), sl35⟩) (c35 : PySem.W.codeIn K cd35 "_law_one_by_one" = true) (k35 : PySem.W.keepIn K (.ref f35) = true)
    {od36 an36 : Option Addr} {sl36 : Array (Option Value)} {oc36 kV36 dc36 pm36 cd36 ct36 : Value} {f36 : Addr}
    (a36 : PySem.W.nsIn K mainGlobals "law" = some (some (.ref f36))) (l36 : K.lookup f36 = some ⟨oc36, od36, .func (PySem.W.fnOf "law" "law" (defArgs s_law) (defBody s_law) (defScope s_law) .none kV36 dc36 pm36 an36 cd36 ct36), sl36⟩) (c36 : PySem.W.codeIn K cd36 "law" = true) (k36 : PySem.W.keepIn K (.ref f36) = true)
    {t0 : Tok} (v0 : PySem.W.nsIn K mainGlobals "LETTERS" = some (some (.str "abcdefghijklmnopqrstuvwxyz" t0)))
    (z0 : PySem.W.nsIn K mainGlobals "abs" = some none)
    (z1 : PySem.W.nsIn K mainGlobals "all" = some none)
    (z2 : PySem.W.nsIn K mainGlobals "any" = some none)
    (z3 : PySem.W.nsIn K mainGlobals "bool" = some none)
    (z4 : PySem.W.nsIn K mainGlobals "enumerate" = some none)
    (z5 : PySem.W.nsIn K mainGlobals "int" = some none)
    (z6 : PySem.W.nsIn K mainGlobals "isinstance" = some none)
    (z7 : PySem.W.nsIn K mainGlobals "len" = some none)
    (z8 : PySem.W.nsIn K mainGlobals "list" = some none)
    (z9 : PySem.W.nsIn K mainGlobals "max" = some none)
    (z10 : PySem.W.nsIn K mainGlobals "range" = some none)
    (z11 : PySem.W.nsIn K mainGlobals "sum" = some none)
    (z12 : PySem.W.nsIn K mainGlobals "tuple" = some none)
    (z13 : PySem.W.nsIn K mainGlobals "zip" = some none) :
    ∃ fd : FuncData, (∀ (s : Shared) (v : Value), BindsTo s fd ⟨[v], []⟩ [("script", v)]) ∧ ∀ base : Heap, K.In base → base.Ns mainGlobals mg → FnOk l.prog w K mg base CX0 9 fa fd ["script"] (spF K g_law) := by
  have e := hfa.symm.trans (PySem.W.mg_of X G a36)
  cases e
  obtain ⟨T, e1, e2⟩ := tx_mk X G a0 l0 c0 k0 a1 l1 c1 k1 a2 l2 c2 k2 a3 l3 c3 k3 a4 l4 c4 k4 a5 l5 c5 k5 a6 l6 c6 k6 a7 l7 c7 k7 a8 l8 c8 k8 a9 l9 c9 k9 a10 l10 c10 k10 a11 l11 c11 k11 a12 l12 c12 k12 a13 l13 c13 k13 a14 l14 c14 k14 a15 l15 c15 k15 a16 l16 c16 k16 a17 l17 c17 k17 a18 l18 c18 k18 a19 l19 c19 k19 a20 l20 c20 k20 a21 l21 c21 k21 a22 l22 c22 k22 a23 l23 c23 k23 a24 l24 c24 k24 a25 l25 c25 k25 a26 l26 c26 k26 a27 l27 c27 k27 a28 l28 c28 k28 a29 l29 c29 k29 a30 l30 c30 k30 a31 l31 c31 k31 a32 l32 c32 k32 a33 l33 c33 k33 a34 l34 c34 k34 a35 l35 c35 k35 a36 l36 c36 k36 v0 z0 z1 z2 z3 z4 z5 z6 z7 z8 z9 z10 z11 z12 z13
  refine ⟨T.d_law, fun s v => ?_, fun base _ _ => ?_⟩
  · rw [e2]; exact .of_eq rfl
  · have := ok_law (P := l.prog) (w := w) (base := base) T
    rw [e1] at this
    exact this
end Lw

section
open PySem PySem.W PyProof.Rows
set_option maxHeartbeats 0 in
theorem Lw.walked (hlaw : ∀ ns : List Int, ns.length ≤ 63 → ∃ args', Lw.g_law [.ro (ns.map .int)] = some (.bool true, args')) : PySem.Challenge.rw_dialdoubt_k48_whole_painted_beside_whole.Holds := by
  w_on
  refine Lw.wrap ?_
  k_fill
  refine L2.walk_of (l := PySem.Challenge.rw_dialdoubt_k48_whole_painted_beside_whole) (n := 63) (k := 9) (x := "script") (CX := fun _ => L2.CX0) (sp := fun w => M.spF _ Lw.g_law) rfl (by decide) rfl ⟨rfl, by decide, by decide⟩ (fun w h Y => PySem.W.kIn_of Y) ?F (fun _ _ a ns hl _ hS => M.law_sp hS (hlaw ns hl)) (fun _ _ _ _ _ h => h)
  case F =>
    intro w mg fa h KX G hmg
    refine' Lw.all_mk KX G hmg ?a0 ?l0 ?c0 ?k0 ?a1 ?l1 ?c1 ?k1 ?a2 ?l2 ?c2 ?k2 ?a3 ?l3 ?c3 ?k3 ?a4 ?l4 ?c4 ?k4 ?a5 ?l5 ?c5 ?k5 ?a6 ?l6 ?c6 ?k6 ?a7 ?l7 ?c7 ?k7 ?a8 ?l8 ?c8 ?k8 ?a9 ?l9 ?c9 ?k9 ?a10 ?l10 ?c10 ?k10 ?a11 ?l11 ?c11 ?k11 ?a12 ?l12 ?c12 ?k12 ?a13 ?l13 ?c13 ?k13 ?a14 ?l14 ?c14 ?k14 ?a15 ?l15 ?c15 ?k15 ?a16 ?l16 ?c16 ?k16 ?a17 ?l17 ?c17 ?k17 ?a18 ?l18 ?c18 ?k18 ?a19 ?l19 ?c19 ?k19 ?a20 ?l20 ?c20 ?k20 ?a21 ?l21 ?c21 ?k21 ?a22 ?l22 ?c22 ?k22 ?a23 ?l23 ?c23 ?k23 ?a24 ?l24 ?c24 ?k24 ?a25 ?l25 ?c25 ?k25 ?a26 ?l26 ?c26 ?k26 ?a27 ?l27 ?c27 ?k27 ?a28 ?l28 ?c28 ?k28 ?a29 ?l29 ?c29 ?k29 ?a30 ?l30 ?c30 ?k30 ?a31 ?l31 ?c31 ?k31 ?a32 ?l32 ?c32 ?k32 ?a33 ?l33 ?c33 ?k33 ?a34 ?l34 ?c34 ?k34 ?a35 ?l35 ?c35 ?k35 ?a36 ?l36 ?c36 ?k36 ?v0 ?z0 ?z1 ?z2 ?z3 ?z4 ?z5 ?z6 ?z7 ?z8 ?z9 ?z10 ?z11 ?z12 ?z13
    (case a0 => k_is); (case l0 => k_is); (case c0 => k_is); (case k0 => k_is); (case a1 => k_is); (case l1 => k_is); (case c1 => k_is); (case k1 => k_is); (case a2 => k_is); (case l2 => k_is); (case c2 => k_is); (case k2 => k_is); (case a3 => k_is); (case l3 => k_is); (case c3 => k_is); (case k3 => k_is); (case a4 => k_is); (case l4 => k_is); (case c4 => k_is); (case k4 => k_is); (case a5 => k_is); (case l5 => k_is); (case c5 => k_is); (case k5 => k_is); (case a6 => k_is); (case l6 => k_is); (case c6 => k_is); (case k6 => k_is); (case a7 => k_is); (case l7 => k_is); (case c7 => k_is); (case k7 => k_is); (case a8 => k_is); (case l8 => k_is); (case c8 => k_is); (case k8 => k_is); (case a9 => k_is); (case l9 => k_is); (case c9 => k_is); (case k9 => k_is); (case a10 => k_is); (case l10 => k_is); (case c10 => k_is); (case k10 => k_is); (case a11 => k_is); (case l11 => k_is); (case c11 => k_is); (case k11 => k_is); (case a12 => k_is); (case l12 => k_is); (case c12 => k_is); (case k12 => k_is); (case a13 => k_is); (case l13 => k_is); (case c13 => k_is); (case k13 => k_is); (case a14 => k_is); (case l14 => k_is); (case c14 => k_is); (case k14 => k_is); (case a15 => k_is); (case l15 => k_is); (case c15 => k_is); (case k15 => k_is); (case a16 => k_is); (case l16 => k_is); (case c16 => k_is); (case k16 => k_is); (case a17 => k_is); (case l17 => k_is); (case c17 => k_is); (case k17 => k_is); (case a18 => k_is); (case l18 => k_is); (case c18 => k_is); (case k18 => k_is); (case a19 => k_is); (case l19 => k_is); (case c19 => k_is); (case k19 => k_is); (case a20 => k_is); (case l20 => k_is); (case c20 => k_is); (case k20 => k_is); (case a21 => k_is); (case l21 => k_is); (case c21 => k_is); (case k21 => k_is); (case a22 => k_is); (case l22 => k_is); (case c22 => k_is); (case k22 => k_is); (case a23 => k_is); (case l23 => k_is); (case c23 => k_is); (case k23 => k_is); (case a24 => k_is); (case l24 => k_is); (case c24 => k_is); (case k24 => k_is); (case a25 => k_is); (case l25 => k_is); (case c25 => k_is); (case k25 => k_is); (case a26 => k_is); (case l26 => k_is); (case c26 => k_is); (case k26 => k_is); (case a27 => k_is); (case l27 => k_is); (case c27 => k_is); (case k27 => k_is); (case a28 => k_is); (case l28 => k_is); (case c28 => k_is); (case k28 => k_is); (case a29 => k_is); (case l29 => k_is); (case c29 => k_is); (case k29 => k_is); (case a30 => k_is); (case l30 => k_is); (case c30 => k_is); (case k30 => k_is); (case a31 => k_is); (case l31 => k_is); (case c31 => k_is); (case k31 => k_is); (case a32 => k_is); (case l32 => k_is); (case c32 => k_is); (case k32 => k_is); (case a33 => k_is); (case l33 => k_is); (case c33 => k_is); (case k33 => k_is); (case a34 => k_is); (case l34 => k_is); (case c34 => k_is); (case k34 => k_is); (case a35 => k_is); (case l35 => k_is); (case c35 => k_is); (case k35 => k_is); (case a36 => k_is); (case l36 => k_is); (case c36 => k_is); (case k36 => k_is); (case v0 => k_is); (case z0 => k_is); (case z1 => k_is); (case z2 => k_is); (case z3 => k_is); (case z4 => k_is); (case z5 => k_is); (case z6 => k_is); (case z7 => k_is); (case z8 => k_is); (case z9 => k_is); (case z10 => k_is); (case z11 => k_is); (case z12 => k_is); (case z13 => k_is)

end

namespace M
open PySem PySem.Spec PyProof.Rows L2
/-! ### all orders, rising -/
def nextO (n : Nat) (o : List Nat) : List (List Nat) := ((List.range n).filter fun j => decide (j ∉ o)).map fun j => o ++ [j]
def ordersGo (n : Nat) : Nat → List (List Nat)
  | 0 => [[]]
  | k + 1 => (ordersGo n k).flatMap (nextO n)
def ordersL (n : Nat) : List (List Nat) := ordersGo n n
theorem filter_flatMap {α β : Type} (p : α → Bool) (f : α → List β) : ∀ l : List α, (l.filter p).flatMap f = l.flatMap fun x => if p x then f x else []
  | [] => rfl
  | x :: l => by
    rw [List.filter_cons]
    by_cases h : p x = true
    · rw [if_pos h, List.flatMap_cons, List.flatMap_cons, if_pos h, filter_flatMap p f l]
    · rw [if_neg h, List.flatMap_cons, if_neg h, List.nil_append, filter_flatMap p f l]
/-- the looks that an order gives -/
def fitsB (looks : List Str) (k : Nat) (o : List Nat) : Bool := decide (o.map (fun j => looks[j]?) = (looks.take k).map some)
theorem swaps_orders (looks : List Str) : ∀ k, k ≤ looks.length → swapsGo looks (looks.take k) [[]] = (ordersGo looks.length k).filter (fitsB looks k)
  | 0, _ => by simp [swapsGo, ordersGo, fitsB]
  | k + 1, h => by
    have hk : k < looks.length := by omega
    have ht : looks.take (k + 1) = looks.take k ++ [looks[k]] := List.take_succ_eq_append_getElem hk
    have hs : swapsGo looks (looks.take (k + 1)) [[]] = (swapsGo looks (looks.take k) [[]]).flatMap (nextS looks looks[k]) := by rw [ht, swapsGo_snoc]
    rw [hs, swaps_orders looks k (by omega), filter_flatMap]
    show _ = ((ordersGo looks.length k).flatMap (nextO looks.length)).filter _
    rw [List.filter_flatMap]
    refine congrArg (List.flatMap · _) (funext fun o => ?_)
    unfold nextO nextS
    rw [List.filter_map, List.filter_filter]
    have key : ∀ j, fitsB looks (k + 1) (o ++ [j]) = (fitsB looks k o && decide (looks[j]? = some looks[k])) := fun j => by
      unfold fitsB
      rw [ht, List.map_append, List.map_append, ← Bool.decide_and]
      refine decide_eq_decide.mpr ⟨fun e => ?_, fun e => by rw [e.1]; simp [e.2]⟩
      obtain ⟨e1, e2⟩ := List.append_inj' e rfl
      exact ⟨e1, by simpa using e2⟩
    by_cases hf : fitsB looks k o = true
    · rw [if_pos hf]
      refine congrArg (List.map _) (List.filter_congr fun j _ => ?_)
      show _ = (fitsB looks (k + 1) (o ++ [j]) && decide (j ∉ o))
      rw [key, hf, Bool.true_and, Bool.and_comm]
    · rw [if_neg hf]
      have : (List.range looks.length).filter (fun j => ((fitsB looks (k + 1)) ∘ fun j => o ++ [j]) j && decide (j ∉ o)) = [] := List.filter_eq_nil_iff.mpr fun j _ => by
        show ¬ (fitsB looks (k + 1) (o ++ [j]) && decide (j ∉ o)) = true
        rw [key]
        simp [hf]
      rw [this]
      rfl
theorem swapsL_orders (looks : List Str) : swapsL looks = (ordersL looks.length).filter (fitsB looks looks.length) := by
  have := swaps_orders looks looks.length (Nat.le_refl _)
  rw [List.take_length] at this
  exact this
/-! rising -/
/-! sorted readings -/
end M

namespace M
open PySem PySem.Spec PyProof.Rows L2
theorem irange_nat (n : Nat) : irange 0 n = (List.range n).map fun (j : Nat) => PyData.int (j : Int) := by
  unfold irange
  exact List.map_congr_left fun j _ => by rw [Int.zero_add]
def lookD : D → D
  | .tuple [_, _, x] => x
  | d => d
theorem lookD_hands (hs : List Hd) : (hs.map hD).map lookD = (looksOf hs).map .str := by
  rw [List.map_map, List.map_map]
  rfl
theorem lay_strs {n : Nat} {ls : List Str} (h : ∀ x ∈ ls, isLk x) : Lay (n + 1) (.list (ls.map .str)) := lay_lst fun d hd => by
  obtain ⟨x, hx, rfl⟩ := List.mem_map.mp hd
  exact lay_lk (h x hx)
end M

namespace M
open PySem PySem.Spec PyProof.Rows L2
theorem all_zw {α β : Type} {f : Nat → Hd → α} {g : Nat → Hd → β} {p : α → Bool} {q : β → Bool} (h : ∀ j x, p (f j x) = q (g j x)) : ∀ (o : List Nat) (hs : List Hd), (List.zipWith f o hs).all p = (List.zipWith g o hs).all q
  | [], _ => rfl
  | _ :: _, [] => rfl
  | j :: o, x :: hs => by rw [List.zipWith_cons_cons, List.zipWith_cons_cons, List.all_cons, List.all_cons, h j x, all_zw h o hs]
theorem emod_zero_iff {m a b : Int} (h : m ∣ a - b) : a % m = 0 ↔ b % m = 0 := by
  have := Int.emod_eq_emod_iff_emod_sub_eq_zero.mpr (Int.emod_eq_zero_of_dvd h)
  rw [this]
theorem turn1_rng {m : Int} (hm : 0 < m) (hs : List Hd) (mir : Bool) (t u : Int) (j : Nat) (h : Hd) : 0 ≤ turn1 m hs mir t u j h ∧ turn1 m hs mir t u j h < m := ⟨Int.emod_nonneg _ (by omega), Int.emod_lt_of_pos _ hm⟩
theorem taken_plain {m : Int} (hm : 0 < m) (hs : List Hd) (r : Rd) (t u : Int) : takenB m (rowsL m hs false r) t u = (turnsL m hs r t u).all fun x => decide (x = 0) := by
  refine all_zw (f := row1 m hs r.2) (g := turn1 m hs r.2 t u) (fun j x => decide_eq_decide.mpr ?_) r.1 hs
  have h := row_turn (m := m) (hs := hs) (mir := r.2) (t := t) (u := u) (j := j) (h := x)
  obtain ⟨h1, h2⟩ := turn1_rng hm hs r.2 t u j x
  rw [emod_zero_iff h, Int.emod_eq_of_lt h1 h2]
theorem taken_blank {m : Int} (hm : 0 < m) (hs : List Hd) (r : Rd) (t u : Int) : takenB m (rowsL m hs true r) t u = (turnsL m hs r t u).tail.all fun x => decide (x = (turnsL m hs r t u).headD 0) := by
  obtain ⟨o, mir⟩ := r
  show takenB m ((rows0 m hs (o, mir)).tail.map fun x => lessR m x ((rows0 m hs (o, mir)).headD (0, 0, 0))) t u = _
  unfold rows0 turnsL takenB
  dsimp only
  generalize hf : row1 m hs mir = f
  generalize hg : turn1 m hs mir t u = g
  cases o with
  | nil => rfl
  | cons j o =>
    cases hs with
    | nil => rfl
    | cons x xs =>
      rw [List.zipWith_cons_cons, List.zipWith_cons_cons, List.tail_cons, List.tail_cons, List.headD_cons, List.headD_cons, List.all_map]
      refine all_zw (p := (fun r : Rw => decide ((r.1 * u - r.2.1 * t - r.2.2) % m = 0)) ∘ fun y => lessR m y (f j x)) (q := fun y => decide (y = g j x)) (fun j' x' => decide_eq_decide.mpr ?_) o xs
      have h0 := row_turn (m := m) (hs := x :: xs) (mir := mir) (t := t) (u := u) (j := j) (h := x)
      have h1 := row_turn (m := m) (hs := x :: xs) (mir := mir) (t := t) (u := u) (j := j') (h := x')
      obtain ⟨a1, a2⟩ := turn1_rng hm (x :: xs) mir t u j x
      obtain ⟨b1, b2⟩ := turn1_rng hm (x :: xs) mir t u j' x'
      rw [hf, hg] at h0 h1
      rw [hg] at a1 a2 b1 b2
      show ((lessR m (f j' x') (f j x)).1 * u - (lessR m (f j' x') (f j x)).2.1 * t - (lessR m (f j' x') (f j x)).2.2) % m = 0 ↔ _
      unfold lessR
      dsimp only
      generalize f j' x' = R1 at *
      generalize f j x = R0 at *
      generalize g j' x' = T1 at *
      generalize g j x = T0 at *
      have e1 := Int.mul_ediv_add_emod (R1.1 - R0.1) m
      have e2 := Int.mul_ediv_add_emod (R1.2.1 - R0.2.1) m
      have e3 := Int.mul_ediv_add_emod (R1.2.2 - R0.2.2) m
      have hd : m ∣ ((R1.1 - R0.1) % m * u - (R1.2.1 - R0.2.1) % m * t - (R1.2.2 - R0.2.2) % m) - (T1 - T0) := by
        obtain ⟨c0, k0⟩ := h0
        obtain ⟨c1, k1⟩ := h1
        refine ⟨c1 - c0 - (R1.1 - R0.1) / m * u + (R1.2.1 - R0.2.1) / m * t + (R1.2.2 - R0.2.2) / m, ?_⟩
        grind
      rw [emod_zero_iff hd]
      constructor
      · intro h
        obtain ⟨c, hc⟩ := Int.dvd_of_emod_eq_zero h
        rcases Int.lt_trichotomy c 0 with hc0 | hc0 | hc0
        · have := Int.mul_le_mul_of_nonneg_left (show c ≤ -1 by omega) (show 0 ≤ m by omega)
          omega
        · subst hc0; omega
        · have := Int.mul_le_mul_of_nonneg_left (show 1 ≤ c by omega) (show 0 ≤ m by omega)
          omega
      · intro h
        rw [h, Int.sub_self, Int.zero_emod]
theorem rowsL_len (m : Int) (hs : List Hd) (bl : Bool) (r : Rd) : (rowsL m hs bl r).length ≤ hs.length := by
  have h : (rows0 m hs r).length ≤ hs.length := by unfold rows0; rw [List.length_zipWith]; omega
  unfold rowsL
  cases bl
  · exact h
  · show ((rows0 m hs r).tail.map _).length ≤ _
    rw [List.length_map, List.length_tail]
    omega
theorem mem_zw {α : Type} {f : Nat → Hd → α} : ∀ {o : List Nat} {hs : List Hd} {x : α}, x ∈ List.zipWith f o hs → ∃ j ∈ o, ∃ h ∈ hs, x = f j h
  | [], _, x, hx => by cases hx
  | _ :: _, [], x, hx => by cases hx
  | j :: o, h :: hs, x, hx => by
    rw [List.zipWith_cons_cons] at hx
    rcases List.mem_cons.mp hx with rfl | hx
    · exact ⟨j, List.mem_cons_self, h, List.mem_cons_self, rfl⟩
    · obtain ⟨j', h1, h', h2, h3⟩ := mem_zw hx
      exact ⟨j', List.mem_cons_of_mem _ h1, h', List.mem_cons_of_mem _ h2, h3⟩
def RwOk (m : Int) (x : Rw) : Prop := (0 ≤ x.1 ∧ x.1 < m) ∧ (0 ≤ x.2.1 ∧ x.2.1 < m) ∧ (0 ≤ x.2.2 ∧ x.2.2 < m)
theorem rowsL_rng {m : Int} {hs : List Hd} {bl : Bool} {r : Rd} (hm : 0 < m) (hk : HandsOk m hs) (ho : SwOk hs.length r.1) : ∀ x ∈ rowsL m hs bl r, RwOk m x := by
  have e : ∀ a : Int, 0 ≤ a % m ∧ a % m < m := fun a => ⟨Int.emod_nonneg _ (by omega), Int.emod_lt_of_pos _ hm⟩
  intro x hx
  unfold rowsL at hx
  cases bl
  · obtain ⟨j, hj, h, hh, rfl⟩ := mem_zw (show x ∈ rows0 m hs r from hx)
    have := ho.lt j hj
    unfold row1
    rw [getD_eq this]
    have := hk hs[j] (List.getElem_mem _)
    exact ⟨⟨this.1, this.2.1⟩, e _, e _⟩
  · obtain ⟨y, hy, rfl⟩ := List.mem_map.mp (show x ∈ (rows0 m hs r).tail.map _ from hx)
    exact ⟨e _, e _, e _⟩
end M

namespace M
open PySem PySem.Spec PyProof.Rows L2
/-! ### pictures -/
abbrev Pc := Str × Int
def PcOk (l : List Pc) : Prop := ∀ p ∈ l, isLk p.1
theorem PcOk.perm {l k : List Pc} (h : PcOk l) (p : k.Perm l) : PcOk k := fun x hx => h x (p.mem_iff.mp hx)
def markI (h : Hd) (t : Int) : Int := h.2.1 + h.1 * t
def picL (m : Int) (hs : List Hd) (t : Int) : List Pc := hs.map fun h => (h.2.2, markI h t % m)
def movL (m sg r : Int) (l : List Pc) : List Pc := l.map fun p => (p.1, (sg * p.2 + r) % m)
def InM (m : Int) (l : List Pc) : Prop := ∀ p ∈ l, 0 ≤ p.2 ∧ p.2 < m
theorem picL_in {m : Int} (hm : 0 < m) (hs : List Hd) (t : Int) : InM m (picL m hs t) := fun p hp => by
  obtain ⟨h, _, rfl⟩ := List.mem_map.mp hp
  exact ⟨Int.emod_nonneg _ (by omega), Int.emod_lt_of_pos _ hm⟩
theorem movL_comp {m a r b s : Int} (l : List Pc) : movL m b s (movL m a r l) = movL m (b * a) (b * r + s) l := by
  unfold movL
  rw [List.map_map]
  refine List.map_congr_left fun p _ => ?_
  show (p.1, (b * ((a * p.2 + r) % m) + s) % m) = (p.1, (b * a * p.2 + (b * r + s)) % m)
  have e := Int.mul_ediv_add_emod (a * p.2 + r) m
  refine congrArg (Prod.mk p.1) (Int.emod_eq_emod_iff_emod_sub_eq_zero.mpr (Int.emod_eq_zero_of_dvd ⟨-(b * ((a * p.2 + r) / m)), ?_⟩))
  generalize (a * p.2 + r) / m = q at *
  generalize (a * p.2 + r) % m = w at *
  grind
theorem movL_id {m r : Int} {l : List Pc} (h : InM m l) (hr : m ∣ r) : movL m 1 r l = l := by
  unfold movL
  have : ∀ p ∈ l, (p.1, (1 * p.2 + r) % m) = p := fun p hp => by
    obtain ⟨c, rfl⟩ := hr
    rw [Int.one_mul, Int.add_mul_emod_self_left, Int.emod_eq_of_lt (h p hp).1 (h p hp).2]
  rw [List.map_congr_left this, List.map_id'']
  exact fun _ => rfl
/-- a sign that the clock allows -/
def SgOk (mir : Bool) (sg : Int) : Prop := sg = 1 ∨ (mir = true ∧ sg = -1)
/-- two ticks show one picture -/
def Show (m : Int) (hs : List Hd) (bl mir : Bool) (t u : Int) : Prop := ∃ sg r : Int, SgOk mir sg ∧ (bl = false → r = 0) ∧ (movL m sg r (picL m hs t)).Perm (picL m hs u)
theorem SgOk.sq {mir : Bool} {sg : Int} (h : SgOk mir sg) : sg * sg = 1 := by
  rcases h with h | ⟨_, h⟩ <;> subst h <;> rfl
theorem SgOk.mul {mir : Bool} {a b : Int} (h : SgOk mir a) (k : SgOk mir b) : SgOk mir (b * a) := by
  rcases h with rfl | ⟨h, rfl⟩
  · rcases k with rfl | ⟨k, rfl⟩
    · exact .inl rfl
    · exact .inr ⟨k, rfl⟩
  · rcases k with rfl | ⟨k, rfl⟩
    · exact .inr ⟨h, rfl⟩
    · exact .inl rfl
theorem Show.refl {m : Int} (hm : 0 < m) (hs : List Hd) (bl mir : Bool) (t : Int) : Show m hs bl mir t t := ⟨1, 0, .inl rfl, fun _ => rfl, by rw [movL_id (picL_in hm hs t) ⟨0, by omega⟩]⟩
theorem Show.symm {m : Int} (hm : 0 < m) {hs : List Hd} {bl mir : Bool} {t u : Int} (h : Show m hs bl mir t u) : Show m hs bl mir u t := by
  obtain ⟨sg, r, h1, h2, h3⟩ := h
  refine ⟨sg, -(sg * r), h1, fun b => by rw [h2 b]; omega, ?_⟩
  have h4 : (movL m sg (-(sg * r)) (movL m sg r (picL m hs t))).Perm (movL m sg (-(sg * r)) (picL m hs u)) := h3.map _
  rw [movL_comp, h1.sq, movL_id (picL_in hm hs t) ⟨0, by omega⟩] at h4
  exact h4.symm
theorem Show.trans {m : Int} {hs : List Hd} {bl mir : Bool} {t u w : Int} (h : Show m hs bl mir t u) (k : Show m hs bl mir u w) : Show m hs bl mir t w := by
  obtain ⟨a, r, h1, h2, h3⟩ := h
  obtain ⟨b, s, k1, k2, k3⟩ := k
  refine ⟨b * a, b * r + s, h1.mul k1, fun e => by rw [h2 e, k2 e]; omega, ?_⟩
  have h4 : (movL m b s (movL m a r (picL m hs t))).Perm (movL m b s (picL m hs u)) := h3.map _
  rw [movL_comp] at h4
  exact h4.trans k3
/-! by readings -/
theorem perm_idx {α β : Type} {g : α → β} : ∀ {l k : List β}, l.Perm k → ∀ s : List α, k = s.map g → ∃ s' : List α, s'.Perm s ∧ l = s'.map g := by
  intro l k h
  induction h with
  | nil => intro s hs; exact ⟨s, List.Perm.refl _, hs⟩
  | cons x p ih =>
    intro s hs
    cases s with
    | nil => cases hs
    | cons a s =>
      rw [List.map_cons] at hs
      injection hs with h1 h2
      obtain ⟨s', h3, h4⟩ := ih s h2
      exact ⟨a :: s', h3.cons a, by rw [List.map_cons, h4, h1]⟩
  | swap x y l =>
    intro s hs
    cases s with
    | nil => cases hs
    | cons a s =>
      cases s with
      | nil => cases hs
      | cons b s =>
        rw [List.map_cons, List.map_cons] at hs
        injection hs with h1 hs
        injection hs with h2 h3
        exact ⟨b :: a :: s, List.Perm.swap a b s, by rw [List.map_cons, List.map_cons, h1, h2, h3]⟩
  | trans p q ih1 ih2 =>
    intro s hs
    obtain ⟨s1, h1, h2⟩ := ih2 s hs
    obtain ⟨s2, h3, h4⟩ := ih1 s1 h2
    exact ⟨s2, h3.trans h1, h4⟩
theorem orders_mem (n : Nat) : ∀ (k : Nat) (o : List Nat), o.length = k → (∀ j ∈ o, j < n) → o.Nodup → o ∈ ordersGo n k
  | 0, o, h, _, _ => by
    have := List.eq_nil_of_length_eq_zero h
    subst this
    simp [ordersGo]
  | k + 1, o, h, h1, h2 => by
    obtain ⟨p, j, rfl⟩ : ∃ p j, o = p ++ [j] := by
      have hne : o ≠ [] := fun e => by rw [e] at h; cases h
      exact ⟨o.dropLast, o.getLast hne, (List.dropLast_concat_getLast hne).symm⟩
    rw [List.length_append, List.length_singleton] at h
    obtain ⟨n1, _, n3⟩ := List.nodup_append.mp h2
    have hp := orders_mem n k p (by omega) (fun i hi => h1 i (List.mem_append_left _ hi)) n1
    show _ ∈ (ordersGo n k).flatMap (nextO n)
    refine List.mem_flatMap.mpr ⟨p, hp, List.mem_map.mpr ⟨j, List.mem_filter.mpr ⟨List.mem_range.mpr (h1 j (by simp)), decide_eq_true fun hj => n3 j hj j (by simp) rfl⟩, rfl⟩⟩
theorem perm_of_sub {α : Type} [BEq α] [LawfulBEq α] : ∀ {xs ys : List α}, xs.Nodup → (∀ x ∈ xs, x ∈ ys) → ys.length ≤ xs.length → xs.Perm ys
  | [], ys, _, _, h => by
    have := List.eq_nil_of_length_eq_zero (Nat.le_zero.mp h)
    rw [this]
  | x :: xs, ys, hn, hs, hl => by
    obtain ⟨h1, h2⟩ := List.nodup_cons.mp hn
    have hx := hs x List.mem_cons_self
    refine (List.Perm.cons x (perm_of_sub h2 (fun y hy => ?_) ?_)).trans (List.perm_cons_erase hx).symm
    · exact (List.mem_erase_of_ne (fun e => h1 (by rw [← e]; exact hy))).mpr (hs y (List.mem_cons_of_mem _ hy))
    · rw [List.length_erase_of_mem hx]
      rw [List.length_cons] at hl
      omega
theorem SwOk.perm {n : Nat} {o : List Nat} (h : SwOk n o) : o.Perm (List.range n) := by
  have hs : ∀ j ∈ o, j ∈ List.range n := fun j hj => List.mem_range.mpr (h.lt j hj)
  exact perm_of_sub h.nd hs (by rw [List.length_range, h.len]; exact Nat.le_refl _)
theorem swOk_of_perm {n : Nat} {o : List Nat} (h : o.Perm (List.range n)) : SwOk n o :=
  ⟨by rw [h.length_eq, List.length_range], fun j hj => List.mem_range.mp (h.mem_iff.mp hj), h.symm.nodup List.nodup_range⟩
theorem swaps_mem {looks : List Str} {o : List Nat} (h : SwOk looks.length o) (hl : ∀ i, i < looks.length → ∀ j, o[i]? = some j → looks[j]? = looks[i]?) : o ∈ swapsL looks := by
  rw [swapsL_orders]
  refine List.mem_filter.mpr ⟨orders_mem _ _ _ h.len h.lt h.nd, decide_eq_true ?_⟩
  rw [List.take_length]
  refine List.ext_getElem? fun i => ?_
  rw [List.getElem?_map, List.getElem?_map]
  by_cases hi : i < looks.length
  · have hio : i < o.length := by rw [h.len]; exact hi
    have := hl i hi o[i] (List.getElem?_eq_getElem hio)
    rw [List.getElem?_eq_getElem hio, Option.map_some, this, List.getElem?_eq_getElem hi]
    rfl
  · rw [List.getElem?_eq_none (by rw [h.len]; omega), List.getElem?_eq_none (by omega)]
    rfl
end M

namespace M
open PySem PySem.Spec PyProof.Rows L2
abbrev h0D : Hd := (0, 0, ⟨#[]⟩)
theorem turn_iff {m r t u : Int} {hs : List Hd} {mv : Bool} {j : Nat} {h : Hd} : turn1 m hs mv t u j h = r % m ↔ (sgn mv * (markI h t % m) + r) % m = markI (hs.getD j h0D) u % m := by
  have hX : (if mv then 0 - (h.2.1 + h.1 * t) else h.2.1 + h.1 * t) = sgn mv * markI h t := by
    cases mv
    · show h.2.1 + h.1 * t = 1 * (h.2.1 + h.1 * t)
      rw [Int.one_mul]
    · show 0 - (h.2.1 + h.1 * t) = -1 * (h.2.1 + h.1 * t)
      omega
  unfold turn1
  rw [hX]
  show (markI (hs.getD j h0D) u - sgn mv * markI h t) % m = _ ↔ _
  generalize markI (hs.getD j h0D) u = A
  generalize markI h t = B
  generalize sgn mv = s
  rw [Int.emod_eq_emod_iff_emod_sub_eq_zero, Int.emod_eq_emod_iff_emod_sub_eq_zero]
  have e := Int.mul_ediv_add_emod B m
  generalize B / m = q at *
  generalize B % m = w at *
  constructor
  · intro h
    obtain ⟨c, hc⟩ := Int.dvd_of_emod_eq_zero h
    exact Int.emod_eq_zero_of_dvd ⟨-c - s * q, by grind⟩
  · intro h
    obtain ⟨c, hc⟩ := Int.dvd_of_emod_eq_zero h
    exact Int.emod_eq_zero_of_dvd ⟨-c - s * q, by grind⟩
def pcA (m : Int) (hs : List Hd) (u : Int) (j : Nat) : Pc := ((hs.getD j h0D).2.2, markI (hs.getD j h0D) u % m)
def pcB (m s r t : Int) (h : Hd) : Pc := (h.2.2, (s * (markI h t % m) + r) % m)
theorem map_iff {m r t u : Int} {hs0 : List Hd} {mv : Bool} : ∀ {o : List Nat} {hs : List Hd}, o.length = hs.length → (o.map (pcA m hs0 u) = hs.map (pcB m (sgn mv) r t) ↔ o.map (fun j => (hs0.getD j h0D).2.2) = hs.map (fun h => h.2.2) ∧ ∀ x ∈ List.zipWith (turn1 m hs0 mv t u) o hs, x = r % m)
  | [], [], _ => by simp
  | [], _ :: _, h => by simp at h
  | _ :: _, [], h => by simp at h
  | j :: o, h :: hs, hl => by
    have ih := map_iff (m := m) (r := r) (t := t) (u := u) (hs0 := hs0) (mv := mv) (o := o) (hs := hs) (by simpa using hl)
    rw [List.map_cons, List.map_cons, List.map_cons, List.map_cons, List.zipWith_cons_cons, List.cons.injEq, List.cons.injEq, List.forall_mem_cons, ih, turn_iff]
    unfold pcA pcB
    rw [Prod.mk.injEq]
    constructor
    · rintro ⟨⟨a, b⟩, c, d⟩
      exact ⟨⟨a, c⟩, b.symm, d⟩
    · rintro ⟨⟨a, c⟩, b, d⟩
      exact ⟨⟨a, b.symm⟩, c, d⟩
theorem turnsL_rng {m : Int} (hm : 0 < m) {hs : List Hd} {r : Rd} {t u x : Int} (h : x ∈ turnsL m hs r t u) : x % m = x := by
  unfold turnsL at h
  obtain ⟨j, _, y, _, rfl⟩ := mem_zw h
  obtain ⟨a, b⟩ := turn1_rng hm hs r.2 t u j y
  exact Int.emod_eq_of_lt a b
theorem taken_iff {m : Int} (hm : 0 < m) {hs : List Hd} {bl : Bool} {rd : Rd} {t u : Int} : takenB m (rowsL m hs bl rd) t u = true ↔ ∃ r, (bl = false → r = 0) ∧ ∀ x ∈ turnsL m hs rd t u, x = r % m := by
  cases bl
  · rw [taken_plain hm, List.all_eq_true]
    constructor
    · intro h
      exact ⟨0, fun _ => rfl, fun x hx => by rw [Int.zero_emod]; exact of_decide_eq_true (h x hx)⟩
    · rintro ⟨r, h1, h2⟩ x hx
      have := h2 x hx
      rw [h1 rfl, Int.zero_emod] at this
      exact decide_eq_true this
  · rw [taken_blank hm]
    have hr := fun x => turnsL_rng hm (hs := hs) (r := rd) (t := t) (u := u) (x := x)
    generalize turnsL m hs rd t u = l at *
    cases l with
    | nil => exact ⟨fun _ => ⟨0, fun _ => rfl, fun x hx => by cases hx⟩, fun _ => rfl⟩
    | cons a l =>
      rw [List.tail_cons, List.headD_cons, List.all_eq_true]
      constructor
      · intro h
        refine ⟨a, fun z => (by cases z), fun x hx => ?_⟩
        rw [hr a List.mem_cons_self]
        rcases List.mem_cons.mp hx with rfl | hx
        · rfl
        · exact of_decide_eq_true (h x hx)
      · rintro ⟨r, _, h2⟩ x hx
        rw [h2 x (List.mem_cons_of_mem _ hx), h2 a List.mem_cons_self]
        exact decide_eq_true rfl
theorem map_getD (hs : List Hd) (F : Hd → Pc) : hs.map F = (List.range hs.length).map fun j => F (hs.getD j h0D) := by
  refine List.ext_getElem? fun i => ?_
  rw [List.getElem?_map, List.getElem?_map]
  by_cases hi : i < hs.length
  · rw [List.getElem?_range hi, List.getElem?_eq_getElem hi, Option.map_some, Option.map_some, getD_eq hi]
  · rw [List.getElem?_eq_none (by omega), List.getElem?_eq_none (by rw [List.length_range]; omega)]
    rfl
theorem movL_picL (m s r t : Int) (hs : List Hd) : movL m s r (picL m hs t) = hs.map (pcB m s r t) := by
  unfold movL picL
  rw [List.map_map]
  rfl
theorem picL_pcA (m u : Int) (hs : List Hd) : picL m hs u = (List.range hs.length).map (pcA m hs u) := map_getD hs _
theorem readOf_mem {mir mv : Bool} {sw : List (List Nat)} {o : List Nat} (h : o ∈ sw) (h2 : mv = true → mir = true) : (o, mv) ∈ readL mir sw := by
  unfold readL
  refine List.mem_flatMap.mpr ⟨o, h, ?_⟩
  cases mir
  · cases mv
    · simp
    · cases h2 rfl
  · cases mv <;> simp
theorem show_iff {m : Int} (hm : 0 < m) {hs : List Hd} {bl mir : Bool} {t u : Int} : Show m hs bl mir t u ↔ ∃ rd ∈ readOf hs mir, takenB m (rowsL m hs bl rd) t u = true := by
  constructor
  · rintro ⟨sg, r, h1, h2, h3⟩
    obtain ⟨mv, rfl, hmv⟩ : ∃ mv : Bool, sg = sgn mv ∧ (mv = true → mir = true) := by
      rcases h1 with rfl | ⟨h1, rfl⟩
      · exact ⟨false, rfl, fun z => by cases z⟩
      · exact ⟨true, rfl, fun _ => h1⟩
    rw [movL_picL] at h3
    obtain ⟨o, p, e⟩ := perm_idx h3 (List.range hs.length) (picL_pcA m u hs)
    have hsw := swOk_of_perm p
    obtain ⟨e1, e2⟩ := (map_iff hsw.len).mp e.symm
    refine ⟨(o, mv), readOf_mem (swaps_mem (by rw [List.length_map]; exact hsw) fun i hi j hj => ?_) hmv, (taken_iff hm).mpr ⟨r, h2, e2⟩⟩
    rw [List.length_map] at hi
    have hjn := hsw.lt j (List.mem_of_getElem? hj)
    have := congrArg (fun l : List Str => l[i]?) e1
    try dsimp only at this
    rw [List.getElem?_map, hj, Option.map_some, getD_eq hjn] at this
    rw [List.getElem?_map (i := j), List.getElem?_eq_getElem hjn, Option.map_some]
    exact this
  · rintro ⟨⟨o, mv⟩, h1, h2⟩
    obtain ⟨h3, h4⟩ := readL_mem h1
    obtain ⟨h5, h6⟩ := swapsL_ok h3
    rw [List.length_map] at h5 h6
    obtain ⟨r, h7, h8⟩ := (taken_iff hm).mp h2
    refine ⟨sgn mv, r, ?_, h7, ?_⟩
    · cases mv
      · exact .inl rfl
      · exact .inr ⟨h4 rfl, rfl⟩
    · rw [movL_picL, picL_pcA, ← (map_iff h5.len).mpr ⟨?_, h8⟩]
      · exact h5.perm.map _
      · refine List.ext_getElem? fun i => ?_
        rw [List.getElem?_map]
        by_cases hi : i < hs.length
        · obtain ⟨j, e1, e2⟩ := h6 i hi
          have hjn := h5.lt j (List.mem_of_getElem? e1)
          rw [List.getElem?_map, List.getElem?_map, List.getElem?_eq_getElem hjn, Option.map_some] at e2
          rw [e1, Option.map_some, getD_eq hjn, e2, List.getElem?_map]
        · rw [List.getElem?_eq_none (by rw [h5.len]; omega), List.getElem?_eq_none (by rw [List.length_map]; omega)]
          rfl
theorem wo_niR {r : Rd} {l : List Rd} {Q : D → Prop} (h : r ∈ l) (q : Q (.bool false)) : WO (gNi (rD r) (.list (l.map rD))) Q := by
  have h1 : shp (rD r) = true := (lay_rD (n := 0) r).shp (by omega)
  have h2 : shp (.list (l.map rD)) = true := (lay_rDs (n := 0) l).shp (by omega)
  have h3 : isIn (rD r) (.list (l.map rD)) = some ((l.map rD).any fun e => PyData.eqv e (rD r)) := by
    unfold rD at h1 ⊢
    unfold isIn
    dsimp only
    rw [if_pos (by rw [h1]; exact h2)]
  have h4 : ((l.map rD).any fun e => PyData.eqv e (rD r)) = true := List.any_eq_true.mpr ⟨rD r, List.mem_map.mpr ⟨r, h, rfl⟩, eqv_refl _ h1⟩
  refine ⟨_, ?_, q⟩
  unfold gNi
  rw [h3, h4]
  rfl
theorem irange_at {n k : Nat} {d : D} (h : (irange 0 n)[k]? = some d) : d = .int (k : Int) ∧ k < n := by
  rw [irange_nat, List.getElem?_map] at h
  by_cases hk : k < n
  · rw [List.getElem?_range hk] at h
    cases h
    exact ⟨rfl, hk⟩
  · rw [List.getElem?_eq_none (by rw [List.length_range]; omega)] at h
    cases h
/-! rows of a table -/
end M

namespace M
open PySem PySem.Spec PyProof.Rows L2
/-! ### numbers solved -/
theorem mod_eq_dvd {m a b : Int} : a % m = b % m ↔ m ∣ a - b := by
  rw [Int.emod_eq_emod_iff_emod_sub_eq_zero]
  exact ⟨Int.dvd_of_emod_eq_zero, Int.emod_eq_zero_of_dvd⟩
theorem dvd_mod_sub (m a : Int) : m ∣ a % m - a := ⟨-(a / m), by have := Int.mul_ediv_add_emod a m; grind⟩
theorem dot_sum1 (ws ns : List Int) : (List.zipWith (fun w n => w * n) ws ns).sum = dot ws ns := by
  have := dot_sum 1 ws ns
  rw [Int.mul_one] at this
  rw [← this]
  congr 1
  congr 1
  funext w n
  rw [Int.mul_one]
def natsI (n : Nat) : List Int := (List.range n).map fun (k : Nat) => (k : Int)
theorem irange_ints0 (n : Nat) : irange 0 n = (natsI n).map .int := by
  unfold natsI
  rw [irange_nat, List.map_map]
  rfl
theorem natsI_len (n : Nat) : (natsI n).length = n := by unfold natsI; rw [List.length_map, List.length_range]
theorem enum_at {ns : List Int} {k : Nat} {d : D} (h : (pairs (irange 0 (ns.map PyData.int).length) (ns.map .int))[k]? = some d) : ∃ hk : k < ns.length, d = .tuple [.int (k : Int), .int ns[k]] := by
  rw [List.length_map] at h
  obtain ⟨x, y, h1, h2, rfl⟩ := pairs_get h
  obtain ⟨rfl, hk⟩ := irange_at h1
  rw [List.getElem?_map, List.getElem?_eq_getElem hk] at h2
  cases h2
  exact ⟨hk, rfl⟩
end M

namespace M
open PySem PySem.Spec PyProof.Rows L2
/-! ### whole papers -/
def intD : D → Int
  | .int k => k
  | _ => 0
def intsD : D → List Int
  | .list ds => ds.map intD
  | _ => []
theorem intsD_ints (ns : List Int) : intsD (.list (ns.map .int)) = ns := by
  show (ns.map PyData.int).map intD = ns
  rw [List.map_map]
  exact List.map_id _
abbrev lsD (r : List Int) : D := .list (r.map .int)
def dotM (m : Int) (ns : List Int) (d : D) : D := .int (dot (intsD d) ns % m)
theorem dotM_rows (m : Int) (ns : List Int) (rows : List (List Int)) : (rows.map lsD).map (dotM m ns) = (rows.map fun r => dot r ns % m).map .int := by
  rw [List.map_map, List.map_map]
  refine List.map_congr_left fun r _ => ?_
  show dotM m ns (lsD r) = _
  unfold dotM
  rw [intsD_ints]
  rfl
theorem dot_bound : ∀ {bs ns : List Int} {B C : Nat}, (∀ b ∈ bs, b.natAbs ≤ B) → (∀ n ∈ ns, n.natAbs ≤ C) → (dot bs ns).natAbs ≤ bs.length * (B * C)
  | [], _, _, _, _, _ => by simp [dot]
  | _ :: _, [], _, _, _, _ => by simp [dot]
  | b :: bs, n :: ns, B, C, hb, hn => by
    have ih := dot_bound (bs := bs) (ns := ns) (fun b h => hb b (List.mem_cons_of_mem _ h)) (fun b h => hn b (List.mem_cons_of_mem _ h))
    have h1 := Nat.mul_le_mul (hb b List.mem_cons_self) (hn n List.mem_cons_self)
    show (b * n + dot bs ns).natAbs ≤ (bs.length + 1) * (B * C)
    have h2 := Int.natAbs_add_le (b * n) (dot bs ns)
    rw [Int.natAbs_mul] at h2
    rw [Nat.add_mul]
    omega
def indI (k : Int) (i : Int) : Int := if decide (i = k) = true then 1 else 0
theorem dot_ind (k c : Int) : ∀ (is ws ns : List Int), is.length = ws.length → dot (List.zipWith (fun i w => indI k i - c * w) is ws) ns = dot (is.map (indI k)) ns - c * dot ws ns
  | [], [], _, _ => by simp [dot]
  | [], _ :: _, _, h => by simp at h
  | _ :: _, [], _, h => by simp at h
  | i :: is, w :: ws, [], _ => by simp [dot]
  | i :: is, w :: ws, n :: ns, h => by
    have ih := dot_ind k c is ws ns (by simpa using h)
    show (indI k i - c * w) * n + dot (List.zipWith (fun i w => indI k i - c * w) is ws) ns = indI k i * n + dot (is.map (indI k)) ns - c * (w * n + dot ws ns)
    rw [ih]
    grind
theorem dot_at : ∀ (ns : List Int) (s k : Nat), dot (((List.range' s ns.length).map fun (i : Nat) => (i : Int)).map (indI ((s + k : Nat) : Int))) ns = (ns[k]?).getD 0
  | [], _, _ => by simp [dot]
  | n :: ns, s, k => by
    rw [List.length_cons, List.range'_succ, List.map_cons, List.map_cons]
    show indI _ _ * n + dot _ ns = _
    cases k with
    | zero =>
      have e : indI ((s + 0 : Nat) : Int) (s : Int) = 1 := by unfold indI; simp
      rw [e]
      have : ∀ (ns : List Int) (r : Nat), s < r → dot (((List.range' r ns.length).map fun (i : Nat) => (i : Int)).map (indI ((s + 0 : Nat) : Int))) ns = 0 := by
        intro ns
        induction ns with
        | nil => intro r _; simp [dot]
        | cons n ns ih =>
          intro r hr
          rw [List.length_cons, List.range'_succ, List.map_cons, List.map_cons]
          show indI _ _ * n + dot _ ns = 0
          rw [ih (r + 1) (by omega)]
          have : indI ((s + 0 : Nat) : Int) (r : Int) = 0 := by unfold indI; rw [if_neg (by simp; omega)]
          rw [this]
          omega
      rw [this ns (s + 1) (by omega)]
      simp
    | succ k =>
      have e : indI ((s + (k + 1) : Nat) : Int) (s : Int) = 0 := by unfold indI; rw [if_neg (by simp; omega)]
      have ih := dot_at ns (s + 1) k
      rw [show s + 1 + k = s + (k + 1) by omega] at ih
      rw [e, ih]
      simp
theorem dot_row {m g : Int} {ns ws : List Int} (W : We m ns g ws) {k : Nat} (hk : k < ns.length) : m ∣ dot (List.zipWith (fun i w => indI (k : Int) i - ns[k] / g * w) (natsI ns.length) ws) ns := by
  rw [dot_ind _ _ _ _ _ (by rw [natsI_len, W.len])]
  have h := dot_at ns 0 k
  rw [Nat.zero_add, List.getElem?_eq_getElem hk] at h
  have e : natsI ns.length = (List.range' 0 ns.length).map fun (i : Nat) => (i : Int) := by unfold natsI; rw [List.range_eq_range']
  rw [e, h]
  obtain ⟨c, hc⟩ := W.dot
  have hd := Int.ediv_mul_cancel (W.dn _ (List.getElem_mem hk))
  show m ∣ ns[k] - ns[k] / g * dot ws ns
  generalize ns[k] / g = q at *
  exact ⟨-q * c, by grind⟩
theorem dot_scale (c : Int) : ∀ (ws ns : List Int), dot (ws.map fun w => c * w) ns = c * dot ws ns
  | [], _ => by simp [dot]
  | _ :: _, [] => by simp [dot]
  | w :: ws, n :: ns => by
    have ih := dot_scale c ws ns
    show c * w * n + dot (ws.map fun w => c * w) ns = c * (w * n + dot ws ns)
    rw [ih]
    grind
structure Cleared (m : Int) (ns : List Int) (rows : List (List Int)) (ws : List Int) (g : Int) : Prop where
  we : We m ns g ws
  len : rows.length = ns.length + 1
  row : ∀ r ∈ rows, r.length = ns.length ∧ m ∣ dot r ns ∧ ∀ x ∈ r, x.natAbs ≤ 10 ^ 121
theorem taken_dvd {m t u : Int} {R : List Rw} (h : takenB m R t u = true) : ∀ r ∈ R, m ∣ r.1 * u - r.2.1 * t - r.2.2 := fun r hr => by
  unfold takenB at h
  exact Int.dvd_of_emod_eq_zero (of_decide_eq_true (List.all_eq_true.mp h r hr))
end M

namespace M
open PySem PySem.Spec PyProof.Rows L2
theorem dot_rowE {es ws : List Int} {k : Nat} {c : Int} (hl : es.length = ws.length) (hk : k < es.length) : dot (List.zipWith (fun i w => indI (k : Int) i - c * w) (natsI ws.length) ws) es = es[k] - c * dot ws es := by
  rw [dot_ind _ _ _ _ _ (by rw [natsI_len])]
  have h := dot_at es 0 k
  rw [Nat.zero_add, List.getElem?_eq_getElem hk] at h
  have e : natsI ws.length = (List.range' 0 es.length).map fun (i : Nat) => (i : Int) := by unfold natsI; rw [List.range_eq_range', hl]
  rw [e, h]
  rfl
structure Cleared2 (m : Int) (ns : List Int) (rows : List (List Int)) (ws : List Int) (g : Int) : Prop where
  base : Cleared m ns rows ws g
  solve : ∀ es : List Int, es.length = ns.length → (∀ r ∈ rows, m ∣ dot r es) → g ∣ dot ws es ∧ ∀ j (h1 : j < ns.length) (h2 : j < es.length), m ∣ ns[j] * (dot ws es % m / g) - es[j]
theorem solve_of {m g : Int} {ns ws es : List Int} (hm : 0 < m) (W : We m ns g ws) (hl : es.length = ns.length) (h1 : ∀ j (h1 : j < ns.length) (h2 : j < es.length), m ∣ es[j] - ns[j] / g * dot ws es) (h2 : m ∣ m / g * dot ws es) :
    g ∣ dot ws es ∧ ∀ j (h1 : j < ns.length) (h2 : j < es.length), m ∣ ns[j] * (dot ws es % m / g) - es[j] := by
  have hg := W.pos
  obtain ⟨k, hk⟩ := W.dm
  have hk0 : k ≠ 0 := fun e => by rw [e] at hk; omega
  have e : m / g = k := by rw [hk, Int.mul_ediv_cancel_left _ (by omega)]
  rw [e] at h2
  generalize dot ws es = D at *
  obtain ⟨c, hc⟩ := h2
  have hD : D = g * c := by
    have : k * D = k * (g * c) := by rw [hc, hk]; grind
    exact Int.eq_of_mul_eq_mul_left hk0 this
  refine ⟨⟨c, hD⟩, fun j a b => ?_⟩
  obtain ⟨p, hp⟩ := W.dn _ (List.getElem_mem a)
  obtain ⟨z, hz⟩ := h1 j a b
  have e1 := Int.mul_ediv_add_emod D m
  have e2 : D % m / g = c - k * (D / m) := by
    have : D % m = g * (c - k * (D / m)) := by rw [hk] at e1 ⊢; grind
    rw [this, Int.mul_ediv_cancel_left _ (by omega)]
  have e3 : ns[j] / g = p := by rw [hp, Int.mul_ediv_cancel_left _ (by omega)]
  rw [e3] at hz
  rw [e2]
  generalize D / m = q at *
  generalize es[j] = x at *
  generalize ns[j] = y at *
  exact ⟨-z - p * q, by grind⟩
/-! what multipliers of rows of multipliers come to -/
def putL (n : Nat) (row : List Int) (rows : List (List Int)) : List Int := (List.range n).map fun k => dot row (rows.map fun r => (r[k]?).getD 0)
theorem putL_len (n : Nat) (row : List Int) (rows : List (List Int)) : (putL n row rows).length = n := by unfold putL; rw [List.length_map, List.length_range]
theorem dot_add2 (f g : Nat → Int) : ∀ (l : List Nat) (ns : List Int), dot (l.map fun k => f k + g k) ns = dot (l.map f) ns + dot (l.map g) ns
  | [], _ => by simp [dot]
  | _ :: _, [] => by simp [dot]
  | k :: l, n :: ns => by
    have ih := dot_add2 f g l ns
    rw [List.map_cons, List.map_cons, List.map_cons]
    show (f k + g k) * n + dot _ ns = f k * n + dot _ ns + (g k * n + dot _ ns)
    rw [ih]
    grind
theorem dot_zeroL : ∀ (l : List Nat) (ns : List Int), dot (l.map fun _ => (0 : Int)) ns = 0
  | [], _ => by simp [dot]
  | _ :: _, [] => by simp [dot]
  | k :: l, n :: ns => by
    rw [List.map_cons]
    show 0 * n + dot _ ns = 0
    rw [dot_zeroL l ns]
    omega
theorem range_get (r : List Int) : (List.range r.length).map (fun k => (r[k]?).getD 0) = r := by
  refine List.ext_getElem? fun i => ?_
  rw [List.getElem?_map]
  by_cases hi : i < r.length
  · rw [List.getElem?_range hi, List.getElem?_eq_getElem hi]
    show some ((r[i]?).getD 0) = _
    rw [List.getElem?_eq_getElem hi]
    rfl
  · rw [List.getElem?_eq_none (by rw [List.length_range]; omega), List.getElem?_eq_none (by omega)]
    rfl
theorem dot_putL {n : Nat} {ns : List Int} : ∀ (row : List Int) (rows : List (List Int)), (∀ r ∈ rows, r.length = n) → dot (putL n row rows) ns = dot row (rows.map fun r => dot r ns)
  | [], rows, _ => by
    unfold putL
    have : (fun k : Nat => dot ([] : List Int) (rows.map fun r => (r[k]?).getD 0)) = fun _ => (0 : Int) := by funext k; simp [dot]
    rw [this, dot_zeroL]
    simp [dot]
  | w :: ws, [], _ => by
    unfold putL
    rw [List.map_nil]
    have : (fun k : Nat => dot (w :: ws) (([] : List (List Int)).map fun r => (r[k]?).getD 0)) = fun _ => (0 : Int) := by funext k; simp [dot]
    rw [this, dot_zeroL]
    simp [dot]
  | w :: row, r :: rows, h => by
    have ih := dot_putL (n := n) (ns := ns) row rows fun x hx => h x (List.mem_cons_of_mem _ hx)
    have hr := h r List.mem_cons_self
    unfold putL at ih ⊢
    have e : (fun k : Nat => dot (w :: row) ((r :: rows).map fun r => (r[k]?).getD 0)) = fun k => w * (r[k]?).getD 0 + dot row (rows.map fun r => (r[k]?).getD 0) := by
      funext k
      rw [List.map_cons]
      rfl
    rw [e, dot_add2, ih, List.map_cons]
    show _ = w * dot r ns + dot row _
    have e2 : ((List.range n).map fun k => w * (r[k]?).getD 0) = r.map fun x => w * x := by
      rw [← hr]
      have := range_get r
      conv => rhs; rw [← this]
      rw [List.map_map]
      rfl
    rw [e2, dot_scale]
theorem dot_modL (m : Int) : ∀ (l ns : List Int), m ∣ dot (l.map fun x => x % m) ns - dot l ns
  | [], _ => ⟨0, by simp [dot]⟩
  | _ :: _, [] => ⟨0, by simp [dot]⟩
  | x :: l, n :: ns => by
    obtain ⟨a, ha⟩ := dot_modL m l ns
    obtain ⟨b, hb⟩ := dvd_mod_sub m x
    rw [List.map_cons]
    exact ⟨b * n + a, by show (x % m * n + dot _ ns) - (x * n + dot l ns) = _; grind⟩
theorem dot_congL {α : Type} {m : Int} {f g : α → Int} : ∀ (w : List Int) (l : List α), (∀ x ∈ l, m ∣ f x - g x) → m ∣ dot w (l.map f) - dot w (l.map g)
  | [], _, _ => ⟨0, by simp [dot]⟩
  | _ :: _, [], _ => ⟨0, by simp [dot]⟩
  | w :: ws, x :: l, h => by
    obtain ⟨a, ha⟩ := dot_congL ws l fun y hy => h y (List.mem_cons_of_mem _ hy)
    obtain ⟨b, hb⟩ := h x List.mem_cons_self
    rw [List.map_cons, List.map_cons]
    exact ⟨w * b + a, by show (w * f x + dot ws _) - (w * g x + dot ws _) = _; grind⟩
theorem dot_subL (c : Int) : ∀ (w : List Int) (R : List Rw), dot w (R.map fun r => r.2.2 - r.1 * c) = dot w (R.map fun r => r.2.2) - dot w (R.map (·.1)) * c
  | [], _ => by simp [dot]
  | _ :: _, [] => by simp [dot]
  | w :: ws, r :: R => by
    have ih := dot_subL c ws R
    rw [List.map_cons, List.map_cons, List.map_cons]
    show w * (r.2.2 - r.1 * c) + dot ws _ = w * r.2.2 + dot ws _ - (w * r.1 + dot ws _) * c
    rw [ih]
    grind
/-- the second numbers of the rows, by rows of multipliers that take the differences to nought -/
theorem dot_second {m : Int} : ∀ (w : List Int) (R : List Rw), m ∣ dot w (R.map fun r => (r.1 - r.2.1) % m) - (dot w (R.map (·.1)) - dot w (R.map fun r => r.2.1))
  | [], _ => ⟨0, by simp [dot]⟩
  | _ :: _, [] => ⟨0, by simp [dot]⟩
  | w :: ws, r :: R => by
    obtain ⟨a, ha⟩ := dot_second (m := m) ws R
    obtain ⟨b, hb⟩ := dvd_mod_sub m (r.1 - r.2.1)
    rw [List.map_cons, List.map_cons, List.map_cons]
    exact ⟨w * b + a, by show (w * ((r.1 - r.2.1) % m) + dot ws _) - ((w * r.1 + dot ws _) - (w * r.2.1 + dot ws _)) = _; grind⟩
/-- a paper of a reading that shows that it takes no other tick for any -/
def PaperOk (m : Int) (R : List Rw) (d : D) : Prop := ∃ (w : Str) (ms : List Int), d = .tuple [.str w, .tuple (ms.map .int)] ∧ ms.length = R.length ∧ (∀ x ∈ ms, 0 ≤ x ∧ x < m) ∧
  ((w = "never" ∧ m ∣ dot ms (R.map (·.1)) ∧ m ∣ dot ms (R.map fun r => r.2.1) ∧ ¬ m ∣ dot ms (R.map fun r => r.2.2)) ∨ (w = "one" ∧ m ∣ dot ms (R.map (·.1)) - 1 ∧ m ∣ dot ms (R.map fun r => r.2.1) - 1 ∧ m ∣ dot ms (R.map fun r => r.2.2)))
theorem dot_taken {m t u : Int} : ∀ (ms : List Int) (R : List Rw), (∀ r ∈ R, m ∣ r.1 * u - r.2.1 * t - r.2.2) → m ∣ dot ms (R.map (·.1)) * u - dot ms (R.map fun r => r.2.1) * t - dot ms (R.map fun r => r.2.2)
  | [], _, _ => ⟨0, by simp [dot]⟩
  | _ :: _, [], _ => ⟨0, by simp [dot]⟩
  | w :: ws, r :: R, h => by
    obtain ⟨a, ha⟩ := dot_taken (m := m) (t := t) (u := u) ws R fun x hx => h x (List.mem_cons_of_mem _ hx)
    obtain ⟨b, hb⟩ := h r List.mem_cons_self
    rw [List.map_cons, List.map_cons, List.map_cons]
    exact ⟨w * b + a, by show (w * r.1 + dot ws _) * u - (w * r.2.1 + dot ws _) * t - (w * r.2.2 + dot ws _) = _; grind⟩
theorem PaperOk.clear {m t u : Int} {R : List Rw} {d : D} (P : PaperOk m R d) (h : takenB m R t u = true) : m ∣ u - t := by
  obtain ⟨w, ms, _, _, _, P⟩ := P
  obtain ⟨a, ha⟩ := dot_taken ms R (taken_dvd h)
  rcases P with ⟨_, ⟨b, hb⟩, ⟨c, hc⟩, hd⟩ | ⟨_, ⟨b, hb⟩, ⟨c, hc⟩, ⟨d, hd⟩⟩
  · exact absurd ⟨b * u - c * t - a, by grind⟩ hd
  · exact ⟨a - b * u + c * t + d, by grind⟩
/-- what is told of a reading's rows -/
def DoubtOf2 (m : Int) (R : List Rw) (d : D) : Prop := (∃ t g : Int, d = .tuple [.str "doubt", .int t, .int g] ∧ 0 ≤ t ∧ t < m ∧ 0 < g ∧ g < m ∧ takenB m R t ((t + g) % m) = true) ∨ PaperOk m R d
theorem paper_mk {m : Int} {R : List Rw} {rows : List (List Int)} {row ws : List Int} {g : Int} (hm : 0 < m) (C : Cleared m (R.map fun r => (r.1 - r.2.1) % m) rows ws g) (w : Str)
    (h : (w = "never" ∧ m ∣ dot row (rows.map fun r => dot r (R.map (·.1)) % m) ∧ ¬ m ∣ dot row (rows.map fun r => dot r (R.map fun r => r.2.2) % m)) ∨ (w = "one" ∧ m ∣ dot row (rows.map fun r => dot r (R.map (·.1)) % m) - 1 ∧ m ∣ dot row (rows.map fun r => dot r (R.map fun r => r.2.2) % m))) :
    PaperOk m R (.tuple [.str w, .tuple (((putL R.length row rows).map fun x => x % m).map .int)]) := by
  have hlen : ∀ r ∈ rows, r.length = R.length := fun r hr => by
    have := (C.row r hr).1
    rw [List.length_map] at this
    exact this
  have key : ∀ ns : List Int, m ∣ dot ((putL R.length row rows).map fun x => x % m) ns - dot row (rows.map fun r => dot r ns % m) := fun ns => by
    obtain ⟨a, ha⟩ := dot_modL m (putL R.length row rows) ns
    rw [dot_putL row rows hlen] at ha
    obtain ⟨b, hb⟩ := dot_congL (m := m) (f := fun r => dot r ns % m) (g := fun r => dot r ns) row rows fun r _ => dvd_mod_sub m _
    exact ⟨a - b, by grind⟩
  have key2 : m ∣ dot row (rows.map fun r => dot r (R.map fun r => r.2.1) % m) - dot row (rows.map fun r => dot r (R.map (·.1)) % m) := by
    refine dot_congL row rows fun r hr => ?_
    obtain ⟨a, ha⟩ := dot_second (m := m) r R
    obtain ⟨b, hb⟩ := (C.row r hr).2.1
    obtain ⟨c, hc⟩ := dvd_mod_sub m (dot r (R.map fun r => r.2.1))
    obtain ⟨d, hd⟩ := dvd_mod_sub m (dot r (R.map (·.1)))
    exact ⟨c - d + a - b, by grind⟩
  refine ⟨w, _, rfl, by rw [List.length_map, putL_len], fun x hx => ?_, ?_⟩
  · obtain ⟨y, _, rfl⟩ := List.mem_map.mp hx
    exact ⟨Int.emod_nonneg _ (by omega), Int.emod_lt_of_pos _ hm⟩
  · obtain ⟨a, ha⟩ := key (R.map (·.1))
    obtain ⟨b, hb⟩ := key (R.map fun r => r.2.1)
    obtain ⟨c, hc⟩ := key (R.map fun r => r.2.2)
    obtain ⟨d, hd⟩ := key2
    rcases h with ⟨h1, ⟨x, hx⟩, h3⟩ | ⟨h1, ⟨x, hx⟩, ⟨y, hy⟩⟩
    · exact .inl ⟨h1, ⟨a + x, by grind⟩, ⟨b + d + x, by grind⟩, fun ⟨z, hz⟩ => h3 ⟨z - c, by grind⟩⟩
    · exact .inr ⟨h1, ⟨a + x, by grind⟩, ⟨b + d + x, by grind⟩, ⟨c + y, by grind⟩⟩
theorem doubt_mk {m gap g : Int} {R : List Rw} {rows : List (List Int)} {ws : List Int} (hm : 0 < m) (C : Cleared2 m (R.map fun r => (r.1 - r.2.1) % m) rows ws g) (h0 : 0 < gap) (h1 : gap < m)
    (h : ∀ r ∈ rows, m ∣ dot r (R.map (·.1)) * gap - dot r (R.map fun r => r.2.2)) :
    DoubtOf2 m R (.tuple [.str "doubt", .int ((dot ws (R.map fun r => r.2.2) - dot ws (R.map (·.1)) * gap) % m / g), .int gap]) := by
  have hg := C.base.we.pos
  have hs := C.solve (R.map fun r => r.2.2 - r.1 * gap) (by rw [List.length_map, List.length_map]) fun r hr => by
    obtain ⟨a, ha⟩ := h r hr
    rw [dot_subL]
    exact ⟨-a, by grind⟩
  rw [dot_subL] at hs
  generalize dot ws (R.map fun r => r.2.2) - dot ws (R.map (·.1)) * gap = Dd at *
  have d0 := Int.emod_nonneg Dd (show m ≠ 0 by omega)
  have d1 := Int.emod_lt_of_pos Dd hm
  have t0 : 0 ≤ Dd % m / g := Int.ediv_nonneg d0 (by omega)
  have t1 : Dd % m / g ≤ Dd % m := Int.ediv_le_self _ d0
  refine .inl ⟨_, gap, rfl, t0, by omega, h0, h1, ?_⟩
  have hs2 := hs.2
  generalize Dd % m / g = t at *
  unfold takenB
  rw [List.all_eq_true]
  intro r hr
  obtain ⟨j, hj, rfl⟩ := List.mem_iff_getElem.mp hr
  obtain ⟨a, ha⟩ := hs2 j (by rw [List.length_map]; exact hj) (by rw [List.length_map]; exact hj)
  rw [List.getElem_map, List.getElem_map] at ha
  obtain ⟨b, hb⟩ := dvd_mod_sub m (R[j].1 - R[j].2.1)
  obtain ⟨c, hc⟩ := dvd_mod_sub m (t + gap)
  exact decide_eq_true (Int.emod_eq_zero_of_dvd ⟨a - b * t + R[j].1 * c, by grind⟩)
/-- what whole_paper tells -/
def WholeOf (m : Int) (hs : List Hd) (bl mir : Bool) (d : D) : Prop := (∃ (t u : Int) (r : Rd), d = .tuple [.str "rival", .int t, .int u, rD r] ∧ r ∈ readOf hs mir ∧ 0 ≤ t ∧ t < m ∧ 0 ≤ u ∧ u < m ∧ u ≠ t ∧ takenB m (rowsL m hs bl r) t u = true) ∨
  ∃ ps : List D, d = .tuple [.str "clear", .list ps] ∧ ps.length = (readOf hs mir).length ∧ ∀ k (h1 : k < (readOf hs mir).length) (h2 : k < ps.length), PaperOk m (rowsL m hs bl (readOf hs mir)[k]) ps[k]
theorem papers_clear {m : Int} (hm : 0 < m) {hs : List Hd} {bl mir : Bool} {ps : List D} (hl : ps.length = (readOf hs mir).length) (h : ∀ k (h1 : k < (readOf hs mir).length) (h2 : k < ps.length), PaperOk m (rowsL m hs bl (readOf hs mir)[k]) ps[k]) {t u : Int} (hS : Show m hs bl mir t u) : m ∣ u - t := by
  obtain ⟨rd, hrd, hT⟩ := (show_iff hm).mp hS
  obtain ⟨k, hk, rfl⟩ := List.mem_iff_getElem.mp hrd
  exact (h k hk (by omega)).clear hT
end M

namespace M
open PySem PySem.Spec PyProof.Rows L2
/-! ### sets of numbers, by size -/
def extS (n : Nat) (s : List Nat) : List (List Nat) := ((List.range n).filter fun x => s.all fun y => decide (y < x)).map fun x => s ++ [x]
def setsN (n : Nat) : Nat → List (List Nat)
  | 0 => [[]]
  | k + 1 => (setsN n k).flatMap (extS n)
theorem setsN_mem {n : Nat} : ∀ {k : Nat} {s : List Nat}, s ∈ setsN n k ↔ s.length = k ∧ s.Pairwise (· < ·) ∧ ∀ x ∈ s, x < n
  | 0, s => by
    unfold setsN
    rw [List.mem_singleton]
    constructor
    · rintro rfl
      exact ⟨rfl, .nil, fun x h => (by cases h)⟩
    · rintro ⟨h, _⟩
      exact List.eq_nil_of_length_eq_zero h
  | k + 1, s => by
    unfold setsN
    rw [List.mem_flatMap]
    constructor
    · rintro ⟨a, ha, hs⟩
      obtain ⟨h1, h2, h3⟩ := setsN_mem.mp ha
      unfold extS at hs
      obtain ⟨x, hx, rfl⟩ := List.mem_map.mp hs
      obtain ⟨hx1, hx2⟩ := List.mem_filter.mp hx
      rw [List.mem_range] at hx1
      refine ⟨by rw [List.length_append, h1]; rfl, List.pairwise_append.mpr ⟨h2, by simp, fun y hy z hz => ?_⟩, fun y hy => ?_⟩
      · rw [List.mem_singleton] at hz
        subst hz
        exact of_decide_eq_true (List.all_eq_true.mp hx2 y hy)
      · rcases List.mem_append.mp hy with hy | hy
        · exact h3 y hy
        · rw [List.mem_singleton] at hy
          omega
    · rintro ⟨h1, h2, h3⟩
      have hne : s ≠ [] := fun e => by rw [e] at h1; cases h1
      obtain ⟨a, x, rfl⟩ : ∃ a x, s = a ++ [x] := ⟨s.dropLast, s.getLast hne, (List.dropLast_concat_getLast hne).symm⟩
      rw [List.pairwise_append] at h2
      refine ⟨a, setsN_mem.mpr ⟨by rw [List.length_append] at h1; exact Nat.succ.inj h1, h2.1, fun y hy => h3 y (List.mem_append_left _ hy)⟩, List.mem_map.mpr ⟨x, List.mem_filter.mpr ⟨List.mem_range.mpr (h3 x (by simp)), List.all_eq_true.mpr fun y hy => decide_eq_true (h2.2.2 y hy x (by simp))⟩, rfl⟩⟩
theorem setsN_len : ∀ n < 6, ∀ k < 8, (setsN n k).length ≤ 10 := by decide +kernel
theorem rise_len {n : Nat} : ∀ {s : List Nat} (a : Nat), s.Pairwise (· < ·) → (∀ x ∈ s, a ≤ x ∧ x < n) → s.length ≤ n - a
  | [], a, _, _ => Nat.zero_le _
  | x :: s, a, h, h2 => by
    have h3 := h2 x List.mem_cons_self
    rw [List.pairwise_cons] at h
    have := rise_len (x + 1) h.2 fun y hy => ⟨h.1 y hy, (h2 y (List.mem_cons_of_mem _ hy)).2⟩
    rw [List.length_cons]
    omega
def keptN (hs : List Hd) (S : List Nat) : List Hd := S.map fun j => hs.getD j h0D
theorem keptN_len (hs : List Hd) (S : List Nat) : (keptN hs S).length = S.length := List.length_map ..
/-- no two ticks of the clock show one picture -/
def Clr (m : Int) (hs : List Hd) (bl mir : Bool) : Prop := ∀ t u : Int, Show m hs bl mir t u → m ∣ u - t
noncomputable def clrB (m : Int) (hs : List Hd) (bl mir : Bool) : Bool := @decide (Clr m hs bl mir) (Classical.propDecidable _)
theorem clrB_iff {m : Int} {hs : List Hd} {bl mir : Bool} : clrB m hs bl mir = true ↔ Clr m hs bl mir := by
  exact @decide_eq_true_iff (Clr m hs bl mir) (Classical.propDecidable _)
/-- a doubt of a clock, as it's told -/
def DbtOk (m : Int) (hs : List Hd) (bl mir : Bool) (d : D) : Prop := ∃ (t u : Int) (r : Rd), d = .tuple [.int t, .int u, rD r] ∧ r ∈ readOf hs mir ∧ 0 ≤ t ∧ t < m ∧ 0 ≤ u ∧ u < m ∧ u ≠ t ∧ takenB m (rowsL m hs bl r) t u = true
theorem not_dvd {m t u : Int} (t0 : 0 ≤ t) (t1 : t < m) (u0 : 0 ≤ u) (u1 : u < m) (h : u ≠ t) : ¬ m ∣ u - t := fun ⟨k, hk⟩ => by
  have h1 : k < 1 := by
    refine Int.not_le.mp fun h1 => ?_
    have : m * 1 ≤ m * k := Int.mul_le_mul_of_nonneg_left h1 (by omega)
    omega
  have h2 : -1 < k := by
    refine Int.not_le.mp fun h1 => ?_
    have : m * k ≤ m * (-1) := Int.mul_le_mul_of_nonneg_left h1 (by omega)
    omega
  have h3 : k = 0 := by omega
  subst h3
  omega
theorem DbtOk.not {m : Int} (hm : 0 < m) {hs : List Hd} {bl mir : Bool} {d : D} (h : DbtOk m hs bl mir d) : ¬ Clr m hs bl mir := fun C => by
  obtain ⟨t, u, r, rfl, hr, t0, t1, u0, u1, hne, hT⟩ := h
  exact not_dvd t0 t1 u0 u1 hne (C t u ((show_iff hm).mpr ⟨r, hr, hT⟩))
structure DbtsOk (m : Int) (bl mir : Bool) (Hs : List (List Hd)) (ds : List D) : Prop where
  len : ds.length = Hs.length
  ok : ∀ k (h1 : k < Hs.length) (h2 : k < ds.length), DbtOk m Hs[k] bl mir ds[k]
theorem DbtsOk.nil {m : Int} {bl mir : Bool} : DbtsOk m bl mir [] [] := ⟨rfl, fun k h => absurd h (Nat.not_lt_zero _)⟩
theorem DbtsOk.append {m : Int} {bl mir : Bool} {A B : List (List Hd)} {ds es : List D} (h : DbtsOk m bl mir A ds) (k : DbtsOk m bl mir B es) : DbtsOk m bl mir (A ++ B) (ds ++ es) := by
  refine ⟨by rw [List.length_append, List.length_append, h.len, k.len], fun i h1 h2 => ?_⟩
  have hl := h.len
  by_cases hi : i < A.length
  · rw [List.getElem_append_left hi, List.getElem_append_left (show i < ds.length by omega)]
    exact h.ok i hi (by omega)
  · rw [List.getElem_append_right (by omega), List.getElem_append_right (show ds.length ≤ i by omega)]
    have := k.ok (i - A.length) (by rw [List.length_append] at h1; omega) (by rw [List.length_append] at h2; omega)
    simpa [hl] using this
theorem DbtsOk.snoc {m : Int} {bl mir : Bool} {Hs : List (List Hd)} {ds : List D} {k : Nat} {d : D} (hk : k < Hs.length) (h : DbtsOk m bl mir (Hs.take k) ds) (hd : DbtOk m Hs[k] bl mir d) : DbtsOk m bl mir (Hs.take (k + 1)) (ds ++ [d]) := by
  rw [List.take_succ_eq_append_getElem hk]
  exact h.append ⟨rfl, fun i h1 h2 => by
    have : i = 0 := by rw [List.length_singleton] at h1; omega
    subst this
    exact hd⟩
theorem DbtsOk.not {m : Int} (hm : 0 < m) {bl mir : Bool} {Hs : List (List Hd)} {ds : List D} (h : DbtsOk m bl mir Hs ds) {H : List Hd} (hH : H ∈ Hs) : ¬ Clr m H bl mir := by
  obtain ⟨k, hk, rfl⟩ := List.mem_iff_getElem.mp hH
  exact (h.ok k hk (by rw [h.len]; exact hk)).not hm
/-- what whole_paper tells -/
theorem WholeOf.two {m : Int} (hm : 0 < m) {hs : List Hd} {bl mir : Bool} {d : D} (h : WholeOf m hs bl mir d) : (∃ e : D, d = .tuple [.str "clear", e] ∧ Clr m hs bl mir) ∨ ∃ a b c : D, d = .tuple [.str "rival", a, b, c] ∧ DbtOk m hs bl mir (.tuple [a, b, c]) ∧ ¬ Clr m hs bl mir := by
  rcases h with ⟨t, u, r, rfl, hr, t0, t1, u0, u1, hne, hT⟩ | ⟨ps, rfl, hl, hp⟩
  · have hD : DbtOk m hs bl mir (.tuple [.int t, .int u, rD r]) := ⟨t, u, r, rfl, hr, t0, t1, u0, u1, hne, hT⟩
    exact .inr ⟨_, _, _, rfl, hD, hD.not hm⟩
  · exact .inl ⟨_, rfl, fun t u hS => papers_clear hm hl hp hS⟩
/-! data -/
def naD : D → Nat
  | .int i => i.toNat
  | _ => 0
theorem naD_tO (S : List Nat) : (S.map fun (j : Nat) => PyData.int (j : Int)).map naD = S := by
  rw [List.map_map]
  have : naD ∘ (fun (j : Nat) => PyData.int (j : Int)) = id := by funext j; rfl
  rw [this, List.map_id]
def byS (f : List Nat → D) : D → D
  | .tuple ds => f (ds.map naD)
  | d => d
theorem byS_tO (f : List Nat → D) (S : List Nat) : byS f (tO S) = f S := by
  show f ((S.map fun (j : Nat) => PyData.int (j : Int)).map naD) = f S
  rw [naD_tO]
theorem byS_map (f : List Nat → D) (Ls : List (List Nat)) : (Ls.map tO).map (byS f) = Ls.map f := by
  rw [List.map_map]
  exact List.map_congr_left fun S _ => byS_tO f S
def snocD (S : List Nat) : D → D
  | .int i => tO (S ++ [i.toNat])
  | d => d
theorem irange_from {n : Nat} {z : Int} (hz : -1 ≤ z) : irange (z + 1) ((n : Int) - (z + 1)).toNat = ((List.range n).filter fun (x : Nat) => decide (z < (x : Int))).map fun (j : Nat) => PyData.int (j : Int) := by
  have h : ∀ n : Nat, (List.range n).filter (fun (x : Nat) => decide (z < (x : Int))) = (List.range ((n : Int) - (z + 1)).toNat).map fun i => (z + 1).toNat + i := by
    intro n
    induction n with
    | zero => rw [show ((0 : Nat) : Int) - (z + 1) = -(z + 1) by omega]; rw [show (-(z + 1)).toNat = 0 by omega]; rfl
    | succ n ih =>
      rw [List.range_succ, List.filter_append, ih]
      by_cases hc : z < (n : Int)
      · rw [show (((n + 1 : Nat) : Int) - (z + 1)).toNat = ((n : Int) - (z + 1)).toNat + 1 by omega, List.range_succ, List.map_append]
        congr 1
        rw [List.filter_cons_of_pos (by simpa using hc)]
        simp
        omega
      · rw [show (((n + 1 : Nat) : Int) - (z + 1)).toNat = ((n : Int) - (z + 1)).toNat by omega, List.filter_cons_of_neg (by simpa using hc)]
        simp
  rw [h]
  unfold irange
  rw [List.map_map]
  refine List.map_congr_left fun i hi => ?_
  show PyData.int (z + 1 + (i : Int)) = PyData.int (((z + 1).toNat + i : Nat) : Int)
  congr 1
  omega
theorem snoc_map {n : Nat} {S : List Nat} {P : Nat → Bool} (h : ∀ x, P x = S.all fun y => decide (y < x)) : (((List.range n).filter P).map fun (j : Nat) => PyData.int (j : Int)).map (snocD S) = (extS n S).map tO := by
  unfold extS
  rw [List.map_map, List.map_map, show P = fun x => S.all fun y => decide (y < x) from funext h]
  exact List.map_congr_left fun x _ => rfl
theorem wo_maxS {s : List Nat} {Q : D → Prop} (q : ∀ z : Int, -1 ≤ z → (z = -1 ∨ ∃ j ∈ s, z = (j : Int)) → (∀ x : Nat, decide (z < (x : Int)) = s.all fun y => decide (y < x)) → Q (.int z)) : WO (gMaxD (tO s) (.int (-1))) Q := by
  rw [show tO s = .tuple ((s.map fun (j : Nat) => (j : Int)).map .int) by unfold tO; rw [List.map_map]; rfl]
  refine wo_maxD (fun h => ?_) fun z hz hle => ?_
  · rw [List.map_eq_nil_iff] at h
    subst h
    exact q (-1) (by omega) (.inl rfl) fun x => by
      rw [List.all_nil]
      exact decide_eq_true (by omega)
  · obtain ⟨j, hj, rfl⟩ := List.mem_map.mp hz
    refine q _ (by omega) (.inr ⟨j, hj, rfl⟩) fun x => ?_
    rw [Bool.eq_iff_iff, decide_eq_true_iff, List.all_eq_true]
    constructor
    · intro h y hy
      have := hle (y : Int) (List.mem_map.mpr ⟨y, hy, rfl⟩)
      exact decide_eq_true (by omega)
    · intro h
      have := of_decide_eq_true (h j hj)
      omega
theorem filter_mem {n : Nat} {S : List Nat} (h : S.Pairwise (· < ·)) (h2 : ∀ x ∈ S, x < n) : (List.range n).filter (fun x => decide (x ∈ S)) = S := by
  refine List.Perm.eq_of_pairwise (le := fun a b => a < b) (fun a b _ _ x y => by omega) (List.Pairwise.filter _ List.pairwise_lt_range) h ((List.perm_ext_iff_of_nodup (List.Nodup.sublist List.filter_sublist List.nodup_range) (h.imp fun {a b} h => Nat.ne_of_lt h)).mpr fun x => ?_)
  rw [List.mem_filter, List.mem_range, decide_eq_true_iff]
  exact ⟨fun h => h.2, fun h => ⟨h2 x h, h⟩⟩
theorem wo_lastO {s : List Nat} {Q : D → Prop} (h : s ≠ []) (q : ∀ a : Nat, (s.Pairwise (· < ·) → a ∈ s ∧ ∀ y ∈ s, y ≤ a) → Q (.int (a : Int))) : WO (gIdx (tO s) (.int (-1))) Q := by
  have hq := q (s.getLast h) fun hp => ⟨List.getLast_mem h, fun y hy => by
    have e := List.dropLast_concat_getLast h
    rw [← e] at hy hp
    rcases List.mem_append.mp hy with hy | hy
    · exact Nat.le_of_lt ((List.pairwise_append.mp hp).2.2 y hy _ (by simp))
    · rw [List.mem_singleton] at hy
      omega⟩
  have hl : 0 < s.length := List.length_pos_iff.mpr h
  refine ⟨_, ?_, hq⟩
  unfold tO
  show atI (s.map fun (j : Nat) => PyData.int (j : Int)) (-1) = _
  unfold atI ixN
  rw [List.length_map, if_neg (by decide), if_pos (by omega), Option.bind_some, List.getElem?_map, show (-1 + (s.length : Int)).toNat = s.length - 1 by omega, List.getElem?_eq_getElem (by omega), List.getLast_eq_getElem]
  rfl
theorem range_getD (hs : List Hd) : (List.range hs.length).map (fun j => hs.getD j h0D) = hs := List.ext_getElem (by rw [List.length_map, List.length_range]) fun i h1 h2 => by
  rw [List.getElem_map, List.getElem_range, List.getD_eq_getElem?_getD, List.getElem?_eq_getElem h2]
  rfl
/-- hands told by their numbers are a part of the hands, in their order -/
theorem keptN_sub {hs : List Hd} : ∀ {S : List Nat}, S.Pairwise (· < ·) → (∀ x ∈ S, x < hs.length) → (keptN hs S).Sublist hs := fun {S} hr hS => by
  have h1 : S.Sublist (List.range hs.length) := by
    rw [← filter_mem hr hS]
    exact List.filter_sublist
  have h2 := h1.map fun j => hs.getD j h0D
  have e : (List.range hs.length).map (fun j => hs.getD j h0D) = hs := range_getD hs
  rw [e] at h2
  exact h2
/-- the fewest hands that a clock is told clear by; 0 where none do -/
def FewK (m : Int) (hs : List Hd) (bl mir : Bool) (k : Nat) : Prop := if k = 0 then ∀ l : List Hd, l.Sublist hs → l ≠ [] → ¬ Clr m l bl mir else (∃ l : List Hd, l.Sublist hs ∧ l.length = k ∧ Clr m l bl mir) ∧ ∀ l : List Hd, l.Sublist hs → l ≠ [] → l.length < k → ¬ Clr m l bl mir
theorem FewK.uniq {m : Int} {hs hs' : List Hd} {bl mir : Bool} {k k' : Nat} (h : FewK m hs bl mir k) (h' : FewK m hs' bl mir k') (h1 : ∀ l : List Hd, l.Sublist hs → ∃ l' : List Hd, l'.Sublist hs' ∧ l'.length = l.length ∧ (Clr m l bl mir → Clr m l' bl mir)) (h2 : ∀ l : List Hd, l.Sublist hs' → ∃ l' : List Hd, l'.Sublist hs ∧ l'.length = l.length ∧ (Clr m l bl mir → Clr m l' bl mir)) : k = k' := by
  have key : ∀ {hs hs' : List Hd} {k k' : Nat}, FewK m hs bl mir k → FewK m hs' bl mir k' → (∀ l : List Hd, l.Sublist hs → ∃ l' : List Hd, l'.Sublist hs' ∧ l'.length = l.length ∧ (Clr m l bl mir → Clr m l' bl mir)) → k ≠ 0 → k' ≠ 0 ∧ k' ≤ k := by
    intro hs hs' k k' h h' h1 hk
    unfold FewK at h h'
    rw [if_neg hk] at h
    obtain ⟨⟨l, l1, l2, l3⟩, _⟩ := h
    obtain ⟨l', a1, a2, a3⟩ := h1 l l1
    have hne : l' ≠ [] := fun e => by
      subst e
      rw [List.length_nil] at a2
      omega
    by_cases hk' : k' = 0
    · rw [if_pos hk'] at h'
      exact absurd (a3 l3) (h' l' a1 hne)
    · rw [if_neg hk'] at h'
      refine ⟨hk', Nat.le_of_not_lt fun hlt => h'.2 l' a1 hne (by omega) (a3 l3)⟩
  by_cases hk : k = 0
  · by_cases hk' : k' = 0
    · omega
    · exact absurd hk (key h' h h2 hk').1
  · have a := key h h' h1 hk
    have b := key h' h h2 a.1
    omega
theorem FewK.not {m : Int} {hs : List Hd} {bl mir : Bool} {k : Nat} (h : FewK m hs bl mir k) {T : List Nat} (h1 : T ≠ []) (h2 : k = 0 ∨ T.length < k) (t2 : T.Pairwise (· < ·)) (t3 : ∀ x ∈ T, x < hs.length) : ¬ Clr m (keptN hs T) bl mir := by
  have hne : keptN hs T ≠ [] := fun e => h1 (List.map_eq_nil_iff.mp e)
  unfold FewK at h
  split at h
  · exact h _ (keptN_sub t2 t3) hne
  · exact h.2 _ (keptN_sub t2 t3) hne (by rw [keptN_len]; omega)
end M


namespace M
open PySem PySem.Spec PyProof.Rows L2
theorem hD_eq (g s : Int) (x : Str) : hD (g, s, x) = .tuple [.int g, .int s, .str x] := rfl
end M

namespace M
open PySem PySem.Spec PyProof.Rows L2
theorem any_strs (x : Str) : ∀ xs : List Str, ((xs.map PyData.str).any fun e => PyData.eqv e (.str x)) = decide (x ∈ xs)
  | [] => by simp
  | a :: xs => by
    rw [List.map_cons, List.any_cons, any_strs x xs, eqv_str, ← Bool.decide_or]
    refine decide_eq_decide.mpr ?_
    rw [List.mem_cons]
    constructor
    · rintro (h | h)
      · exact .inl h.symm
      · exact .inr h
    · rintro (h | h)
      · exact .inl h.symm
      · exact .inr h
theorem wo_niS {x : Str} {xs : List Str} {Q : D → Prop} (hx : isLk x) (hxs : ∀ y ∈ xs, isLk y) (q : Q (.bool (!decide (x ∈ xs)))) : WO (gNi (.str x) (.list (xs.map .str))) Q := by
  have h1 : shp (.str x) = true := (lay_lk (n := 0) hx).shp (by omega)
  have h2 : shp (.list (xs.map .str)) = true := (lay_strs (n := 0) hxs).shp (by omega)
  have h3 : isIn (.str x) (.list (xs.map .str)) = some (decide (x ∈ xs)) := by
    unfold isIn
    dsimp only
    rw [if_pos (by rw [h1, h2]; rfl), any_strs]
  exact ⟨_, by unfold gNi; rw [h3]; rfl, q⟩
end M

namespace M
open PySem PySem.Spec PyProof.Rows L2
def notInD (ls : List Str) : D → Bool
  | .str x => !decide (x ∈ ls)
  | _ => false
def lettersS : List Str := letters.map fun c => ⟨#[c]⟩
theorem lettersS_nd : lettersS.Nodup := by decide +kernel
theorem fresh_letter {ls : List Str} (h : ls.length ≤ 25) : ∃ (x : Str) (ds : List D), lettersD.filter (notInD ls) = .str x :: ds ∧ isLk x ∧ x ∉ ls := by
  cases hF : lettersD.filter (notInD ls) with
  | nil =>
    exfalso
    have hs : ∀ x ∈ lettersS, x ∈ ls := fun x hx => by
      unfold lettersS at hx
      obtain ⟨c, hc, rfl⟩ := List.mem_map.mp hx
      have := List.filter_eq_nil_iff.mp hF (.str ⟨#[c]⟩) (List.mem_map.mpr ⟨c, hc, rfl⟩)
      unfold notInD at this
      simpa using this
    have hl : lettersS.length = 26 := rfl
    have := (perm_of_sub lettersS_nd hs (by omega)).length_eq
    omega
  | cons d ds =>
    have hd : d ∈ lettersD.filter (notInD ls) := by rw [hF]; exact List.mem_cons_self
    obtain ⟨h1, h2⟩ := List.mem_filter.mp hd
    obtain ⟨x, rfl, hx⟩ := lettersD_mem h1
    exact ⟨x, ds, rfl, hx, by unfold notInD at h2; simpa using h2⟩
/-- the same hands, those of some numbers with letters that no other one has -/
structure PaintOf (hs hs' : List Hd) (S : List Nat) : Prop where
  len : hs'.length = hs.length
  gear : ∀ i (h : i < hs.length) (h' : i < hs'.length), hs'[i].1 = hs[i].1
  start : ∀ i (h : i < hs.length) (h' : i < hs'.length), hs'[i].2.1 = hs[i].2.1
  old : ∀ i (h : i < hs.length) (h' : i < hs'.length), i ∉ S → hs'[i].2.2 = hs[i].2.2
  new : ∀ i (h : i < hs'.length), i ∈ S → ∀ j (h' : j < hs'.length), j ≠ i → hs'[j].2.2 ≠ hs'[i].2.2
  lk : ∀ h ∈ hs', isLk h.2.2
theorem PaintOf.refl {m : Int} {hs : List Hd} (hk : HandsOk m hs) : PaintOf hs hs [] := ⟨rfl, fun _ _ _ => rfl, fun _ _ _ => rfl, fun _ _ _ _ => rfl, fun _ _ h => (by cases h), fun h hh => (hk h hh).2.2.2.2⟩
theorem PaintOf.ok {m : Int} {hs hs' : List Hd} {S : List Nat} (P : PaintOf hs hs' S) (hk : HandsOk m hs) : HandsOk m hs' := fun h hh => by
  obtain ⟨i, hi, rfl⟩ := List.mem_iff_getElem.mp hh
  have hi2 : i < hs.length := by have := P.len; omega
  obtain ⟨a, b, c, d, _⟩ := hk hs[i] (List.getElem_mem _)
  rw [← P.gear i hi2 hi] at a b
  rw [← P.start i hi2 hi] at c d
  exact ⟨a, b, c, d, P.lk _ hh⟩
theorem PaintOf.step {hs hs' : List Hd} {S : List Nat} {i : Nat} {x : Str} (P : PaintOf hs hs' S) (hi : i < hs.length) (hiS : i ∉ S) (hx : isLk x) (hn : x ∉ looksOf hs') : PaintOf hs (hs'.set i (hs[i].1, hs[i].2.1, x)) (S ++ [i]) := by
  have hl := P.len
  have hno : ∀ j (h : j < hs'.length), hs'[j].2.2 ≠ x := fun j h e => hn (by rw [← e]; exact List.mem_map.mpr ⟨hs'[j], List.getElem_mem _, rfl⟩)
  refine ⟨by rw [List.length_set]; exact hl, fun j h h' => ?_, fun j h h' => ?_, fun j h h' hj => ?_, fun j h hj k h' hk => ?_, fun h hh => ?_⟩
  · by_cases e : i = j
    · subst e; rw [List.getElem_set_self]
    · rw [List.getElem_set_ne e]; exact P.gear j h (by omega)
  · by_cases e : i = j
    · subst e; rw [List.getElem_set_self]
    · rw [List.getElem_set_ne e]; exact P.start j h (by omega)
  · have hne : i ≠ j := fun e => hj (by rw [e]; simp)
    rw [List.getElem_set_ne hne]
    exact P.old j h (by omega) fun hh => hj (List.mem_append_left _ hh)
  · rw [List.length_set] at h h'
    by_cases ej : i = j
    · subst ej
      rw [List.getElem_set_self, List.getElem_set_ne (Ne.symm hk)]
      exact hno k h'
    · have hjS : j ∈ S := by
        rcases List.mem_append.mp hj with hj | hj
        · exact hj
        · rw [List.mem_singleton] at hj; exact absurd hj.symm ej
      by_cases ek : i = k
      · subst ek
        rw [List.getElem_set_self, List.getElem_set_ne ej]
        exact fun e => hno j h e.symm
      · rw [List.getElem_set_ne ek, List.getElem_set_ne ej]
        exact P.new j h hjS k h' hk
  · rcases List.mem_or_eq_of_mem_set hh with hh | rfl
    · exact P.lk h hh
    · exact hx
/-- looks that are taken together elsewhere leave what shows one picture -/
theorem show_coarser {m : Int} {hs1 hs2 : List Hd} {bl mir : Bool} {t u : Int} (hl : hs1.length = hs2.length) (hg : ∀ i (h : i < hs1.length) (h' : i < hs2.length), hs1[i].1 = hs2[i].1 ∧ hs1[i].2.1 = hs2[i].2.1)
    (he : ∀ i j (h : i < hs1.length) (h' : j < hs1.length), hs1[i].2.2 = hs1[j].2.2 → (hs2[i]'(by omega)).2.2 = (hs2[j]'(by omega)).2.2) (h : Show m hs1 bl mir t u) : Show m hs2 bl mir t u := by
  classical
  obtain ⟨sg, r, a, b, c⟩ := h
  refine ⟨sg, r, a, b, ?_⟩
  let f : Str → Str := fun x => if h : ∃ i : Nat, ∃ hi : i < hs1.length, hs1[i].2.2 = x then (hs2[h.choose]'(by have := h.choose_spec.choose; omega)).2.2 else x
  have hf : ∀ i (h : i < hs1.length), f hs1[i].2.2 = (hs2[i]'(by omega)).2.2 := fun i hi => by
    have hex : ∃ k : Nat, ∃ hk : k < hs1.length, hs1[k].2.2 = hs1[i].2.2 := ⟨i, hi, rfl⟩
    show (if h : ∃ k : Nat, ∃ hk : k < hs1.length, hs1[k].2.2 = hs1[i].2.2 then _ else _) = _
    rw [dif_pos hex]
    exact he _ i hex.choose_spec.choose hi hex.choose_spec.choose_spec
  have key : ∀ F : Hd → Int, (∀ g s y z, F (g, s, y) = F (g, s, z)) → (hs1.map fun h => (h.2.2, F h)).map (fun p => (f p.1, p.2)) = hs2.map fun h => (h.2.2, F h) := fun F hF => by
    rw [List.map_map]
    refine List.ext_getElem? fun i => ?_
    rw [List.getElem?_map, List.getElem?_map]
    by_cases hi : i < hs1.length
    · rw [List.getElem?_eq_getElem hi, List.getElem?_eq_getElem (by omega)]
      show some (f hs1[i].2.2, F hs1[i]) = some ((hs2[i]'(by omega)).2.2, F (hs2[i]'(by omega)))
      rw [hf i hi]
      have hgi := hg i hi (by omega)
      have e : F hs1[i] = F (hs2[i]'(by omega)) := by
        have e1 : hs1[i] = (hs1[i].1, hs1[i].2.1, hs1[i].2.2) := rfl
        rw [e1, hgi.1, hgi.2, hF _ _ _ (hs2[i]'(by omega)).2.2]
      rw [e]
    · rw [List.getElem?_eq_none (by omega), List.getElem?_eq_none (by omega)]
      rfl
  have h2 := c.map fun p : Pc => (f p.1, p.2)
  rw [movL_picL] at h2 ⊢
  have e1 := key (fun h => (sg * (markI h t % m) + r) % m) fun _ _ _ _ => rfl
  have e2 := key (fun h => markI h u % m) fun _ _ _ _ => rfl
  unfold picL at h2 ⊢
  have e1' : (hs1.map (pcB m sg r t)).map (fun p : Pc => (f p.1, p.2)) = hs2.map (pcB m sg r t) := e1
  have e2' : (hs1.map fun h => (h.2.2, markI h u % m)).map (fun p : Pc => (f p.1, p.2)) = hs2.map fun h => (h.2.2, markI h u % m) := e2
  rw [e1', e2'] at h2
  exact h2
theorem PaintOf.coarser {m : Int} {hs h1 h2 : List Hd} {S T : List Nat} {bl mir : Bool} {t u : Int} (P : PaintOf hs h1 S) (R : PaintOf hs h2 T) (hST : ∀ i ∈ T, i ∈ S) (h : Show m h1 bl mir t u) : Show m h2 bl mir t u := by
  have l1 := P.len
  have l2 := R.len
  refine show_coarser (by omega) (fun i a b => ⟨by rw [P.gear i (by omega) a, R.gear i (by omega) b], by rw [P.start i (by omega) a, R.start i (by omega) b]⟩) (fun i j a b e => ?_) h
  by_cases hij : i = j
  · subst hij; rfl
  · have hi : i ∉ S := fun hi => P.new i a hi j b (fun e => hij e.symm) e.symm
    have hj : j ∉ S := fun hj => P.new j b hj i a hij e
    rw [R.old i (by omega) (by omega) fun h => hi (hST i h), R.old j (by omega) (by omega) fun h => hj (hST j h), ← P.old i (by omega) a hi, ← P.old j (by omega) b hj]
    exact e
theorem PaintOf.nodup {hs h1 : List Hd} (P : PaintOf hs h1 (List.range hs.length)) : (looksOf h1).Nodup := by
  have l1 := P.len
  refine List.pairwise_iff_getElem.mpr fun i j hi hj hij => ?_
  rw [List.length_map] at hi hj
  rw [List.getElem_map, List.getElem_map]
  exact fun e => P.new i hi (List.mem_range.mpr (by omega)) j hj (by omega) e.symm
end M

namespace M
open PySem PySem.Spec PyProof.Rows L2
/-! ### hands painted, one by one -/
def frS (ls : List Str) : Str := match lettersD.filter (notInD ls) with
  | .str x :: _ => x
  | _ => ⟨#[97]⟩
theorem frS_ok {ls : List Str} (h : ls.length ≤ 25) : ∃ ds : List D, lettersD.filter (notInD ls) = .str (frS ls) :: ds ∧ isLk (frS ls) ∧ frS ls ∉ ls := by
  obtain ⟨x, ds, hF, hx, hn⟩ := fresh_letter h
  have e : frS ls = x := by unfold frS; rw [hF]
  rw [e]
  exact ⟨ds, hF, hx, hn⟩
def pt1 (hs : List Hd) (st : List Hd × List Str) (i : Nat) : List Hd × List Str := (st.1.set i ((hs.getD i h0D).1, (hs.getD i h0D).2.1, frS st.2), st.2 ++ [frS st.2])
def ptN (hs : List Hd) (S : List Nat) : List Hd × List Str := S.foldl (pt1 hs) (hs, looksOf hs)
def pN (hs : List Hd) (S : List Nat) : List Hd := (ptN hs S).1
theorem ptN_succ {hs : List Hd} {S : List Nat} {k : Nat} (hk : k < S.length) : ptN hs (S.take (k + 1)) = pt1 hs (ptN hs (S.take k)) S[k] := by
  unfold ptN
  rw [List.take_succ_eq_append_getElem hk, List.foldl_append]
  rfl
structure PtOk (hs : List Hd) (S : List Nat) (st : List Hd × List Str) : Prop where
  p : PaintOf hs st.1 S
  ts : st.2.length = hs.length + S.length
  sub : ∀ x ∈ looksOf st.1, x ∈ st.2
  lk : ∀ x ∈ st.2, isLk x
theorem PtOk.step {hs : List Hd} {S : List Nat} {st : List Hd × List Str} {i : Nat} (h : PtOk hs S st) (hi : i < hs.length) (hiS : i ∉ S) (hl : hs.length + S.length ≤ 25) : PtOk hs (S ++ [i]) (pt1 hs st i) := by
  obtain ⟨_, _, hx, hn⟩ := frS_ok (ls := st.2) (by rw [h.ts]; exact hl)
  have e : hs.getD i h0D = hs[i] := by
    rw [List.getD_eq_getElem?_getD, List.getElem?_eq_getElem hi]
    rfl
  unfold pt1
  rw [e]
  refine ⟨h.p.step hi hiS hx fun g => hn (h.sub _ g), by rw [List.length_append, List.length_append, h.ts]; simp only [List.length_singleton]; omega, fun y hy => ?_, fun y hy => ?_⟩
  · obtain ⟨g, hg, rfl⟩ := List.mem_map.mp hy
    rcases List.mem_or_eq_of_mem_set hg with hg | rfl
    · exact List.mem_append_left _ (h.sub _ (List.mem_map.mpr ⟨g, hg, rfl⟩))
    · simp
  · rcases List.mem_append.mp hy with hy | hy
    · exact h.lk y hy
    · rw [List.mem_singleton] at hy
      subst hy
      exact hx
theorem ptN_take {m : Int} {hs : List Hd} (hk : HandsOk m hs) (hn : hs.length ≤ 5) {S : List Nat} (hr : S.Pairwise (· < ·)) (hS : ∀ i ∈ S, i < hs.length) : ∀ k, k ≤ S.length → PtOk hs (S.take k) (ptN hs (S.take k)) := by
  have hSl := rise_len 0 hr fun x hx => ⟨Nat.zero_le _, hS x hx⟩
  intro k
  induction k with
  | zero => exact fun _ => ⟨PaintOf.refl hk, by show (looksOf hs).length = _; rw [List.length_map]; rfl, fun x hx => hx, fun x hx => by
      obtain ⟨h, hh, rfl⟩ := List.mem_map.mp hx
      exact (hk h hh).2.2.2.2⟩
  | succ k ih =>
    intro h
    have hlt : k < S.length := by omega
    rw [ptN_succ hlt, List.take_succ_eq_append_getElem hlt]
    refine (ih (by omega)).step (hS _ (List.getElem_mem _)) (fun hm => ?_) (by rw [List.length_take]; omega)
    obtain ⟨j, hj, e⟩ := List.mem_iff_getElem.mp hm
    rw [List.length_take] at hj
    rw [List.getElem_take] at e
    have := List.pairwise_iff_getElem.mp hr j k (by omega) hlt (by omega)
    omega
theorem pN_of {m : Int} {hs : List Hd} (hk : HandsOk m hs) (hn : hs.length ≤ 5) {S : List Nat} (hr : S.Pairwise (· < ·)) (hS : ∀ i ∈ S, i < hs.length) : PaintOf hs (pN hs S) S := by
  have := (ptN_take hk hn hr hS S.length (Nat.le_refl _)).p
  rwa [List.take_length] at this
theorem PaintOf.trans {hs h1 h2 : List Hd} {S T : List Nat} (P : PaintOf hs h1 S) (R : PaintOf h1 h2 T) : PaintOf hs h2 (S ++ T) := by
  have l1 := P.len
  have l2 := R.len
  refine ⟨by omega, fun i a b => by rw [R.gear i (by omega) b, P.gear i a (by omega)], fun i a b => by rw [R.start i (by omega) b, P.start i a (by omega)], fun i a b h => ?_, fun i a h j b hne => ?_, R.lk⟩
  · rw [R.old i (by omega) b fun g => h (List.mem_append_right _ g), P.old i a (by omega) fun g => h (List.mem_append_left _ g)]
  · by_cases hiT : i ∈ T
    · exact R.new i a hiT j b hne
    · have hiS := (List.mem_append.mp h).resolve_right hiT
      by_cases hjT : j ∈ T
      · exact fun e => R.new j b hjT i a (Ne.symm hne) e.symm
      · rw [R.old j (by omega) b hjT, R.old i (by omega) a hiT]
        exact P.new i (by omega) hiS j (by omega) hne
theorem PaintOf.congr {hs h1 : List Hd} {S T : List Nat} (P : PaintOf hs h1 S) (h : ∀ i, i ∈ S ↔ i ∈ T) : PaintOf hs h1 T :=
  ⟨P.len, P.gear, P.start, fun i a b g => P.old i a b fun k => g ((h i).mp k), fun i a g => P.new i a ((h i).mpr g), P.lk⟩
/-- with more hands painted a clear clock stays clear -/
theorem PaintOf.clr {m : Int} {hs h1 h2 : List Hd} {S T : List Nat} {bl mir : Bool} (P : PaintOf hs h1 S) (R : PaintOf hs h2 T) (hST : ∀ i ∈ T, i ∈ S) (C : Clr m h2 bl mir) : Clr m h1 bl mir := fun t u h => C t u (P.coarser R hST h)
/-- a set of hands to be painted -/
structure SetOk (n : Nat) (S : List Nat) : Prop where
  r : S.Pairwise (· < ·)
  b : ∀ x ∈ S, x < n
theorem SetOk.len {n : Nat} {S : List Nat} (h : SetOk n S) : S.length ≤ n := by
  have := rise_len 0 h.r fun x hx => ⟨Nat.zero_le _, h.b x hx⟩
  omega
theorem SetOk.range (n : Nat) : SetOk n (List.range n) := ⟨List.pairwise_lt_range, fun x hx => List.mem_range.mp hx⟩
theorem SetOk.of {n k : Nat} {S : List Nat} (h : S ∈ setsN n k) : SetOk n S ∧ S.length = k := by
  obtain ⟨h1, h2, h3⟩ := setsN_mem.mp h
  exact ⟨⟨h2, h3⟩, h1⟩
theorem SetOk.mem {n : Nat} {S : List Nat} (h : SetOk n S) : S ∈ setsN n S.length := setsN_mem.mpr ⟨rfl, h.r, h.b⟩
theorem SetOk.full {n : Nat} {S : List Nat} (h : SetOk n S) (e : S.length = n) : S = List.range n := by
  have h1 : S.Sublist (List.range n) := by
    rw [← filter_mem h.r h.b]
    exact List.filter_sublist
  exact h1.eq_of_length (by rw [e, List.length_range])
/-- the fewest hands painted -/
def PewOf (m : Int) (hs : List Hd) (bl mir : Bool) (d : D) : Prop :=
  (∃ (S : List Nat) (ds : List D), d = .tuple [.str "paint", tO S, .list ds] ∧ SetOk hs.length S ∧ Clr m (pN hs S) bl mir ∧ (∀ T, SetOk hs.length T → T.length < S.length → ¬ Clr m (pN hs T) bl mir) ∧ (S = [] → ds = []) ∧ (S ≠ [] → DbtsOk m bl mir ((setsN hs.length (S.length - 1)).map (pN hs)) ds)) ∨
  (∃ e : D, d = .tuple [.str "never", e] ∧ DbtOk m (pN hs (List.range hs.length)) bl mir e ∧ ∀ T, SetOk hs.length T → ¬ Clr m (pN hs T) bl mir)
/-- its size, none where no painting helps -/
def PewK (m : Int) (hs : List Hd) (bl mir : Bool) : Option Nat → Prop
  | some k => (∃ S, SetOk hs.length S ∧ S.length = k ∧ Clr m (pN hs S) bl mir) ∧ ∀ T, SetOk hs.length T → T.length < k → ¬ Clr m (pN hs T) bl mir
  | none => ∀ T, SetOk hs.length T → ¬ Clr m (pN hs T) bl mir
theorem PewOf.pewk {m : Int} {hs : List Hd} {bl mir : Bool} {d : D} (h : PewOf m hs bl mir d) : (∃ (S : List Nat) (ds : List D), d = .tuple [.str "paint", tO S, .list ds] ∧ PewK m hs bl mir (some S.length)) ∨ (∃ e : D, d = .tuple [.str "never", e] ∧ PewK m hs bl mir none) := by
  rcases h with ⟨S, ds, rfl, hS, hC, hN, _⟩ | ⟨e, rfl, _, hN⟩
  · exact .inl ⟨S, ds, rfl, ⟨S, hS, rfl, hC⟩, hN⟩
  · exact .inr ⟨e, rfl, hN⟩
theorem PewK.uniq {m : Int} {hs hs' : List Hd} {bl mir : Bool} {k k' : Option Nat} (hl : hs'.length = hs.length) (hC : ∀ T, SetOk hs.length T → (Clr m (pN hs T) bl mir ↔ Clr m (pN hs' T) bl mir)) (h : PewK m hs bl mir k) (h' : PewK m hs' bl mir k') : k = k' := by
  cases k with
  | none =>
    cases k' with
    | none => rfl
    | some k' =>
      obtain ⟨⟨S, h1, _, h3⟩, _⟩ := h'
      rw [hl] at h1
      exact absurd ((hC S h1).mpr h3) (h S h1)
  | some k =>
    obtain ⟨⟨S, h1, h2, h3⟩, h4⟩ := h
    cases k' with
    | none => exact absurd ((hC S h1).mp h3) (h' S (by rw [hl]; exact h1))
    | some k' =>
      obtain ⟨⟨S', g1, g2, g3⟩, g4⟩ := h'
      have a : ¬ k < k' := fun hlt => g4 S (by rw [hl]; exact h1) (by omega) ((hC S h1).mp h3)
      rw [hl] at g1
      have b : ¬ k' < k := fun hlt => h4 S' g1 (by omega) ((hC S' g1).mpr g3)
      congr 1
      omega
theorem both_painted {m : Int} {hs h1 h2 : List Hd} {bl mir : Bool} {S S' T : List Nat} (hk : HandsOk m hs) (hn : hs.length ≤ 5) (P : PaintOf hs h1 S) (R : PaintOf hs h2 S') (hSS : ∀ i, i ∈ S ↔ i ∈ S') (hT : SetOk hs.length T) : Clr m (pN h1 T) bl mir ↔ Clr m (pN h2 T) bl mir := by
  have a1 := P.trans (pN_of (P.ok hk) (by rw [P.len]; exact hn) hT.r fun x hx => by rw [P.len]; exact hT.b x hx)
  have a2 := R.trans (pN_of (R.ok hk) (by rw [R.len]; exact hn) hT.r fun x hx => by rw [R.len]; exact hT.b x hx)
  have e : ∀ i, i ∈ S ++ T ↔ i ∈ S' ++ T := fun i => by rw [List.mem_append, List.mem_append, hSS i]
  exact ⟨fun C => a2.clr a1 (fun i hi => (e i).mp hi) C, fun C => a1.clr a2 (fun i hi => (e i).mpr hi) C⟩
theorem irange_cons {a : Int} {n : Nat} {d : D} {rs : List D} (h : d :: rs = irange a n) : d = .int a ∧ rs = irange (a + 1) (n - 1) := by
  cases n with
  | zero => cases h
  | succ n =>
    unfold irange at h ⊢
    rw [List.range_succ_eq_map, List.map_cons, List.map_map] at h
    injection h with h1 h2
    refine ⟨by rw [h1]; simp, ?_⟩
    rw [h2]
    exact List.map_congr_left fun k _ => by
      show PyData.int (a + ((k + 1 : Nat) : Int)) = PyData.int (a + 1 + (k : Int))
      congr 1
      omega
end M


namespace M
open PySem PySem.Spec PyProof.Rows L2
def bolNum (f : Int → Int) : D → D
  | .int a => .int (f a)
  | d => d
end M
namespace Lw
open PySem PySem.Spec PyProof.Rows L2 M
local macro_rules | `(tactic| walk_at "sd") => `(tactic| (first | (with_reducible assumption) | omega | (simp; done) | (simp; omega) | decide))
local macro_rules | `(tactic| walk_at "v1") => `(tactic| (first | ((with_reducible show WE _ _ _); first | with_reducible refine we_callN ?_ | with_reducible refine we_c ?_ | with_reducible refine we_un ?_ | with_reducible refine we_bin ?_ | with_reducible refine we_chain ?_ | with_reducible refine we_and ?_ | with_reducible refine we_or ?_ | with_reducible refine we_not ?_ | with_reducible refine we_if ?_ | with_reducible refine we_fz ?_ | with_reducible refine we_tup ?_ | with_reducible refine we_sl ?_ | with_reducible refine we_tupRg ?_ | with_reducible refine we_bor ?_ | with_reducible refine we_call ?_ | with_reducible refine we_din ?_ | with_reducible refine we_borL ?_ | ((with_reducible apply we_v); (· rfl)) | ((with_reducible show WE (eO _) _ _); first | ((with_reducible apply we_oV); (· rfl)) | ((with_reducible apply we_oW); (· rfl)) | ((with_reducible apply we_oR); (· rfl))) | ((with_reducible show WE (eBinV _ _ _) _ _); first | ((with_reducible apply we_bV); (· rfl)) | ((with_reducible apply we_bVr); (· rfl)) | ((with_reducible apply we_bVv); (· rfl))) | ((with_reducible apply we_mut); (· rfl)) | ((with_reducible apply we_mut0); (· rfl)) | ((with_reducible apply we_dget2); (· rfl)) | ((with_reducible apply we_didx); (· rfl))) | ((with_reducible show WO _ _); first | ((with_reducible show WO (gIsO _ _) _); first | with_reducible refine wo_isON ?_ | ((with_reducible refine wo_isO (b := true) ?_ ?_); (· rfl)) | ((with_reducible refine wo_isO (b := false) ?_ ?_); (· rfl))) | with_reducible refine wo_attr ?_ | ((with_reducible show WO (valsA _) _); first | with_reducible refine vals_nil ?_ | with_reducible refine vals_v ?_) | with_reducible refine wo_isB ?_ | with_reducible refine wo_ntB ?_ | ((with_reducible show WO (backAr _ _ _) _); first | with_reducible refine back_nil ?_ | with_reducible refine back_v ?_ | with_reducible refine back_o ?_ | ((with_reducible apply back_r); (· rfl))) | ((with_reducible show WO (resArs _ _) _); first | with_reducible refine res_nil ?_ | with_reducible refine res_v ?_ | ((with_reducible apply res_r); (· rfl)) | ((with_reducible apply res_oO); (· rfl)) | ((with_reducible apply res_oR); (· rfl)) | ((with_reducible apply res_oV); (· rfl))) | ((with_reducible show WO (gAdd _ _) _); first | with_reducible refine wo_add ?_ | ((with_reducible refine wo_addL ?_ ?_); (· first | rfl | (apply fits_of; first | omega | (simp; omega)))) | ((with_reducible refine wo_addT ?_ ?_); (· first | rfl | (apply fits_of; first | omega | (simp; omega))))) | with_reducible refine wo_sub ?_ | with_reducible refine wo_neg ?_ | with_reducible refine wo_lt ?_ | with_reducible refine wo_le ?_ | with_reducible refine wo_gt ?_ | with_reducible refine wo_ge ?_ | ((with_reducible show WO (gEq _ _) _); first | with_reducible refine wo_eq ?_ | with_reducible refine wo_eqB ?_ | ((with_reducible refine wo_eqT ?_ ?_); (· decide +kernel)) | ((with_reducible refine wo_eqF ?_ ?_); (· decide +kernel))) | ((with_reducible show WO (gNe _ _) _); first | with_reducible refine wo_ne ?_ | with_reducible refine wo_neB ?_ | ((with_reducible refine wo_neT ?_ ?_); (· decide +kernel)) | ((with_reducible refine wo_neF ?_ ?_); (· decide +kernel))) | with_reducible refine wo_isN ?_ | with_reducible refine wo_ntN ?_ | ((with_reducible show WO (gLen _) _); first | with_reducible refine wo_lenL ?_ | with_reducible refine wo_lenT ?_) | with_reducible refine wo_abs ?_ | ((with_reducible show WO (gInt _) _); first | with_reducible refine wo_intB ?_ | with_reducible refine wo_intI ?_) | ((with_reducible show WO (gList _) _); first | with_reducible refine wo_listL ?_ | with_reducible refine wo_listT ?_) | ((with_reducible show WO (gTuple _) _); first | with_reducible refine wo_tupL ?_ | with_reducible refine wo_tupT ?_) | with_reducible refine wo_max ?_ | with_reducible refine wo_min ?_ | ((with_reducible show WO (gIsi _ _) _); first | with_reducible refine wo_isiI ?_ | with_reducible refine wo_isiB ?_ | ((with_reducible apply wo_isiE); (· rfl))) | ((with_reducible show WO (cutOf _ _ _) _); first | with_reducible refine wo_cutL ?_ | with_reducible refine wo_cutT ?_) | ((with_reducible show WO (gPow _ _) _); first | with_reducible refine wo_p10_60 ?_ | with_reducible refine wo_p10_18 ?_ | with_reducible refine wo_p10_30 ?_ | with_reducible refine wo_p2_24 ?_ | with_reducible refine wo_p10_8 ?_ | with_reducible refine wo_p10_19 ?_ | with_reducible refine wo_p10_55 ?_ | with_reducible refine wo_p10_59 ?_ | with_reducible refine wo_p3_30 ?_ | with_reducible refine wo_p2_40 ?_ | with_reducible refine wo_p10_54 ?_ | with_reducible refine wo_p3_13 ?_ | with_reducible refine wo_p2_20 ?_ | with_reducible refine wo_p10_57 ?_ | with_reducible refine wo_p10_40 ?_ | with_reducible refine wo_p10_61 ?_ | with_reducible refine wo_p10_50 ?_) | ((with_reducible apply wo_idxE); (· rfl)) | ((with_reducible apply wo_allE); (· rfl)) | ((with_reducible apply wo_anyE); (· rfl)) | ((with_reducible show WO (ixN _ _) _); first | ((with_reducible apply wo_ixE); (· rfl)) | ((with_reducible refine wo_ix ?_ ?_ ?_); (· walk_at "sd"); (· walk_at "sd"))) | ((with_reducible refine wo_mod ?_ ?_); (· walk_at "sd")) | ((with_reducible refine wo_div ?_ ?_ ?_); (· walk_at "sd"); (· walk_at "sd")) | ((with_reducible refine wo_mul ?_ ?_); (· first | exact mul_ok1 (by walk_at "sd") | exact mul_ok2 (by walk_at "sd") | exact mul_ok3 (by omega) (by omega))) | ((with_reducible refine wo_app ?_ ?_); (· first | rfl | (apply fits_of; first | omega | (simp; omega)))) | ((with_reducible refine wo_ext ?_ ?_); (· first | rfl | (apply fits_of; first | omega | (simp; omega))))) | ((with_reducible show WS _ _ _); first | with_reducible refine ws_try ?_ | with_reducible refine ws_retT ?_ | with_reducible refine ws_seq ?_ | with_reducible refine ws_expr ?_ | with_reducible refine ws_ret ?_ | with_reducible refine ws_retL ?_ | with_reducible refine ws_if ?_ | with_reducible refine ws_set ?_ | with_reducible refine ws_setO ?_ | with_reducible refine ws_asg ?_ | with_reducible refine ws_par ?_ | with_reducible refine ws_nil ?_ | with_reducible refine ws_retN ?_ | with_reducible refine ws_dput ?_ | with_reducible refine ws_dnew ?_ | ((with_reducible show WS (sFrz _ _) _ _); first | ((with_reducible apply ws_frz); (· rfl)) | ((with_reducible apply ws_frzV); (· rfl))) | ((with_reducible apply ws_retO); (· rfl)) | ((with_reducible apply ws_putI); (· rfl))) | ((with_reducible apply nrm_); (· (try simp only [wipeE, backE, List.set_cons_zero, List.set_cons_succ, List.getElem?_cons_zero, List.getElem?_cons_succ, List.cons_append, List.nil_append, List.replicate_succ, List.replicate_zero, Nat.reduceSub, unowns_nil, unowns_cons, unown_own, unown_val, unown_no, unown_ro, unown_dct]); rfl)) | ((with_reducible show IfB _ _ _); first | with_reducible refine ifb_not ?_ | with_reducible refine ifb_t ?_ | with_reducible refine ifb_f ?_ | ((with_reducible refine ifb_decT ?_ ?_); (· first | (with_reducible assumption) | omega | (simp only [List.length_cons, List.length_nil]; omega))) | ((with_reducible refine ifb_decF ?_ ?_); (· first | (with_reducible assumption) | omega | (simp only [List.length_cons, List.length_nil]; omega))) | with_reducible refine ifb_dec (fun _ => ?_) (fun _ => ?_) | ((with_reducible apply ifb_eT); (· rfl)) | ((with_reducible apply ifb_eF); (· rfl))) | ((with_reducible show WB _ _ _); first | with_reducible refine wb_bor ?_ | with_reducible refine wb_v ?_ | with_reducible refine wb_and ?_ | with_reducible refine wb_or ?_ | with_reducible refine wb_not ?_ | with_reducible refine wb_yes ?_) | with_reducible refine isb ?_ | ((with_reducible show WL _ _ _); first | with_reducible refine wl_nil ?_ | with_reducible refine wl_cons ?_ | with_reducible refine wl_lst ?_ | with_reducible refine wl_un ?_ | with_reducible refine wl_it ?_ | with_reducible refine wl_rng1 ?_ | with_reducible refine wl_rng2 ?_ | with_reducible refine wl_enum ?_ | with_reducible refine wl_enumA ?_ | with_reducible refine wl_addE ?_ | with_reducible refine wl_rg1 ?_ | with_reducible refine wl_bor ?_ | with_reducible refine wl_call ?_ | ((with_reducible apply wl_addO); (· rfl)) | ((with_reducible show WL (lSlV _ _ _) _ _); first | ((with_reducible apply wl_slO); (· rfl)) | ((with_reducible apply wl_slR); (· rfl)))) | ((with_reducible show WA _ _ _); first | with_reducible refine wa_nil ?_ | with_reducible refine wa_v ?_ | ((with_reducible apply wa_r); (· rfl)) | ((with_reducible show WA (aO _ _) _ _); first | ((with_reducible apply wa_oR); (· rfl)) | ((with_reducible apply wa_oO); (· rfl)) | ((with_reducible apply wa_oV); (· rfl)))) | ((with_reducible show IsS _ _); first | with_reducible refine iss_l ?_ | with_reducible refine iss_t ?_) | ((with_reducible refine fit_ ?_ ?_); (· first | rfl | (apply fits_of; first | omega | (simp; omega)))) | ((with_reducible show CallG _ _ _ _); first | ((with_reducible apply cg0); (· rfl)) | ((with_reducible apply cg1); (· rfl); (· rfl))) | ((with_reducible show WT _ _ _ _); first | with_reducible refine wt_n ?_ | ((with_reducible apply wt_t); (· rfl)) | ((with_reducible apply wt_unl); (· rfl))) | ((with_reducible show WTs _ _ _ _); first | with_reducible refine wts_nil ?_ | with_reducible refine wts_cons ?_) | ((with_reducible apply own_); (· rfl)) | ((with_reducible refine sml_ ?_ ?_ ?_); (· walk_at "sd"); (· walk_at "sd")) | with_reducible refine isi_ ?_ | ((with_reducible show WSX _ _ _); first | with_reducible refine wsx_lift ?_ | with_reducible refine wsx_seq ?_ | with_reducible refine wsx_if ?_ | with_reducible refine wsx_raise0 ?_ | with_reducible refine wsx_expr ?_ | with_reducible refine wsx_ret ?_ | with_reducible refine wsx_set ?_) | with_reducible refine wex_call ?_ | ((with_reducible show WPu _ _ _ _); first | with_reducible refine wpu_nil ?_ | with_reducible refine wpu_seq ?_ | with_reducible refine wpu_ret ?_ | with_reducible refine wpu_if ?_) | ((with_reducible show WTd _ _ _ _ _); first | with_reducible refine wtd_P ?_ | with_reducible refine wtd_G ?_ | with_reducible refine wtd_If ?_ | ((with_reducible refine wtd_K ?_ ?_); (· exact ⟨rfl, by decide⟩)) | ((with_reducible refine wtd_U ?_ ?_); (· exact ⟨rfl, by decide⟩)) | ((with_reducible refine wtd_C ?_ ?_); (· rfl)) | ((with_reducible refine wtd_A ?_ ?_ ?_); (· rfl); (· first | rfl | (apply fits_of; first | omega | (simp; omega))))) | with_reducible refine two_ ?_ | ((with_reducible show WC _ _ _ _ _ _ _); first | with_reducible refine wc_nil ?_ | with_reducible refine wc_cons ?_) | ((with_reducible show WP _ _ _); first | with_reducible refine wp_no ?_ | with_reducible refine wp_e ?_) | with_reducible refine isl ?_ | ((with_reducible show RetT _ _ _); first | ((with_reducible apply retT1); (· rfl)) | ((with_reducible apply retT2); (· rfl))) | ((with_reducible show Any _ _); first | ((with_reducible apply any_o); (· rfl)) | ((with_reducible apply any_r); (· rfl))) | ((with_reducible show CallH _ _ _ _); first | ((with_reducible apply ch0); (· rfl)) | ((with_reducible apply ch1); (· rfl); (· rfl))) | ((with_reducible apply cgx0); (· rfl))))
local macro_rules | `(tactic| walk_at "v2") => `(tactic| (first | ((with_reducible show WE _ _ _); first | with_reducible refine we_callN ?_ | with_reducible refine we_c ?_ | with_reducible refine we_un ?_ | with_reducible refine we_bin ?_ | with_reducible refine we_chain ?_ | with_reducible refine we_and ?_ | with_reducible refine we_or ?_ | with_reducible refine we_not ?_ | with_reducible refine we_if ?_ | with_reducible refine we_fz ?_ | with_reducible refine we_tup ?_ | with_reducible refine we_sl ?_ | with_reducible refine we_tupRg ?_ | with_reducible refine we_bor ?_ | with_reducible refine we_call ?_ | with_reducible refine we_din ?_ | with_reducible refine we_borL ?_ | ((with_reducible apply we_v); (· rfl)) | ((with_reducible show WE (eO _) _ _); first | ((with_reducible apply we_oV); (· rfl)) | ((with_reducible apply we_oW); (· rfl)) | ((with_reducible apply we_oR); (· rfl))) | ((with_reducible show WE (eBinV _ _ _) _ _); first | ((with_reducible apply we_bV); (· rfl)) | ((with_reducible apply we_bVr); (· rfl)) | ((with_reducible apply we_bVv); (· rfl))) | ((with_reducible apply we_mut); (· rfl)) | ((with_reducible apply we_mut0); (· rfl)) | ((with_reducible apply we_dget2); (· rfl)) | ((with_reducible apply we_didx); (· rfl))) | ((with_reducible show WO _ _); first | ((with_reducible show WO (gIsO _ _) _); first | with_reducible refine wo_isON ?_ | ((with_reducible refine wo_isO (b := true) ?_ ?_); (· rfl)) | ((with_reducible refine wo_isO (b := false) ?_ ?_); (· rfl))) | with_reducible refine wo_attr ?_ | ((with_reducible show WO (valsA _) _); first | with_reducible refine vals_nil ?_ | with_reducible refine vals_v ?_) | with_reducible refine wo_isB ?_ | with_reducible refine wo_ntB ?_ | ((with_reducible show WO (backAr _ _ _) _); first | with_reducible refine back_nil ?_ | with_reducible refine back_v ?_ | with_reducible refine back_o ?_ | ((with_reducible apply back_r); (· rfl))) | ((with_reducible show WO (resArs _ _) _); first | with_reducible refine res_nil ?_ | with_reducible refine res_v ?_ | ((with_reducible apply res_r); (· rfl)) | ((with_reducible apply res_oO); (· rfl)) | ((with_reducible apply res_oR); (· rfl)) | ((with_reducible apply res_oV); (· rfl))) | ((with_reducible show WO (gAdd _ _) _); first | with_reducible refine wo_add ?_ | ((with_reducible refine wo_addL ?_ ?_); (· first | rfl | (apply fits_of; first | omega | (simp; omega)))) | ((with_reducible refine wo_addT ?_ ?_); (· first | rfl | (apply fits_of; first | omega | (simp; omega))))) | with_reducible refine wo_sub ?_ | with_reducible refine wo_neg ?_ | with_reducible refine wo_lt ?_ | with_reducible refine wo_le ?_ | with_reducible refine wo_gt ?_ | with_reducible refine wo_ge ?_ | ((with_reducible show WO (gEq _ _) _); first | with_reducible refine wo_eq ?_ | with_reducible refine wo_eqB ?_ | ((with_reducible refine wo_eqT ?_ ?_); (· decide +kernel)) | ((with_reducible refine wo_eqF ?_ ?_); (· decide +kernel))) | ((with_reducible show WO (gNe _ _) _); first | with_reducible refine wo_ne ?_ | with_reducible refine wo_neB ?_ | ((with_reducible refine wo_neT ?_ ?_); (· decide +kernel)) | ((with_reducible refine wo_neF ?_ ?_); (· decide +kernel))) | with_reducible refine wo_isN ?_ | with_reducible refine wo_ntN ?_ | ((with_reducible show WO (gLen _) _); first | with_reducible refine wo_lenL ?_ | with_reducible refine wo_lenT ?_) | with_reducible refine wo_abs ?_ | ((with_reducible show WO (gInt _) _); first | with_reducible refine wo_intB ?_ | with_reducible refine wo_intI ?_) | ((with_reducible show WO (gList _) _); first | with_reducible refine wo_listL ?_ | with_reducible refine wo_listT ?_) | ((with_reducible show WO (gTuple _) _); first | with_reducible refine wo_tupL ?_ | with_reducible refine wo_tupT ?_) | with_reducible refine wo_max ?_ | with_reducible refine wo_min ?_ | ((with_reducible show WO (gIsi _ _) _); first | with_reducible refine wo_isiI ?_ | with_reducible refine wo_isiB ?_ | ((with_reducible apply wo_isiE); (· rfl))) | ((with_reducible show WO (cutOf _ _ _) _); first | with_reducible refine wo_cutL ?_ | with_reducible refine wo_cutT ?_) | ((with_reducible show WO (gPow _ _) _); first | with_reducible refine wo_p10_60 ?_ | with_reducible refine wo_p10_18 ?_ | with_reducible refine wo_p10_30 ?_ | with_reducible refine wo_p2_24 ?_ | with_reducible refine wo_p10_8 ?_ | with_reducible refine wo_p10_19 ?_ | with_reducible refine wo_p10_55 ?_ | with_reducible refine wo_p10_59 ?_ | with_reducible refine wo_p3_30 ?_ | with_reducible refine wo_p2_40 ?_ | with_reducible refine wo_p10_54 ?_ | with_reducible refine wo_p3_13 ?_ | with_reducible refine wo_p2_20 ?_ | with_reducible refine wo_p10_57 ?_ | with_reducible refine wo_p10_40 ?_ | with_reducible refine wo_p10_61 ?_ | with_reducible refine wo_p10_50 ?_) | ((with_reducible apply wo_idxE); (· rfl)) | ((with_reducible apply wo_allE); (· rfl)) | ((with_reducible apply wo_anyE); (· rfl)) | ((with_reducible show WO (ixN _ _) _); first | ((with_reducible apply wo_ixE); (· rfl)) | ((with_reducible refine wo_ix ?_ ?_ ?_); (· walk_at "sd"); (· walk_at "sd"))) | ((with_reducible refine wo_mod ?_ ?_); (· walk_at "sd")) | ((with_reducible refine wo_div ?_ ?_ ?_); (· walk_at "sd"); (· walk_at "sd")) | ((with_reducible refine wo_mul ?_ ?_); (· first | exact mul_ok1 (by walk_at "sd") | exact mul_ok2 (by walk_at "sd") | exact mul_ok3 (by omega) (by omega))) | ((with_reducible refine wo_app ?_ ?_); (· first | rfl | (apply fits_of; first | omega | (simp; omega)))) | ((with_reducible refine wo_ext ?_ ?_); (· first | rfl | (apply fits_of; first | omega | (simp; omega))))) | ((with_reducible show WS _ _ _); first | with_reducible refine ws_try ?_ | with_reducible refine ws_retT ?_ | with_reducible refine ws_seq ?_ | with_reducible refine ws_expr ?_ | with_reducible refine ws_ret ?_ | with_reducible refine ws_retL ?_ | with_reducible refine ws_set ?_ | with_reducible refine ws_setO ?_ | with_reducible refine ws_asg ?_ | with_reducible refine ws_par ?_ | with_reducible refine ws_nil ?_ | with_reducible refine ws_retN ?_ | with_reducible refine ws_dput ?_ | with_reducible refine ws_dnew ?_ | ((with_reducible show WS (sFrz _ _) _ _); first | ((with_reducible apply ws_frz); (· rfl)) | ((with_reducible apply ws_frzV); (· rfl))) | ((with_reducible apply ws_retO); (· rfl)) | ((with_reducible apply ws_putI); (· rfl))) | ((with_reducible apply nrm_); (· (try simp only [wipeE, backE, List.set_cons_zero, List.set_cons_succ, List.getElem?_cons_zero, List.getElem?_cons_succ, List.cons_append, List.nil_append, List.replicate_succ, List.replicate_zero, Nat.reduceSub, unowns_nil, unowns_cons, unown_own, unown_val, unown_no, unown_ro, unown_dct]); rfl)) | ((with_reducible show IfB _ _ _); first | with_reducible refine ifb_not ?_ | with_reducible refine ifb_t ?_ | with_reducible refine ifb_f ?_ | ((with_reducible refine ifb_decT ?_ ?_); (· first | (with_reducible assumption) | omega | (simp only [List.length_cons, List.length_nil]; omega))) | ((with_reducible refine ifb_decF ?_ ?_); (· first | (with_reducible assumption) | omega | (simp only [List.length_cons, List.length_nil]; omega))) | with_reducible refine ifb_dec (fun _ => ?_) (fun _ => ?_) | ((with_reducible apply ifb_eT); (· rfl)) | ((with_reducible apply ifb_eF); (· rfl))) | ((with_reducible show WB _ _ _); first | with_reducible refine wb_bor ?_ | with_reducible refine wb_v ?_ | with_reducible refine wb_and ?_ | with_reducible refine wb_or ?_ | with_reducible refine wb_not ?_ | with_reducible refine wb_yes ?_) | with_reducible refine isb ?_ | ((with_reducible show WL _ _ _); first | with_reducible refine wl_nil ?_ | with_reducible refine wl_cons ?_ | with_reducible refine wl_lst ?_ | with_reducible refine wl_un ?_ | with_reducible refine wl_it ?_ | with_reducible refine wl_rng1 ?_ | with_reducible refine wl_rng2 ?_ | with_reducible refine wl_enum ?_ | with_reducible refine wl_enumA ?_ | with_reducible refine wl_addE ?_ | with_reducible refine wl_rg1 ?_ | with_reducible refine wl_bor ?_ | with_reducible refine wl_call ?_ | ((with_reducible apply wl_addO); (· rfl)) | ((with_reducible show WL (lSlV _ _ _) _ _); first | ((with_reducible apply wl_slO); (· rfl)) | ((with_reducible apply wl_slR); (· rfl)))) | ((with_reducible show WA _ _ _); first | with_reducible refine wa_nil ?_ | with_reducible refine wa_v ?_ | ((with_reducible apply wa_r); (· rfl)) | ((with_reducible show WA (aO _ _) _ _); first | ((with_reducible apply wa_oR); (· rfl)) | ((with_reducible apply wa_oO); (· rfl)) | ((with_reducible apply wa_oV); (· rfl)))) | ((with_reducible show IsS _ _); first | with_reducible refine iss_l ?_ | with_reducible refine iss_t ?_) | ((with_reducible refine fit_ ?_ ?_); (· first | rfl | (apply fits_of; first | omega | (simp; omega)))) | ((with_reducible show CallG _ _ _ _); first | ((with_reducible apply cg0); (· rfl)) | ((with_reducible apply cg1); (· rfl); (· rfl))) | ((with_reducible show WT _ _ _ _); first | with_reducible refine wt_n ?_ | ((with_reducible apply wt_t); (· rfl)) | ((with_reducible apply wt_unl); (· rfl))) | ((with_reducible show WTs _ _ _ _); first | with_reducible refine wts_nil ?_ | with_reducible refine wts_cons ?_) | ((with_reducible apply own_); (· rfl)) | ((with_reducible refine sml_ ?_ ?_ ?_); (· walk_at "sd"); (· walk_at "sd")) | with_reducible refine isi_ ?_ | ((with_reducible show WSX _ _ _); first | with_reducible refine wsx_lift ?_ | with_reducible refine wsx_seq ?_ | with_reducible refine wsx_if ?_ | with_reducible refine wsx_raise0 ?_ | with_reducible refine wsx_expr ?_ | with_reducible refine wsx_ret ?_ | with_reducible refine wsx_set ?_) | with_reducible refine wex_call ?_ | ((with_reducible show WPu _ _ _ _); first | with_reducible refine wpu_nil ?_ | with_reducible refine wpu_seq ?_ | with_reducible refine wpu_ret ?_ | with_reducible refine wpu_if ?_) | ((with_reducible show WTd _ _ _ _ _); first | with_reducible refine wtd_P ?_ | with_reducible refine wtd_G ?_ | with_reducible refine wtd_If ?_ | ((with_reducible refine wtd_K ?_ ?_); (· exact ⟨rfl, by decide⟩)) | ((with_reducible refine wtd_U ?_ ?_); (· exact ⟨rfl, by decide⟩)) | ((with_reducible refine wtd_C ?_ ?_); (· rfl)) | ((with_reducible refine wtd_A ?_ ?_ ?_); (· rfl); (· first | rfl | (apply fits_of; first | omega | (simp; omega))))) | with_reducible refine two_ ?_ | ((with_reducible show WC _ _ _ _ _ _ _); first | with_reducible refine wc_nil ?_ | with_reducible refine wc_cons ?_) | ((with_reducible show WP _ _ _); first | with_reducible refine wp_no ?_ | with_reducible refine wp_e ?_) | with_reducible refine isl ?_ | ((with_reducible show RetT _ _ _); first | ((with_reducible apply retT1); (· rfl)) | ((with_reducible apply retT2); (· rfl))) | ((with_reducible show Any _ _); first | ((with_reducible apply any_o); (· rfl)) | ((with_reducible apply any_r); (· rfl))) | ((with_reducible show CallH _ _ _ _); first | ((with_reducible apply ch0); (· rfl)) | ((with_reducible apply ch1); (· rfl); (· rfl))) | ((with_reducible apply cgx0); (· rfl))))
local macro_rules | `(tactic| walk_at "vc") => `(tactic| (repeat' first | ((with_reducible show WE _ _ _); first | with_reducible refine we_callN ?_ | with_reducible refine we_c ?_ | with_reducible refine we_un ?_ | with_reducible refine we_bin ?_ | with_reducible refine we_chain ?_ | with_reducible refine we_and ?_ | with_reducible refine we_or ?_ | with_reducible refine we_not ?_ | with_reducible refine we_if ?_ | with_reducible refine we_fz ?_ | with_reducible refine we_tup ?_ | with_reducible refine we_sl ?_ | with_reducible refine we_tupRg ?_ | with_reducible refine we_bor ?_ | with_reducible refine we_call ?_ | with_reducible refine we_din ?_ | with_reducible refine we_borL ?_ | ((with_reducible apply we_v); (· rfl)) | ((with_reducible show WE (eO _) _ _); first | ((with_reducible apply we_oV); (· rfl)) | ((with_reducible apply we_oW); (· rfl)) | ((with_reducible apply we_oR); (· rfl))) | ((with_reducible show WE (eBinV _ _ _) _ _); first | ((with_reducible apply we_bV); (· rfl)) | ((with_reducible apply we_bVr); (· rfl)) | ((with_reducible apply we_bVv); (· rfl))) | ((with_reducible apply we_mut); (· rfl)) | ((with_reducible apply we_mut0); (· rfl)) | ((with_reducible apply we_dget2); (· rfl)) | ((with_reducible apply we_didx); (· rfl))) | ((with_reducible show WO _ _); first | ((with_reducible show WO (gIsO _ _) _); first | with_reducible refine wo_isON ?_ | ((with_reducible refine wo_isO (b := true) ?_ ?_); (· rfl)) | ((with_reducible refine wo_isO (b := false) ?_ ?_); (· rfl))) | with_reducible refine wo_attr ?_ | ((with_reducible show WO (valsA _) _); first | with_reducible refine vals_nil ?_ | with_reducible refine vals_v ?_) | with_reducible refine wo_isB ?_ | with_reducible refine wo_ntB ?_ | ((with_reducible show WO (backAr _ _ _) _); first | with_reducible refine back_nil ?_ | with_reducible refine back_v ?_ | with_reducible refine back_o ?_ | ((with_reducible apply back_r); (· rfl))) | ((with_reducible show WO (resArs _ _) _); first | with_reducible refine res_nil ?_ | with_reducible refine res_v ?_ | ((with_reducible apply res_r); (· rfl)) | ((with_reducible apply res_oO); (· rfl)) | ((with_reducible apply res_oR); (· rfl)) | ((with_reducible apply res_oV); (· rfl))) | ((with_reducible show WO (gAdd _ _) _); first | with_reducible refine wo_add ?_ | ((with_reducible refine wo_addL ?_ ?_); (· first | rfl | (apply fits_of; first | omega | (simp; omega)))) | ((with_reducible refine wo_addT ?_ ?_); (· first | rfl | (apply fits_of; first | omega | (simp; omega))))) | with_reducible refine wo_sub ?_ | with_reducible refine wo_neg ?_ | with_reducible refine wo_lt ?_ | with_reducible refine wo_le ?_ | with_reducible refine wo_gt ?_ | with_reducible refine wo_ge ?_ | ((with_reducible show WO (gEq _ _) _); first | with_reducible refine wo_eq ?_ | with_reducible refine wo_eqB ?_ | ((with_reducible refine wo_eqT ?_ ?_); (· decide +kernel)) | ((with_reducible refine wo_eqF ?_ ?_); (· decide +kernel))) | ((with_reducible show WO (gNe _ _) _); first | with_reducible refine wo_ne ?_ | with_reducible refine wo_neB ?_ | ((with_reducible refine wo_neT ?_ ?_); (· decide +kernel)) | ((with_reducible refine wo_neF ?_ ?_); (· decide +kernel))) | with_reducible refine wo_isN ?_ | with_reducible refine wo_ntN ?_ | ((with_reducible show WO (gLen _) _); first | with_reducible refine wo_lenL ?_ | with_reducible refine wo_lenT ?_) | with_reducible refine wo_abs ?_ | ((with_reducible show WO (gInt _) _); first | with_reducible refine wo_intB ?_ | with_reducible refine wo_intI ?_) | ((with_reducible show WO (gList _) _); first | with_reducible refine wo_listL ?_ | with_reducible refine wo_listT ?_) | ((with_reducible show WO (gTuple _) _); first | with_reducible refine wo_tupL ?_ | with_reducible refine wo_tupT ?_) | with_reducible refine wo_max ?_ | with_reducible refine wo_min ?_ | ((with_reducible show WO (gIsi _ _) _); first | with_reducible refine wo_isiI ?_ | with_reducible refine wo_isiB ?_ | ((with_reducible apply wo_isiE); (· rfl))) | ((with_reducible show WO (cutOf _ _ _) _); first | with_reducible refine wo_cutL ?_ | with_reducible refine wo_cutT ?_) | ((with_reducible show WO (gPow _ _) _); first | with_reducible refine wo_p10_60 ?_ | with_reducible refine wo_p10_18 ?_ | with_reducible refine wo_p10_30 ?_ | with_reducible refine wo_p2_24 ?_ | with_reducible refine wo_p10_8 ?_ | with_reducible refine wo_p10_19 ?_ | with_reducible refine wo_p10_55 ?_ | with_reducible refine wo_p10_59 ?_ | with_reducible refine wo_p3_30 ?_ | with_reducible refine wo_p2_40 ?_ | with_reducible refine wo_p10_54 ?_ | with_reducible refine wo_p3_13 ?_ | with_reducible refine wo_p2_20 ?_ | with_reducible refine wo_p10_57 ?_ | with_reducible refine wo_p10_40 ?_ | with_reducible refine wo_p10_61 ?_ | with_reducible refine wo_p10_50 ?_) | ((with_reducible apply wo_idxE); (· rfl)) | ((with_reducible apply wo_allE); (· rfl)) | ((with_reducible apply wo_anyE); (· rfl)) | ((with_reducible show WO (ixN _ _) _); first | ((with_reducible apply wo_ixE); (· rfl)) | ((with_reducible refine wo_ix ?_ ?_ ?_); (· walk_at "sd"); (· walk_at "sd"))) | ((with_reducible refine wo_mod ?_ ?_); (· walk_at "sd")) | ((with_reducible refine wo_div ?_ ?_ ?_); (· walk_at "sd"); (· walk_at "sd")) | ((with_reducible refine wo_mul ?_ ?_); (· first | exact mul_ok1 (by walk_at "sd") | exact mul_ok2 (by walk_at "sd") | exact mul_ok3 (by omega) (by omega))) | ((with_reducible refine wo_app ?_ ?_); (· first | rfl | (apply fits_of; first | omega | (simp; omega)))) | ((with_reducible refine wo_ext ?_ ?_); (· first | rfl | (apply fits_of; first | omega | (simp; omega))))) | ((with_reducible show WS _ _ _); first | with_reducible refine ws_try ?_ | with_reducible refine ws_retT ?_ | with_reducible refine ws_seq ?_ | with_reducible refine ws_expr ?_ | with_reducible refine ws_ret ?_ | with_reducible refine ws_retL ?_ | with_reducible refine ws_if ?_ | with_reducible refine ws_set ?_ | with_reducible refine ws_setO ?_ | with_reducible refine ws_asg ?_ | with_reducible refine ws_par ?_ | with_reducible refine ws_nil ?_ | with_reducible refine ws_retN ?_ | with_reducible refine ws_dput ?_ | with_reducible refine ws_dnew ?_ | ((with_reducible show WS (sFrz _ _) _ _); first | ((with_reducible apply ws_frz); (· rfl)) | ((with_reducible apply ws_frzV); (· rfl))) | ((with_reducible apply ws_retO); (· rfl)) | ((with_reducible apply ws_putI); (· rfl))) | ((with_reducible apply nrm_); (· (try simp only [wipeE, backE, List.set_cons_zero, List.set_cons_succ, List.getElem?_cons_zero, List.getElem?_cons_succ, List.cons_append, List.nil_append, List.replicate_succ, List.replicate_zero, Nat.reduceSub, unowns_nil, unowns_cons, unown_own, unown_val, unown_no, unown_ro, unown_dct]); rfl)) | ((with_reducible show IfB _ _ _); first | with_reducible refine ifb_not ?_ | with_reducible refine ifb_t ?_ | with_reducible refine ifb_f ?_ | ((with_reducible refine ifb_decT ?_ ?_); (· first | (with_reducible assumption) | omega | (simp only [List.length_cons, List.length_nil]; omega))) | ((with_reducible refine ifb_decF ?_ ?_); (· first | (with_reducible assumption) | omega | (simp only [List.length_cons, List.length_nil]; omega))) | with_reducible refine ifb_dec (fun _ => ?_) (fun _ => ?_) | ((with_reducible apply ifb_eT); (· rfl)) | ((with_reducible apply ifb_eF); (· rfl))) | ((with_reducible show WB _ _ _); first | with_reducible refine wb_bor ?_ | with_reducible refine wb_v ?_ | with_reducible refine wb_and ?_ | with_reducible refine wb_or ?_ | with_reducible refine wb_not ?_ | with_reducible refine wb_yes ?_) | with_reducible refine isb ?_ | ((with_reducible show WL _ _ _); first | with_reducible refine wl_nil ?_ | with_reducible refine wl_cons ?_ | with_reducible refine wl_lst ?_ | with_reducible refine wl_un ?_ | with_reducible refine wl_it ?_ | with_reducible refine wl_rng1 ?_ | with_reducible refine wl_rng2 ?_ | with_reducible refine wl_enum ?_ | with_reducible refine wl_enumA ?_ | with_reducible refine wl_addE ?_ | with_reducible refine wl_rg1 ?_ | with_reducible refine wl_bor ?_ | with_reducible refine wl_call ?_ | ((with_reducible apply wl_addO); (· rfl)) | ((with_reducible show WL (lSlV _ _ _) _ _); first | ((with_reducible apply wl_slO); (· rfl)) | ((with_reducible apply wl_slR); (· rfl)))) | ((with_reducible show WA _ _ _); first | with_reducible refine wa_nil ?_ | with_reducible refine wa_v ?_ | ((with_reducible apply wa_r); (· rfl)) | ((with_reducible show WA (aO _ _) _ _); first | ((with_reducible apply wa_oR); (· rfl)) | ((with_reducible apply wa_oO); (· rfl)) | ((with_reducible apply wa_oV); (· rfl)))) | ((with_reducible show IsS _ _); first | with_reducible refine iss_l ?_ | with_reducible refine iss_t ?_) | ((with_reducible refine fit_ ?_ ?_); (· first | rfl | (apply fits_of; first | omega | (simp; omega)))) | ((with_reducible show CallG _ _ _ _); first | ((with_reducible apply cg0); (· rfl)) | ((with_reducible apply cg1); (· rfl); (· rfl))) | ((with_reducible show WT _ _ _ _); first | with_reducible refine wt_n ?_ | ((with_reducible apply wt_t); (· rfl)) | ((with_reducible apply wt_unl); (· rfl))) | ((with_reducible show WTs _ _ _ _); first | with_reducible refine wts_nil ?_ | with_reducible refine wts_cons ?_) | ((with_reducible apply own_); (· rfl)) | ((with_reducible refine sml_ ?_ ?_ ?_); (· walk_at "sd"); (· walk_at "sd")) | with_reducible refine isi_ ?_ | ((with_reducible show WSX _ _ _); first | with_reducible refine wsx_lift ?_ | with_reducible refine wsx_seq ?_ | with_reducible refine wsx_if ?_ | with_reducible refine wsx_raise0 ?_ | with_reducible refine wsx_expr ?_ | with_reducible refine wsx_ret ?_ | with_reducible refine wsx_set ?_) | with_reducible refine wex_call ?_ | ((with_reducible show WPu _ _ _ _); first | with_reducible refine wpu_nil ?_ | with_reducible refine wpu_seq ?_ | with_reducible refine wpu_ret ?_ | with_reducible refine wpu_if ?_) | ((with_reducible show WTd _ _ _ _ _); first | with_reducible refine wtd_P ?_ | with_reducible refine wtd_G ?_ | with_reducible refine wtd_If ?_ | ((with_reducible refine wtd_K ?_ ?_); (· exact ⟨rfl, by decide⟩)) | ((with_reducible refine wtd_U ?_ ?_); (· exact ⟨rfl, by decide⟩)) | ((with_reducible refine wtd_C ?_ ?_); (· rfl)) | ((with_reducible refine wtd_A ?_ ?_ ?_); (· rfl); (· first | rfl | (apply fits_of; first | omega | (simp; omega))))) | with_reducible refine two_ ?_ | ((with_reducible show WC _ _ _ _ _ _ _); first | with_reducible refine wc_nil ?_ | with_reducible refine wc_cons ?_) | ((with_reducible show WP _ _ _); first | with_reducible refine wp_no ?_ | with_reducible refine wp_e ?_) | with_reducible refine isl ?_ | ((with_reducible show RetT _ _ _); first | ((with_reducible apply retT1); (· rfl)) | ((with_reducible apply retT2); (· rfl))) | ((with_reducible show Any _ _); first | ((with_reducible apply any_o); (· rfl)) | ((with_reducible apply any_r); (· rfl))) | ((with_reducible show CallH _ _ _ _); first | ((with_reducible apply ch0); (· rfl)) | ((with_reducible apply ch1); (· rfl); (· rfl))) | ((with_reducible apply cgx0); (· rfl))))
local macro_rules | `(tactic| walk_at "vd") => `(tactic| (repeat' first | ((with_reducible show WE _ _ _); first | with_reducible refine we_callN ?_ | with_reducible refine we_c ?_ | with_reducible refine we_un ?_ | with_reducible refine we_bin ?_ | with_reducible refine we_chain ?_ | with_reducible refine we_and ?_ | with_reducible refine we_or ?_ | with_reducible refine we_not ?_ | with_reducible refine we_if ?_ | with_reducible refine we_fz ?_ | with_reducible refine we_tup ?_ | with_reducible refine we_sl ?_ | with_reducible refine we_tupRg ?_ | with_reducible refine we_bor ?_ | with_reducible refine we_call ?_ | with_reducible refine we_din ?_ | with_reducible refine we_borL ?_ | ((with_reducible apply we_v); (· rfl)) | ((with_reducible show WE (eO _) _ _); first | ((with_reducible apply we_oV); (· rfl)) | ((with_reducible apply we_oW); (· rfl)) | ((with_reducible apply we_oR); (· rfl))) | ((with_reducible show WE (eBinV _ _ _) _ _); first | ((with_reducible apply we_bV); (· rfl)) | ((with_reducible apply we_bVr); (· rfl)) | ((with_reducible apply we_bVv); (· rfl))) | ((with_reducible apply we_mut); (· rfl)) | ((with_reducible apply we_mut0); (· rfl)) | ((with_reducible apply we_dget2); (· rfl)) | ((with_reducible apply we_didx); (· rfl))) | ((with_reducible show WO _ _); first | ((with_reducible show WO (gIsO _ _) _); first | with_reducible refine wo_isON ?_ | ((with_reducible refine wo_isO (b := true) ?_ ?_); (· rfl)) | ((with_reducible refine wo_isO (b := false) ?_ ?_); (· rfl))) | with_reducible refine wo_attr ?_ | ((with_reducible show WO (valsA _) _); first | with_reducible refine vals_nil ?_ | with_reducible refine vals_v ?_) | with_reducible refine wo_isB ?_ | with_reducible refine wo_ntB ?_ | ((with_reducible show WO (backAr _ _ _) _); first | with_reducible refine back_nil ?_ | with_reducible refine back_v ?_ | with_reducible refine back_o ?_ | ((with_reducible apply back_r); (· rfl))) | ((with_reducible show WO (resArs _ _) _); first | with_reducible refine res_nil ?_ | with_reducible refine res_v ?_ | ((with_reducible apply res_r); (· rfl)) | ((with_reducible apply res_oO); (· rfl)) | ((with_reducible apply res_oR); (· rfl)) | ((with_reducible apply res_oV); (· rfl))) | ((with_reducible show WO (gAdd _ _) _); first | with_reducible refine wo_add ?_ | ((with_reducible refine wo_addL ?_ ?_); (· first | rfl | (apply fits_of; first | omega | (simp; omega)))) | ((with_reducible refine wo_addT ?_ ?_); (· first | rfl | (apply fits_of; first | omega | (simp; omega))))) | with_reducible refine wo_sub ?_ | with_reducible refine wo_neg ?_ | with_reducible refine wo_lt ?_ | with_reducible refine wo_le ?_ | with_reducible refine wo_gt ?_ | with_reducible refine wo_ge ?_ | ((with_reducible show WO (gEq _ _) _); first | with_reducible refine wo_eq ?_ | with_reducible refine wo_eqB ?_ | ((with_reducible refine wo_eqT ?_ ?_); (· decide +kernel)) | ((with_reducible refine wo_eqF ?_ ?_); (· decide +kernel))) | ((with_reducible show WO (gNe _ _) _); first | with_reducible refine wo_ne ?_ | with_reducible refine wo_neB ?_ | ((with_reducible refine wo_neT ?_ ?_); (· decide +kernel)) | ((with_reducible refine wo_neF ?_ ?_); (· decide +kernel))) | with_reducible refine wo_isN ?_ | with_reducible refine wo_ntN ?_ | ((with_reducible show WO (gLen _) _); first | with_reducible refine wo_lenL ?_ | with_reducible refine wo_lenT ?_) | with_reducible refine wo_abs ?_ | ((with_reducible show WO (gInt _) _); first | with_reducible refine wo_intB ?_ | with_reducible refine wo_intI ?_) | ((with_reducible show WO (gList _) _); first | with_reducible refine wo_listL ?_ | with_reducible refine wo_listT ?_) | ((with_reducible show WO (gTuple _) _); first | with_reducible refine wo_tupL ?_ | with_reducible refine wo_tupT ?_) | with_reducible refine wo_max ?_ | with_reducible refine wo_min ?_ | ((with_reducible show WO (gIsi _ _) _); first | with_reducible refine wo_isiI ?_ | with_reducible refine wo_isiB ?_ | ((with_reducible apply wo_isiE); (· rfl))) | ((with_reducible show WO (cutOf _ _ _) _); first | with_reducible refine wo_cutL ?_ | with_reducible refine wo_cutT ?_) | ((with_reducible show WO (gPow _ _) _); first | with_reducible refine wo_p10_60 ?_ | with_reducible refine wo_p10_18 ?_ | with_reducible refine wo_p10_30 ?_ | with_reducible refine wo_p2_24 ?_ | with_reducible refine wo_p10_8 ?_ | with_reducible refine wo_p10_19 ?_ | with_reducible refine wo_p10_55 ?_ | with_reducible refine wo_p10_59 ?_ | with_reducible refine wo_p3_30 ?_ | with_reducible refine wo_p2_40 ?_ | with_reducible refine wo_p10_54 ?_ | with_reducible refine wo_p3_13 ?_ | with_reducible refine wo_p2_20 ?_ | with_reducible refine wo_p10_57 ?_ | with_reducible refine wo_p10_40 ?_ | with_reducible refine wo_p10_61 ?_ | with_reducible refine wo_p10_50 ?_) | ((with_reducible apply wo_idxE); (· rfl)) | ((with_reducible apply wo_allE); (· rfl)) | ((with_reducible apply wo_anyE); (· rfl)) | ((with_reducible show WO (ixN _ _) _); first | ((with_reducible apply wo_ixE); (· rfl)) | ((with_reducible refine wo_ix ?_ ?_ ?_); (· walk_at "sd"); (· walk_at "sd"))) | ((with_reducible refine wo_mod ?_ ?_); (· walk_at "sd")) | ((with_reducible refine wo_div ?_ ?_ ?_); (· walk_at "sd"); (· walk_at "sd")) | ((with_reducible refine wo_mul ?_ ?_); (· first | exact mul_ok1 (by walk_at "sd") | exact mul_ok2 (by walk_at "sd") | exact mul_ok3 (by omega) (by omega))) | ((with_reducible refine wo_app ?_ ?_); (· first | rfl | (apply fits_of; first | omega | (simp; omega)))) | ((with_reducible refine wo_ext ?_ ?_); (· first | rfl | (apply fits_of; first | omega | (simp; omega))))) | ((with_reducible show WS _ _ _); first | with_reducible refine ws_try ?_ | with_reducible refine ws_retT ?_ | with_reducible refine ws_seq ?_ | with_reducible refine ws_expr ?_ | with_reducible refine ws_ret ?_ | with_reducible refine ws_retL ?_ | with_reducible refine ws_set ?_ | with_reducible refine ws_setO ?_ | with_reducible refine ws_asg ?_ | with_reducible refine ws_par ?_ | with_reducible refine ws_nil ?_ | with_reducible refine ws_retN ?_ | with_reducible refine ws_dput ?_ | with_reducible refine ws_dnew ?_ | ((with_reducible show WS (sFrz _ _) _ _); first | ((with_reducible apply ws_frz); (· rfl)) | ((with_reducible apply ws_frzV); (· rfl))) | ((with_reducible apply ws_retO); (· rfl)) | ((with_reducible apply ws_putI); (· rfl))) | ((with_reducible apply nrm_); (· (try simp only [wipeE, backE, List.set_cons_zero, List.set_cons_succ, List.getElem?_cons_zero, List.getElem?_cons_succ, List.cons_append, List.nil_append, List.replicate_succ, List.replicate_zero, Nat.reduceSub, unowns_nil, unowns_cons, unown_own, unown_val, unown_no, unown_ro, unown_dct]); rfl)) | ((with_reducible show IfB _ _ _); first | with_reducible refine ifb_not ?_ | with_reducible refine ifb_t ?_ | with_reducible refine ifb_f ?_ | ((with_reducible refine ifb_decT ?_ ?_); (· first | (with_reducible assumption) | omega | (simp only [List.length_cons, List.length_nil]; omega))) | ((with_reducible refine ifb_decF ?_ ?_); (· first | (with_reducible assumption) | omega | (simp only [List.length_cons, List.length_nil]; omega))) | with_reducible refine ifb_dec (fun _ => ?_) (fun _ => ?_) | ((with_reducible apply ifb_eT); (· rfl)) | ((with_reducible apply ifb_eF); (· rfl))) | ((with_reducible show WB _ _ _); first | with_reducible refine wb_bor ?_ | with_reducible refine wb_v ?_ | with_reducible refine wb_and ?_ | with_reducible refine wb_or ?_ | with_reducible refine wb_not ?_ | with_reducible refine wb_yes ?_) | with_reducible refine isb ?_ | ((with_reducible show WL _ _ _); first | with_reducible refine wl_nil ?_ | with_reducible refine wl_cons ?_ | with_reducible refine wl_lst ?_ | with_reducible refine wl_un ?_ | with_reducible refine wl_it ?_ | with_reducible refine wl_rng1 ?_ | with_reducible refine wl_rng2 ?_ | with_reducible refine wl_enum ?_ | with_reducible refine wl_enumA ?_ | with_reducible refine wl_addE ?_ | with_reducible refine wl_rg1 ?_ | with_reducible refine wl_bor ?_ | with_reducible refine wl_call ?_ | ((with_reducible apply wl_addO); (· rfl)) | ((with_reducible show WL (lSlV _ _ _) _ _); first | ((with_reducible apply wl_slO); (· rfl)) | ((with_reducible apply wl_slR); (· rfl)))) | ((with_reducible show WA _ _ _); first | with_reducible refine wa_nil ?_ | with_reducible refine wa_v ?_ | ((with_reducible apply wa_r); (· rfl)) | ((with_reducible show WA (aO _ _) _ _); first | ((with_reducible apply wa_oR); (· rfl)) | ((with_reducible apply wa_oO); (· rfl)) | ((with_reducible apply wa_oV); (· rfl)))) | ((with_reducible show IsS _ _); first | with_reducible refine iss_l ?_ | with_reducible refine iss_t ?_) | ((with_reducible refine fit_ ?_ ?_); (· first | rfl | (apply fits_of; first | omega | (simp; omega)))) | ((with_reducible show CallG _ _ _ _); first | ((with_reducible apply cg0); (· rfl)) | ((with_reducible apply cg1); (· rfl); (· rfl))) | ((with_reducible show WT _ _ _ _); first | with_reducible refine wt_n ?_ | ((with_reducible apply wt_t); (· rfl)) | ((with_reducible apply wt_unl); (· rfl))) | ((with_reducible show WTs _ _ _ _); first | with_reducible refine wts_nil ?_ | with_reducible refine wts_cons ?_) | ((with_reducible apply own_); (· rfl)) | ((with_reducible refine sml_ ?_ ?_ ?_); (· walk_at "sd"); (· walk_at "sd")) | with_reducible refine isi_ ?_ | ((with_reducible show WSX _ _ _); first | with_reducible refine wsx_lift ?_ | with_reducible refine wsx_seq ?_ | with_reducible refine wsx_if ?_ | with_reducible refine wsx_raise0 ?_ | with_reducible refine wsx_expr ?_ | with_reducible refine wsx_ret ?_ | with_reducible refine wsx_set ?_) | with_reducible refine wex_call ?_ | ((with_reducible show WPu _ _ _ _); first | with_reducible refine wpu_nil ?_ | with_reducible refine wpu_seq ?_ | with_reducible refine wpu_ret ?_ | with_reducible refine wpu_if ?_) | ((with_reducible show WTd _ _ _ _ _); first | with_reducible refine wtd_P ?_ | with_reducible refine wtd_G ?_ | with_reducible refine wtd_If ?_ | ((with_reducible refine wtd_K ?_ ?_); (· exact ⟨rfl, by decide⟩)) | ((with_reducible refine wtd_U ?_ ?_); (· exact ⟨rfl, by decide⟩)) | ((with_reducible refine wtd_C ?_ ?_); (· rfl)) | ((with_reducible refine wtd_A ?_ ?_ ?_); (· rfl); (· first | rfl | (apply fits_of; first | omega | (simp; omega))))) | with_reducible refine two_ ?_ | ((with_reducible show WC _ _ _ _ _ _ _); first | with_reducible refine wc_nil ?_ | with_reducible refine wc_cons ?_) | ((with_reducible show WP _ _ _); first | with_reducible refine wp_no ?_ | with_reducible refine wp_e ?_) | with_reducible refine isl ?_ | ((with_reducible show RetT _ _ _); first | ((with_reducible apply retT1); (· rfl)) | ((with_reducible apply retT2); (· rfl))) | ((with_reducible show Any _ _); first | ((with_reducible apply any_o); (· rfl)) | ((with_reducible apply any_r); (· rfl))) | ((with_reducible show CallH _ _ _ _); first | ((with_reducible apply ch0); (· rfl)) | ((with_reducible apply ch1); (· rfl); (· rfl))) | ((with_reducible apply cgx0); (· rfl))))
local macro_rules | `(tactic| walk_at "nr") => `(tactic| ((with_reducible apply nrm_); (· (try simp only [wipeE, backE, List.set_cons_zero, List.set_cons_succ, List.getElem?_cons_zero, List.getElem?_cons_succ, List.cons_append, List.nil_append, List.replicate_succ, List.replicate_zero, Nat.reduceSub, unowns_nil, unowns_cons, unown_own, unown_val, unown_no, unown_ro, unown_dct]); rfl)))
local macro_rules | `(tactic| walk_at "nb") => `(tactic| simp only [wipeE, backE, List.set_cons_zero, List.set_cons_succ, List.getElem?_cons_zero, List.getElem?_cons_succ])
theorem common_w {a b : Int} {Q : D → List Sl → Prop} (ha : 0 ≤ a) (hb : 0 ≤ b) (ha2 : a < 10 ^ 200) (hb2 : b < 10 ^ 200) (q : ∀ g s t : Int, Bz a b g s t → Q (.tuple [.int g, .int s, .int t]) [.val (.int a), .val (.int b)]) :
    WG g_common_parts [.val (.int a), .val (.int b)] Q := by
  refine wg_run rfl ?_
  unfold b_common_parts
  walk_at "nr"
  refine ws_mid (fun e => ∃ (r0 s0 t0 r1 s1 t1 : Int) (x4 x5 : Sl), Eu a b r0 s0 t0 r1 s1 t1 ∧ r0 ≤ a + b ∧ r1 ≤ a + b ∧ e = [.val (.int a), .val (.int b), .val (.tuple [.int r0, .int s0, .int t0]), .val (.tuple [.int r1, .int s1, .int t1]), x4, x5, .no, .no]) ?_ ?_
  · walk_at "vc"
    exact ⟨a, 1, 0, b, 0, 1, .no, .no, Eu.start ha hb, by omega, by omega, rfl⟩
  · rintro e ⟨r0, s0, t0, r1, s1, t1, x4, x5, E, z0, z1, rfl⟩
    refine ws_mid (fun e => ∃ (r0 s0 t0 s1 t1 : Int) (x4 x5 : Sl), Eu a b r0 s0 t0 0 s1 t1 ∧ e = [.val (.int a), .val (.int b), .val (.tuple [.int r0, .int s0, .int t0]), .val (.tuple [.int 0, .int s1, .int t1]), x4, x5, .no, .no]) ?_ ?_
    · refine ws_wh (fun m e => ∃ (r0 s0 t0 r1 s1 t1 : Int) (x4 x5 : Sl), Eu a b r0 s0 t0 r1 s1 t1 ∧ r0 ≤ a + b ∧ r1 ≤ a + b ∧ m = r1.toNat ∧ e = [.val (.int a), .val (.int b), .val (.tuple [.int r0, .int s0, .int t0]), .val (.tuple [.int r1, .int s1, .int t1]), x4, x5, .no, .no]) r1.toNat (by unfold FU; omega) ⟨r0, s0, t0, r1, s1, t1, x4, x5, E, z0, z1, rfl, rfl⟩ ?_
      rintro m e ⟨r0, s0, t0, r1, s1, t1, x4, x5, E, z0, z1, rfl, rfl⟩
      have h0 := E.h0
      have h1 := E.h1
      have sz := E.sz
      walk_at "vc"
      · rename_i h
        subst h
        exact ⟨r0, s0, t0, s1, t1, x4, x5, E, rfl⟩
      · rename_i h
        obtain ⟨E2, lt, q0, q1⟩ := E.step h
        have h3 := E2.h1
        walk_at "vc"
        refine wl_compU [.tuple [.int r0, .int r1], .tuple [.int s0, .int s1], .tuple [.int t0, .int t1]] ?_
        refine wl_zip ?_
        walk_at "vc"
        refine ⟨_, _, .inr ⟨rfl, rfl⟩, rfl, rfl, rfl, ?_⟩
        walk_at "vc"
        refine ⟨_, lt, r1, s1, t1, r0 - r0 / r1 * r1, s0 - r0 / r1 * s1, t0 - r0 / r1 * t1, .val (.int (r0 / r1)), .val (.tuple [.int (r0 - r0 / r1 * r1), .int (s0 - r0 / r1 * s1), .int (t0 - r0 / r1 * t1)]), E2, z1, by omega, rfl, ?_⟩
        rfl
    · rintro e ⟨r0, s0, t0, s1, t1, x4, x5, E, rfl⟩
      walk_at "vc"
      exact q r0 s0 t0 (E.fin ha hb)

theorem weights_w {m : Int} {ns : List Int} {Q : D → List Sl → Prop} (hm : 0 < m) (hm2 : m ≤ 10 ^ 120) (hl : ns.length ≤ 100000) (q : ∀ g ws x y, We m ns g ws → Q (.tuple [.int g, .list (ws.map .int)]) [x, y]) :
    WG g_weights_of [.val (.int m), .val (.list (ns.map .int))] Q := by
  refine wg_run rfl ?_
  unfold b_weights_of
  walk_at "vc"
  refine ws_for (fun _ rs e => ∃ (done rest : List Int) (g : Int) (ws : List Int) (x4 x5 x6 : Sl), ns = done ++ rest ∧ rs = rest.map .int ∧ We m done g ws ∧ e = [.val (.int m), .val (.list (ns.map .int)), .val (.int g), .val (.list (ws.map .int)), x4, x5, x6, .no]) ?_
  walk_at "vc"
  refine ⟨⟨[], ns, m, [], .no, .no, .no, rfl, rfl, We.start hm, rfl⟩, ?_, ?_⟩
  · rintro d rs e ⟨done, rest, g, ws, x4, x5, x6, rfl, hr, W, rfl⟩
    cases rest with
    | nil => cases hr
    | cons n rest =>
      cases hr
      have hn0 := Int.emod_nonneg n (show m ≠ 0 by omega)
      have hn1 := Int.emod_lt_of_pos n hm
      have hgm := Int.le_of_dvd hm W.dm
      have hg := W.pos
      walk_at "vc"
      refine common_w (by omega) hn0 (by omega) (by omega) fun g' s t B => ?_
      have hs := B.sb
      have W2 := W.step hm B
      have hlen : ws.length ≤ 100000 := by
        rw [W.len]
        rw [List.length_append] at hl
        omega
      walk_at "vc"
      refine wl_compP (fun _ _ => true) (fun _ => mapI fun w => w * s % m) ?_
      walk_at "vc"
      refine ⟨rfl, fits_of (by rw [List.length_map]; omega), fun d hd => ?_, ?_⟩
      · obtain ⟨w, hw, rfl⟩ := List.mem_map.mp hd
        have hw2 := W.rng w hw
        walk_at "vc"
        exact ⟨rfl, by walk_at "vc"; exact ⟨rfl, rfl⟩⟩
      · rw [filter_yes, mapI_ints]
        walk_at "vc"
        refine ⟨done ++ [n], rest, g', _, .val (.int n), .val (.int s), .val (.int t), by simp, rfl, W2, ?_⟩
        rw [List.map_append (l₁ := ws.map fun w => w * s % m)]
        rfl
  · rintro e ⟨done, rest, g, ws, x4, x5, x6, rfl, hr, W, rfl⟩
    cases rest with
    | cons _ _ => cases hr
    | nil =>
      walk_at "vc"
      refine q g ws _ _ ?_
      rw [List.append_nil]
      exact W

theorem swaps_w {hs : List Hd} {Q : D → List Sl → Prop} (hn : hs.length ≤ 5) (hk : ∀ h ∈ hs, isLk h.2.2) (q : ∀ x, Q (.list ((swapsL (looksOf hs)).map tO)) [x]) :
    WG g_swaps_of [.val (.tuple (hs.map hD))] Q := by
  refine wg_run rfl ?_
  unfold b_swaps_of
  walk_at "vc"
  refine ws_forN (fun ds k e => ∃ x2 x3 x4 x5 x6 x7 : Sl, e = [.val (.tuple (hs.map hD)), .val (.list ((swapsGo (looksOf hs) ((looksOf hs).take k) [[]]).map tO)), x2, x3, x4, x5, x6, x7]) ?_
  walk_at "vc"
  refine ⟨⟨_, _, _, _, _, _, rfl⟩, ?_, ?_⟩
  · rintro k d e hkl hd ⟨x2, x3, x4, x5, x6, x7, rfl⟩
    rw [List.length_map] at hkl
    have hd2 : d = hD hs[k] := by
      rw [List.getElem?_map, List.getElem?_eq_getElem hkl] at hd
      exact (Option.some.inj hd).symm
    subst hd2
    clear hd
    have hlk := hk hs[k] (List.getElem_mem _)
    have hln : (looksOf hs).length = hs.length := List.length_map ..
    have hlen := swapsGo_len (looksOf hs) (by omega) k (by omega)
    have h5 := pow5 (show k ≤ 5 by omega)
    have hnx : swapsGo (looksOf hs) ((looksOf hs).take (k + 1)) [[]] = (swapsGo (looksOf hs) ((looksOf hs).take k) [[]]).flatMap (nextS (looksOf hs) hs[k].2.2) := by
      rw [List.take_succ_eq_append_getElem (show k < (looksOf hs).length by omega), swapsGo_snoc]
      simp only [List.getElem_map]
    have hok := swapsGo_ok (looksOf hs) k (by omega)
    generalize hF : swapsGo (looksOf hs) ((looksOf hs).take k) [[]] = F at *
    generalize hs[k] = hh at *
    obtain ⟨g, s, l⟩ := hh
    unfold hD
    walk_at "vc"
    refine ws_forN (fun ds i e => ∃ (L : List (List Nat)) (x6 x7 : Sl), L = (F.take i).flatMap (nextS (looksOf hs) l) ∧ e = [.val (.tuple (hs.map hD)), .val (.list (F.map tO)), .val (.int g), .val (.int s), .val (.str l), .own true (L.map tO), x6, x7]) ?_
    walk_at "vc"
    refine ⟨⟨[], _, _, by simp, rfl⟩, ?_, ?_⟩
    · rintro i d e hi hd ⟨L, x6, x7, hL, rfl⟩
      rw [List.length_map] at hi
      have hd2 : d = tO F[i] := by
        rw [List.getElem?_map, List.getElem?_eq_getElem hi] at hd
        exact (Option.some.inj hd).symm
      subst hd2
      clear hd
      have hLl := flatMap_len (f := nextS (looksOf hs) l) (n := 5) (l := F.take i) fun x _ => by have := nextS_len (looksOf hs) l x; omega
      rw [← hL, List.length_take] at hLl
      have hFi := hok F[i] (List.getElem_mem _)
      have hLs : (F.take (i + 1)).flatMap (nextS (looksOf hs) l) = L ++ nextS (looksOf hs) l F[i] := by
        rw [List.take_succ_eq_append_getElem hi, List.flatMap_append, ← hL]
        simp
      rw [hLs]
      generalize F[i] = o at *
      walk_at "vc"
      refine ws_forN (fun ds j e => ∃ x7 : Sl, e = [.val (.tuple (hs.map hD)), .val (.list (F.map tO)), .val (.int g), .val (.int s), .val (.str l), .own true ((L ++ (((List.range j).filter fun j => decide (j ∉ o) && decide ((looksOf hs)[j]? = some l)).map fun j => o ++ [j])).map tO), .val (tO o), x7]) ?_
      walk_at "vc"
      refine ⟨⟨x7, by simp⟩, ?_, ?_⟩
      · rintro j d e hj hd ⟨x7, rfl⟩
        rw [irange_length] at hj
        have hjh : j < hs.length := by simpa using hj
        have hd2 : d = .int (j : Int) := by
          unfold irange at hd
          rw [List.getElem?_map, List.getElem?_range (by simpa using hj)] at hd
          simpa using (Option.some.inj hd).symm
        subst hd2
        have hjl : (looksOf hs)[j]? = some hs[j].2.2 := by
          rw [List.getElem?_map, List.getElem?_eq_getElem hjh]
          rfl
        have hfl := List.length_filter_le (fun j => decide (j ∉ o) && decide ((looksOf hs)[j]? = some l)) (List.range j)
        rw [List.length_range] at hfl
        rw [List.range_succ, List.filter_append]
        walk_at "vc"
        refine wo_niO ?_
        walk_at "vc"
        · rename_i hno
          refine wo_idxHs hjh ?_
          walk_at "vc"
          refine wo_eqS (hk _ (List.getElem_mem _)) hlk ?_
          walk_at "vc"
          · rename_i hl
            refine wo_addO (by omega) ?_
            walk_at "vc"
            refine wo_app (fits_of (by rw [List.length_map, List.length_append, List.length_map]; omega)) ?_
            walk_at "vc"
            refine ⟨.val (.int (j : Int)), ?_⟩
            simp [hjl, hl, hno]
          · rename_i hl
            refine ⟨.val (.int (j : Int)), ?_⟩
            simp [hjl, hl]
        · rename_i hno
          refine ⟨.val (.int (j : Int)), ?_⟩
          simp at hno
          simp [hno]
      · rintro e ⟨x7, rfl⟩
        refine ⟨_, .val (tO o), x7, rfl, ?_⟩
        rw [irange_length]
        simp [nextS]
    · rintro e ⟨L, x6, x7, hL, rfl⟩
      rw [List.length_map, List.take_length] at hL
      walk_at "vc"
      dsimp only at hnx
      rw [hnx, ← hL]
      exact ⟨_, _, _, _, _, _, rfl⟩
  · rintro e ⟨x2, x3, x4, x5, x6, x7, rfl⟩
    walk_at "vc"
    rw [List.length_map, List.take_of_length_le (by simp)]
    exact q _

theorem readings_w {m : Int} {hs : List Hd} {bl mir : Bool} {Q : D → List Sl → Prop} (hn : hs.length ≤ 5) (hk : ∀ h ∈ hs, isLk h.2.2) (q : ∀ x, Q (.list ((readOf hs mir).map rD)) [x]) :
    WG g_readings_of [.val (clockD m hs bl mir)] Q := by
  refine wg_run rfl ?_
  unfold b_readings_of
  walk_at "vc"
  refine ws_forN (fun ds k e => ∃ x2 : Sl, e = [.val (clockD m hs bl mir), .own true ((readL mir ((swapsL (looksOf hs)).take k)).map rD), x2]) ?_
  walk_at "vc"
  refine swaps_w hn hk fun _ => ?_
  walk_at "vc"
  have hsl := swapsGo_len (looksOf hs) (by rw [List.length_map]; omega) hs.length (by rw [List.length_map]; omega)
  rw [List.take_of_length_le (by rw [List.length_map]; omega)] at hsl
  have h5 := pow5 hn
  have hsl2 : (swapsL (looksOf hs)).length ≤ 3125 := Nat.le_trans hsl h5
  refine ⟨⟨_, rfl⟩, ?_, ?_⟩
  · rintro k d e hkl hd ⟨x2, rfl⟩
    rw [List.length_map] at hkl
    have hd2 : d = tO (swapsL (looksOf hs))[k] := by
      rw [List.getElem?_map, List.getElem?_eq_getElem hkl] at hd
      exact (Option.some.inj hd).symm
    subst hd2
    clear hd
    rw [List.take_succ_eq_append_getElem hkl, readL_snoc]
    have hrl := readL_len mir ((swapsL (looksOf hs)).take k)
    rw [List.length_take] at hrl
    generalize (swapsL (looksOf hs))[k] = o at *
    walk_at "vc"
    cases mir
    · walk_at "vc"
      exact ⟨.val (tO o), by simp [rD]⟩
    · walk_at "vc"
      exact ⟨.val (tO o), by simp [rD]⟩
  · rintro e ⟨x2, rfl⟩
    walk_at "vc"
    rw [List.length_map, List.take_length]
    exact q _

theorem rows_w {m : Int} {hs : List Hd} {bl mir : Bool} {r : Rd} {Q : D → List Sl → Prop} (hm : 0 < m) (hm2 : m ≤ 10 ^ 60) (h1 : 1 ≤ hs.length) (hn : hs.length ≤ 5) (ho : SwOk hs.length r.1) (hk : HandsOk m hs) (q : ∀ x y, Q (.list ((rowsL m hs bl r).map rwD)) [x, y]) :
    WG g_rows_of [.val (clockD m hs bl mir), .val (rD r)] Q := by
  obtain ⟨o, rv⟩ := r
  have hol : o.length = hs.length := ho.len
  refine wg_run rfl ?_
  unfold b_rows_of rD tO
  walk_at "vc"
  have hsg : (1 : Int) - 2 * (if rv then 1 else 0) = sgn rv := by cases rv <;> rfl
  have hsg2 : sgn rv = 1 ∨ sgn rv = -1 := by cases rv; exact .inl rfl; exact .inr rfl
  rw [hsg]
  refine ws_forN (fun ds k e => ∃ x10 x11 x12 x13 : Sl, e = [.val (clockD m hs bl mir), .val (rD (o, rv)), .val (.int m), .val (.tuple (hs.map hD)), .val (.bool bl), .val (.bool mir), .val (tO o), .val (.bool rv), .val (.int (sgn rv)), .own true (((rows0 m hs (o, rv)).take k).map rwD), x10, x11, x12, x13, .no, .no, .no]) ?_
  refine wl_zip ?_
  walk_at "vc"
  refine ⟨_, _, .inr ⟨rfl, rfl⟩, ?_⟩
  have hrl : (rows0 m hs (o, rv)).length = hs.length := by unfold rows0; rw [List.length_zipWith]; show min o.length hs.length = _; omega
  refine ⟨⟨_, _, _, _, rfl⟩, ?_, ?_⟩
  · rintro k d e hkl hd ⟨x10, x11, x12, x13, rfl⟩
    rw [M.pairs_len, List.length_map, List.length_map] at hkl
    have hko : k < o.length := by omega
    have hkh : k < hs.length := by omega
    obtain ⟨x, y, e1, e2, rfl⟩ := pairs_get hd
    rw [List.getElem?_map, List.getElem?_eq_getElem hko] at e1
    rw [List.getElem?_map, List.getElem?_eq_getElem hkh] at e2
    cases e1; cases e2
    have hj := ho.lt o[k] (List.getElem_mem _)
    have hok := hk hs[k] (List.getElem_mem _)
    rw [List.take_succ_eq_append_getElem (show k < (rows0 m hs (o, rv)).length by omega)]
    have hrk : (rows0 m hs (o, rv))[k]'(by omega) = row1 m hs rv o[k] hs[k] := by unfold rows0; rw [List.getElem_zipWith]
    rw [hrk]
    unfold row1
    rw [getD_eq hj]
    generalize hs[k] = hh at *
    generalize o[k] = j at *
    have hjk := hk hs[j] (List.getElem_mem _)
    generalize hy : hs[j] = hg at *
    generalize sgn rv = sg at *
    have hln := List.length_take_le k (rows0 m hs (o, rv))
    unfold hD
    walk_at "vc"
    refine wo_idxHs hj ?_
    rw [hy]
    unfold hD
    walk_at "vc"
    refine wo_idxHs hj ?_
    rw [hy]
    unfold hD
    walk_at "vc"
    refine ⟨_, _, _, _, by simp [rwD]; exact ⟨rfl, rfl, rfl, rfl⟩⟩
  · rintro e ⟨x10, x11, x12, x13, rfl⟩
    rw [M.pairs_len, List.length_map, List.length_map, List.take_of_length_le (by omega)]
    generalize hR : rows0 m hs (o, rv) = R at *
    cases bl
    · have : rowsL m hs false (o, rv) = R := by unfold rowsL; rw [hR]; rfl
      rw [this] at q
      walk_at "vc"
      exact q _ _
    · have : rowsL m hs true (o, rv) = R.tail.map (fun x => lessR m x (R.headD (0, 0, 0))) := by unfold rowsL; rw [hR]; rfl
      rw [this] at q
      obtain ⟨r0, R', rfl⟩ : ∃ r0 R', R = r0 :: R' := by
        cases R with
        | nil => simp at hrl; omega
        | cons r0 R' => exact ⟨r0, R', rfl⟩
      walk_at "vc"
      rw [List.map_cons]
      refine wl_compP (fun _ _ => true) (fun _ => mapR fun x => lessR m x r0) ?_
      walk_at "vc"
      rw [cut_one]
      refine ⟨rfl, fits_of (by simp at hrl ⊢; omega), fun d hd => ?_, ?_⟩
      · obtain ⟨x, _, rfl⟩ := List.mem_map.mp hd
        unfold rwD
        walk_at "vc"
        refine ⟨rfl, ?_⟩
        walk_at "vc"
        refine wl_compU [.tuple [.int x.1, .int r0.1], .tuple [.int x.2.1, .int r0.2.1], .tuple [.int x.2.2, .int r0.2.2]] ?_
        refine wl_zip ?_
        walk_at "vc"
        refine wo_hd ?_
        walk_at "vc"
        refine ⟨_, _, .inr ⟨rfl, rfl⟩, rfl, rfl, rfl, ?_⟩
        walk_at "vc"
        exact ⟨rfl, rfl⟩
      · rw [filter_yes, mapR_rows]
        walk_at "vc"
        exact q _ _

theorem times2_w {b : D} {bs ns : List Int} {Q : D → List Sl → Prop} (hbd : seqD b = some (bs.map .int)) (hl : bs.length ≤ 100) (hb : ∀ b ∈ bs, b.natAbs ≤ 10 ^ 130) (hn : ∀ n ∈ ns, n.natAbs ≤ 10 ^ 130) (q : ∀ x y, Q (.int (dot bs ns)) [x, y]) :
    WG g_times_all [.val b, .val (.list (ns.map .int))] Q := by
  refine wg_run rfl ?_
  unfold b_times_all
  walk_at "vc"
  refine wl_compP (fun _ _ => true) (fun _ => mapT fun w d => w * d) ?_
  refine wl_zipA ?_
  walk_at "vc"
  refine ⟨_, _, hbd, rfl, rfl, fits_of (by rw [pairs_ints, List.length_map, List.length_zip]; omega), fun d hd' => ?_, ?_⟩
  · rw [pairs_ints] at hd'
    obtain ⟨⟨w, n⟩, h1, rfl⟩ := List.mem_map.mp hd'
    have h2 := hb w (List.of_mem_zip h1).1
    have h3 := hn n (List.of_mem_zip h1).2
    walk_at "vc"
    exact ⟨rfl, by walk_at "vc"; exact ⟨rfl, rfl⟩⟩
  · rw [filter_yes, mapT_pairs]
    walk_at "vc"
    refine wo_sum rfl ?_
    rw [dot_sum1]
    exact q _ _
theorem times_w {bs ns : List Int} {Q : D → List Sl → Prop} (hl : bs.length ≤ 100) (hb : ∀ b ∈ bs, b.natAbs ≤ 10 ^ 130) (hn : ∀ n ∈ ns, n.natAbs ≤ 10 ^ 130) (q : ∀ x y, Q (.int (dot bs ns)) [x, y]) :
    WG g_times_all [.val (.list (bs.map .int)), .val (.list (ns.map .int))] Q := times2_w rfl hl hb hn q
theorem cleared_w {m : Int} {ns : List Int} {Q : D → List Sl → Prop} (hm : 0 < m) (hm2 : m ≤ 10 ^ 60) (hl : ns.length ≤ 10) (hn : ∀ n ∈ ns, 0 ≤ n ∧ n < m) (q : ∀ rows ws g x y, Cleared2 m ns rows ws g → Q (.tuple [.list (rows.map lsD), .list (ws.map .int), .int g]) [x, y]) :
    WG g_cleared_of [.val (.int m), .val (.list (ns.map .int))] Q := by
  refine wg_run rfl ?_
  unfold b_cleared_of
  walk_at "vc"
  refine weights_w hm (by omega) (by omega) fun g ws _ _ W => ?_
  have hg := W.pos
  have hwl := W.len
  have hgm := Int.le_of_dvd hm W.dm
  have hmg2 : m / g ≤ m := Int.ediv_le_self _ (by omega)
  have hmg0 : 0 ≤ m / g := Int.ediv_nonneg (by omega) (by omega)
  walk_at "vc"
  refine ws_forN (fun _ k e => ∃ (rows : List (List Int)) (x5 x6 x7 : Sl), rows.length = k ∧ (∀ r ∈ rows, r.length = ns.length ∧ m ∣ dot r ns ∧ ∀ x ∈ r, x.natAbs ≤ 10 ^ 121) ∧ (∀ es : List Int, es.length = ns.length → (∀ r ∈ rows, m ∣ dot r es) → ∀ j (h1 : j < ns.length) (h2 : j < es.length), j < k → m ∣ es[j] - ns[j] / g * dot ws es) ∧ e = [.val (.int m), .val (.list (ns.map .int)), .val (.int g), .val (.list (ws.map .int)), .own true (rows.map lsD), x5, x6, x7, .no, .no]) ?_
  walk_at "vc"
  refine ⟨⟨[], _, _, _, rfl, fun r hr => (by cases hr), fun _ _ _ _ _ _ h => absurd h (Nat.not_lt_zero _), rfl⟩, ?_, ?_⟩
  · rintro k d e hkl hd ⟨rows, x5, x6, x7, hrl, hrows, hsol, rfl⟩
    obtain ⟨hk, rfl⟩ := enum_at hd
    have hnk := hn ns[k] (List.getElem_mem _)
    have ht0 : 0 ≤ ns[k] / g := Int.ediv_nonneg hnk.1 (by omega)
    have ht1 : ns[k] / g ≤ ns[k] := Int.ediv_le_self _ hnk.1
    have hdr := dot_row W hk
    walk_at "vc"
    refine wl_compP (fun _ _ => true) (fun _ => mapT fun i w => indI (k : Int) i - ns[k] / g * w) ?_
    walk_at "vc"
    refine ⟨rfl, fits_of (by rw [List.length_map, M.pairs_len, irange_length, List.length_map]; omega), fun d hd' => ?_, ?_⟩
    · rw [List.length_map, irange_ints0, pairs_ints] at hd'
      obtain ⟨⟨i, w⟩, h1, rfl⟩ := List.mem_map.mp hd'
      have h2 := W.rng w (List.of_mem_zip h1).2
      walk_at "vc"
      refine ⟨rfl, ?_⟩
      walk_at "vc"
      exact ⟨rfl, rfl⟩
    · rw [filter_yes, List.length_map, irange_ints0, mapT_pairs]
      walk_at "vc"
      refine ⟨rows ++ [List.zipWith (fun i w => indI (k : Int) i - ns[k] / g * w) (natsI ws.length) ws], _, _, _, by rw [List.length_append, hrl]; rfl, fun r hr => ?hA, fun es hes hr j h1 h2 h3 => ?hB, by rw [List.map_append]; rfl⟩
      case hB =>
        by_cases hjk : j = k
        · subst hjk
          have := hr _ (List.mem_append_right _ (List.mem_singleton_self _))
          rw [dot_rowE (by omega) h2] at this
          exact this
        · exact hsol es hes (fun r hm => hr r (List.mem_append_left _ hm)) j h1 h2 (by omega)
      rcases List.mem_append.mp hr with hr | hr
      · exact hrows r hr
      · rw [List.mem_singleton] at hr
        subst hr
        rw [hwl]
        refine ⟨by rw [List.length_zipWith, natsI_len, hwl, Nat.min_self], hdr, fun x hx => ?_⟩
        obtain ⟨i, hi, rfl⟩ := List.mem_iff_getElem.mp hx
        rw [List.getElem_zipWith]
        have hiw : i < ws.length := by rw [List.length_zipWith] at hi; omega
        have hw := W.rng ws[i] (List.getElem_mem _)
        have h5 := mul_le2 ht0 hw.1 (show ns[k] / g ≤ 10 ^ 60 by omega) (show ws[i] ≤ 10 ^ 60 by omega)
        have h6 := Int.mul_nonneg ht0 hw.1
        generalize ns[k] / g * ws[i] = z at *
        unfold indI
        split <;> omega
  · rintro e ⟨rows, x5, x6, x7, hrl, hrows, hsol, rfl⟩
    rw [M.pairs_len, irange_length, List.length_map, Nat.min_self] at hrl hsol
    walk_at "vc"
    refine wl_compP (fun _ _ => true) (fun _ => mapI fun w => m / g * w) ?_
    walk_at "vc"
    refine ⟨rfl, fits_of (by rw [List.length_map]; omega), fun d hd' => ?_, ?_⟩
    · obtain ⟨w, h1, rfl⟩ := List.mem_map.mp hd'
      have h2 := W.rng w h1
      walk_at "vc"
      exact ⟨rfl, by walk_at "vc"; exact ⟨rfl, rfl⟩⟩
    · rw [filter_yes, mapI_ints]
      walk_at "vc"
      have e : (rows.map lsD ++ [PyData.list ((ws.map fun w => m / g * w).map .int)]) = (rows ++ [ws.map fun w => m / g * w]).map lsD := by rw [List.map_append]; rfl
      rw [e]
      refine q _ _ _ _ _ ⟨⟨W, by rw [List.length_append, hrl]; rfl, fun r hr => ?hA2⟩, fun es hes hr => ?hB2⟩
      case hB2 =>
        refine solve_of hm W hes (fun j h1 h2 => hsol es hes (fun r hm => hr r (List.mem_append_left _ hm)) j h1 h2 h1) ?_
        have := hr _ (List.mem_append_right _ (List.mem_singleton_self _))
        rw [dot_scale] at this
        exact this
      rcases List.mem_append.mp hr with hr | hr
      · exact hrows r hr
      · rw [List.mem_singleton] at hr
        subst hr
        refine ⟨by rw [List.length_map, hwl], ?_, fun x hx => ?_⟩
        · rw [dot_scale]
          obtain ⟨c, hc⟩ := W.dot
          have hmm : g * (m / g) = m := Int.mul_ediv_cancel' W.dm
          generalize m / g = z at *
          exact ⟨1 + z * c, by grind⟩
        · obtain ⟨w, hw, rfl⟩ := List.mem_map.mp hx
          have hw := W.rng w hw
          have h5 := mul_le2 hmg0 hw.1 (show m / g ≤ 10 ^ 60 by omega) (show w ≤ 10 ^ 60 by omega)
          have h6 := Int.mul_nonneg hmg0 hw.1
          generalize m / g * w = z at *
          omega
theorem put_w {m : Int} {row : List Int} {rows : List (List Int)} {n : Nat} {Q : D → List Sl → Prop} (hm : 0 < m) (hn : n ≤ 10) (h0 : rows ≠ []) (hrl : rows.length ≤ 10) (hl : row.length ≤ 100) (hb : ∀ b ∈ row, b.natAbs ≤ 10 ^ 130) (hr : ∀ r ∈ rows, r.length = n ∧ ∀ x ∈ r, x.natAbs ≤ 10 ^ 121) (q : ∀ x y z, Q (.tuple (((putL n row rows).map fun x => x % m).map .int)) [x, y, z]) :
    WG g_put_together [.val (.int m), .val (.list (row.map .int)), .val (.list (rows.map lsD))] Q := by
  obtain ⟨r0, rs, rfl⟩ : ∃ r0 rs, rows = r0 :: rs := by
    cases rows with
    | nil => exact absurd rfl h0
    | cons a l => exact ⟨a, l, rfl⟩
  have hr0 := (hr r0 List.mem_cons_self).1
  refine wg_run rfl ?_
  unfold b_put_together
  rw [List.map_cons]
  walk_at "vc"
  refine wl_compP (fun _ _ => true) (fun _ => bolNum fun k => dot row ((r0 :: rs).map fun r => (r[k.toNat]?).getD 0) % m) ?_
  walk_at "vc"
  refine wo_hd ?_
  walk_at "vc"
  refine ⟨rfl, fits_of (by rw [irange_length, List.length_map]; omega), fun d hd => ?_, ?_⟩
  · obtain ⟨i, rfl, hi0, hi1⟩ := irange_zero hd
    rw [List.length_map] at hi1
    have hi2 : i.toNat < n := by omega
    walk_at "vc"
    refine ⟨rfl, ?_⟩
    walk_at "vc"
    refine wl_compP (fun _ _ => true) (fun _ d => .int (((intsD d)[i.toNat]?).getD 0)) ?_
    walk_at "vc"
    rw [← List.map_cons (f := lsD)]
    refine ⟨rfl, fits_of (by rw [List.length_map]; omega), fun d hd => ?_, ?_⟩
    · obtain ⟨r, hrm, rfl⟩ := List.mem_map.mp hd
      have hrn := (hr r hrm).1
      walk_at "vc"
      refine ⟨rfl, ?_⟩
      walk_at "vc"
      refine wo_idxL hi0 (by rw [List.length_map]; omega) fun d hd _ => ?_
      rw [List.getElem?_map] at hd
      obtain ⟨x, hx, rfl⟩ := Option.map_eq_some_iff.mp hd
      rw [intsD_ints, hx]
      exact ⟨rfl, rfl⟩
    · rw [filter_yes]
      have e : ((r0 :: rs).map lsD).map (fun d => PyData.int (((intsD d)[i.toNat]?).getD 0)) = ((r0 :: rs).map fun r => (r[i.toNat]?).getD 0).map .int := by
        rw [List.map_map, List.map_map]
        exact List.map_congr_left fun r _ => by show PyData.int (((intsD (lsD r))[i.toNat]?).getD 0) = _; rw [intsD_ints]; rfl
      rw [e]
      walk_at "vc"
      refine times_w hl hb (fun x hx => ?_) fun _ _ => ?_
      · obtain ⟨r, hrm, rfl⟩ := List.mem_map.mp hx
        cases hx : r[i.toNat]? with
        | none => show (0 : Int).natAbs ≤ _; omega
        | some x =>
          have := (hr r hrm).2 x (List.mem_of_getElem? hx)
          show x.natAbs ≤ _
          omega
      · walk_at "vc"
        exact ⟨rfl, rfl⟩
  · rw [filter_yes]
    have e : (irange 0 (List.length (r0.map PyData.int) : Int).toNat).map (bolNum fun k => dot row ((r0 :: rs).map fun r => (r[k.toNat]?).getD 0) % m) = ((putL n row (r0 :: rs)).map fun x => x % m).map .int := by
      rw [List.length_map, Int.toNat_natCast, hr0]
      unfold putL irange
      rw [List.map_map, List.map_map, List.map_map]
      refine List.map_congr_left fun k _ => ?_
      show PyData.int (dot row ((r0 :: rs).map fun r => (r[((0 : Int) + (k : Int)).toNat]?).getD 0) % m) = _
      rw [show ((0 : Int) + (k : Int)).toNat = k by omega]
      rfl
    rw [e]
    walk_at "vc"
    exact q _ _ _

end Lw

namespace M
open PySem PySem.Spec PyProof.Rows L2
def thdR : D → D
  | .tuple [_, _, c] => c
  | d => d
theorem thdR_rows (rs : List Rw) : (rs.map rwD).map thdR = (rs.map fun r => r.2.2).map .int := by
  rw [List.map_map, List.map_map]
  rfl
def subR (m : Int) : D → D
  | .tuple [.int a, .int b, _] => .int ((a - b) % m)
  | d => d
theorem subR_rows (m : Int) (rs : List Rw) : (rs.map rwD).map (subR m) = (rs.map fun r => (r.1 - r.2.1) % m).map .int := by
  rw [List.map_map, List.map_map]
  rfl
end M

namespace Lw
open PySem PySem.Spec PyProof.Rows L2 M
local macro_rules | `(tactic| walk_at "sd") => `(tactic| (first | (with_reducible assumption) | omega | (simp; done) | (simp; omega) | decide))
local macro_rules | `(tactic| walk_at "v1") => `(tactic| (first | ((with_reducible show WE _ _ _); first | with_reducible refine we_callN ?_ | with_reducible refine we_c ?_ | with_reducible refine we_un ?_ | with_reducible refine we_bin ?_ | with_reducible refine we_chain ?_ | with_reducible refine we_and ?_ | with_reducible refine we_or ?_ | with_reducible refine we_not ?_ | with_reducible refine we_if ?_ | with_reducible refine we_fz ?_ | with_reducible refine we_tup ?_ | with_reducible refine we_sl ?_ | with_reducible refine we_tupRg ?_ | with_reducible refine we_bor ?_ | with_reducible refine we_call ?_ | with_reducible refine we_din ?_ | with_reducible refine we_borL ?_ | ((with_reducible apply we_v); (· rfl)) | ((with_reducible show WE (eO _) _ _); first | ((with_reducible apply we_oV); (· rfl)) | ((with_reducible apply we_oW); (· rfl)) | ((with_reducible apply we_oR); (· rfl))) | ((with_reducible show WE (eBinV _ _ _) _ _); first | ((with_reducible apply we_bV); (· rfl)) | ((with_reducible apply we_bVr); (· rfl)) | ((with_reducible apply we_bVv); (· rfl))) | ((with_reducible apply we_mut); (· rfl)) | ((with_reducible apply we_mut0); (· rfl)) | ((with_reducible apply we_dget2); (· rfl)) | ((with_reducible apply we_didx); (· rfl))) | ((with_reducible show WO _ _); first | ((with_reducible show WO (gIsO _ _) _); first | with_reducible refine wo_isON ?_ | ((with_reducible refine wo_isO (b := true) ?_ ?_); (· rfl)) | ((with_reducible refine wo_isO (b := false) ?_ ?_); (· rfl))) | with_reducible refine wo_attr ?_ | ((with_reducible show WO (valsA _) _); first | with_reducible refine vals_nil ?_ | with_reducible refine vals_v ?_) | with_reducible refine wo_isB ?_ | with_reducible refine wo_ntB ?_ | ((with_reducible show WO (backAr _ _ _) _); first | with_reducible refine back_nil ?_ | with_reducible refine back_v ?_ | with_reducible refine back_o ?_ | ((with_reducible apply back_r); (· rfl))) | ((with_reducible show WO (resArs _ _) _); first | with_reducible refine res_nil ?_ | with_reducible refine res_v ?_ | ((with_reducible apply res_r); (· rfl)) | ((with_reducible apply res_oO); (· rfl)) | ((with_reducible apply res_oR); (· rfl)) | ((with_reducible apply res_oV); (· rfl))) | ((with_reducible show WO (gAdd _ _) _); first | with_reducible refine wo_add ?_ | ((with_reducible refine wo_addL ?_ ?_); (· first | rfl | (apply fits_of; first | omega | (simp; omega)))) | ((with_reducible refine wo_addT ?_ ?_); (· first | rfl | (apply fits_of; first | omega | (simp; omega))))) | with_reducible refine wo_sub ?_ | with_reducible refine wo_neg ?_ | with_reducible refine wo_lt ?_ | with_reducible refine wo_le ?_ | with_reducible refine wo_gt ?_ | with_reducible refine wo_ge ?_ | ((with_reducible show WO (gEq _ _) _); first | with_reducible refine wo_eq ?_ | with_reducible refine wo_eqB ?_ | ((with_reducible refine wo_eqT ?_ ?_); (· decide +kernel)) | ((with_reducible refine wo_eqF ?_ ?_); (· decide +kernel))) | ((with_reducible show WO (gNe _ _) _); first | with_reducible refine wo_ne ?_ | with_reducible refine wo_neB ?_ | ((with_reducible refine wo_neT ?_ ?_); (· decide +kernel)) | ((with_reducible refine wo_neF ?_ ?_); (· decide +kernel))) | with_reducible refine wo_isN ?_ | with_reducible refine wo_ntN ?_ | ((with_reducible show WO (gLen _) _); first | with_reducible refine wo_lenL ?_ | with_reducible refine wo_lenT ?_) | with_reducible refine wo_abs ?_ | ((with_reducible show WO (gInt _) _); first | with_reducible refine wo_intB ?_ | with_reducible refine wo_intI ?_) | ((with_reducible show WO (gList _) _); first | with_reducible refine wo_listL ?_ | with_reducible refine wo_listT ?_) | ((with_reducible show WO (gTuple _) _); first | with_reducible refine wo_tupL ?_ | with_reducible refine wo_tupT ?_) | with_reducible refine wo_max ?_ | with_reducible refine wo_min ?_ | ((with_reducible show WO (gIsi _ _) _); first | with_reducible refine wo_isiI ?_ | with_reducible refine wo_isiB ?_ | ((with_reducible apply wo_isiE); (· rfl))) | ((with_reducible show WO (cutOf _ _ _) _); first | with_reducible refine wo_cutL ?_ | with_reducible refine wo_cutT ?_) | ((with_reducible show WO (gPow _ _) _); first | with_reducible refine wo_p10_60 ?_ | with_reducible refine wo_p10_18 ?_ | with_reducible refine wo_p10_30 ?_ | with_reducible refine wo_p2_24 ?_ | with_reducible refine wo_p10_8 ?_ | with_reducible refine wo_p10_19 ?_ | with_reducible refine wo_p10_55 ?_ | with_reducible refine wo_p10_59 ?_ | with_reducible refine wo_p3_30 ?_ | with_reducible refine wo_p2_40 ?_ | with_reducible refine wo_p10_54 ?_ | with_reducible refine wo_p3_13 ?_ | with_reducible refine wo_p2_20 ?_ | with_reducible refine wo_p10_57 ?_ | with_reducible refine wo_p10_40 ?_ | with_reducible refine wo_p10_61 ?_ | with_reducible refine wo_p10_50 ?_) | ((with_reducible apply wo_idxE); (· rfl)) | ((with_reducible apply wo_allE); (· rfl)) | ((with_reducible apply wo_anyE); (· rfl)) | ((with_reducible show WO (ixN _ _) _); first | ((with_reducible apply wo_ixE); (· rfl)) | ((with_reducible refine wo_ix ?_ ?_ ?_); (· walk_at "sd"); (· walk_at "sd"))) | ((with_reducible refine wo_mod ?_ ?_); (· walk_at "sd")) | ((with_reducible refine wo_div ?_ ?_ ?_); (· walk_at "sd"); (· walk_at "sd")) | ((with_reducible refine wo_mul ?_ ?_); (· first | exact mul_ok1 (by walk_at "sd") | exact mul_ok2 (by walk_at "sd") | exact mul_ok3 (by omega) (by omega))) | ((with_reducible refine wo_app ?_ ?_); (· first | rfl | (apply fits_of; first | omega | (simp; omega)))) | ((with_reducible refine wo_ext ?_ ?_); (· first | rfl | (apply fits_of; first | omega | (simp; omega))))) | ((with_reducible show WS _ _ _); first | with_reducible refine ws_try ?_ | with_reducible refine ws_retT ?_ | with_reducible refine ws_seq ?_ | with_reducible refine ws_expr ?_ | with_reducible refine ws_ret ?_ | with_reducible refine ws_retL ?_ | with_reducible refine ws_if ?_ | with_reducible refine ws_set ?_ | with_reducible refine ws_setO ?_ | with_reducible refine ws_asg ?_ | with_reducible refine ws_par ?_ | with_reducible refine ws_nil ?_ | with_reducible refine ws_retN ?_ | with_reducible refine ws_dput ?_ | with_reducible refine ws_dnew ?_ | ((with_reducible show WS (sFrz _ _) _ _); first | ((with_reducible apply ws_frz); (· rfl)) | ((with_reducible apply ws_frzV); (· rfl))) | ((with_reducible apply ws_retO); (· rfl)) | ((with_reducible apply ws_putI); (· rfl))) | ((with_reducible apply nrm_); (· (try simp only [wipeE, backE, List.set_cons_zero, List.set_cons_succ, List.getElem?_cons_zero, List.getElem?_cons_succ, List.cons_append, List.nil_append, List.replicate_succ, List.replicate_zero, Nat.reduceSub, unowns_nil, unowns_cons, unown_own, unown_val, unown_no, unown_ro, unown_dct]); rfl)) | ((with_reducible show IfB _ _ _); first | with_reducible refine ifb_not ?_ | with_reducible refine ifb_t ?_ | with_reducible refine ifb_f ?_ | ((with_reducible refine ifb_decT ?_ ?_); (· first | (with_reducible assumption) | omega | (simp only [List.length_cons, List.length_nil]; omega))) | ((with_reducible refine ifb_decF ?_ ?_); (· first | (with_reducible assumption) | omega | (simp only [List.length_cons, List.length_nil]; omega))) | with_reducible refine ifb_dec (fun _ => ?_) (fun _ => ?_) | ((with_reducible apply ifb_eT); (· rfl)) | ((with_reducible apply ifb_eF); (· rfl))) | ((with_reducible show WB _ _ _); first | with_reducible refine wb_bor ?_ | with_reducible refine wb_v ?_ | with_reducible refine wb_and ?_ | with_reducible refine wb_or ?_ | with_reducible refine wb_not ?_ | with_reducible refine wb_yes ?_) | with_reducible refine isb ?_ | ((with_reducible show WL _ _ _); first | with_reducible refine wl_nil ?_ | with_reducible refine wl_cons ?_ | with_reducible refine wl_lst ?_ | with_reducible refine wl_un ?_ | with_reducible refine wl_it ?_ | with_reducible refine wl_rng1 ?_ | with_reducible refine wl_rng2 ?_ | with_reducible refine wl_enum ?_ | with_reducible refine wl_enumA ?_ | with_reducible refine wl_addE ?_ | with_reducible refine wl_rg1 ?_ | with_reducible refine wl_bor ?_ | with_reducible refine wl_call ?_ | ((with_reducible apply wl_addO); (· rfl)) | ((with_reducible show WL (lSlV _ _ _) _ _); first | ((with_reducible apply wl_slO); (· rfl)) | ((with_reducible apply wl_slR); (· rfl)))) | ((with_reducible show WA _ _ _); first | with_reducible refine wa_nil ?_ | with_reducible refine wa_v ?_ | ((with_reducible apply wa_r); (· rfl)) | ((with_reducible show WA (aO _ _) _ _); first | ((with_reducible apply wa_oR); (· rfl)) | ((with_reducible apply wa_oO); (· rfl)) | ((with_reducible apply wa_oV); (· rfl)))) | ((with_reducible show IsS _ _); first | with_reducible refine iss_l ?_ | with_reducible refine iss_t ?_) | ((with_reducible refine fit_ ?_ ?_); (· first | rfl | (apply fits_of; first | omega | (simp; omega)))) | ((with_reducible show CallG _ _ _ _); first | ((with_reducible apply cg0); (· rfl)) | ((with_reducible apply cg1); (· rfl); (· rfl))) | ((with_reducible show WT _ _ _ _); first | with_reducible refine wt_n ?_ | ((with_reducible apply wt_t); (· rfl)) | ((with_reducible apply wt_unl); (· rfl))) | ((with_reducible show WTs _ _ _ _); first | with_reducible refine wts_nil ?_ | with_reducible refine wts_cons ?_) | ((with_reducible apply own_); (· rfl)) | ((with_reducible refine sml_ ?_ ?_ ?_); (· walk_at "sd"); (· walk_at "sd")) | with_reducible refine isi_ ?_ | ((with_reducible show WSX _ _ _); first | with_reducible refine wsx_lift ?_ | with_reducible refine wsx_seq ?_ | with_reducible refine wsx_if ?_ | with_reducible refine wsx_raise0 ?_ | with_reducible refine wsx_expr ?_ | with_reducible refine wsx_ret ?_ | with_reducible refine wsx_set ?_) | with_reducible refine wex_call ?_ | ((with_reducible show WPu _ _ _ _); first | with_reducible refine wpu_nil ?_ | with_reducible refine wpu_seq ?_ | with_reducible refine wpu_ret ?_ | with_reducible refine wpu_if ?_) | ((with_reducible show WTd _ _ _ _ _); first | with_reducible refine wtd_P ?_ | with_reducible refine wtd_G ?_ | with_reducible refine wtd_If ?_ | ((with_reducible refine wtd_K ?_ ?_); (· exact ⟨rfl, by decide⟩)) | ((with_reducible refine wtd_U ?_ ?_); (· exact ⟨rfl, by decide⟩)) | ((with_reducible refine wtd_C ?_ ?_); (· rfl)) | ((with_reducible refine wtd_A ?_ ?_ ?_); (· rfl); (· first | rfl | (apply fits_of; first | omega | (simp; omega))))) | with_reducible refine two_ ?_ | ((with_reducible show WC _ _ _ _ _ _ _); first | with_reducible refine wc_nil ?_ | with_reducible refine wc_cons ?_) | ((with_reducible show WP _ _ _); first | with_reducible refine wp_no ?_ | with_reducible refine wp_e ?_) | with_reducible refine isl ?_ | ((with_reducible show RetT _ _ _); first | ((with_reducible apply retT1); (· rfl)) | ((with_reducible apply retT2); (· rfl))) | ((with_reducible show Any _ _); first | ((with_reducible apply any_o); (· rfl)) | ((with_reducible apply any_r); (· rfl))) | ((with_reducible show CallH _ _ _ _); first | ((with_reducible apply ch0); (· rfl)) | ((with_reducible apply ch1); (· rfl); (· rfl))) | ((with_reducible apply cgx0); (· rfl))))
local macro_rules | `(tactic| walk_at "v2") => `(tactic| (first | ((with_reducible show WE _ _ _); first | with_reducible refine we_callN ?_ | with_reducible refine we_c ?_ | with_reducible refine we_un ?_ | with_reducible refine we_bin ?_ | with_reducible refine we_chain ?_ | with_reducible refine we_and ?_ | with_reducible refine we_or ?_ | with_reducible refine we_not ?_ | with_reducible refine we_if ?_ | with_reducible refine we_fz ?_ | with_reducible refine we_tup ?_ | with_reducible refine we_sl ?_ | with_reducible refine we_tupRg ?_ | with_reducible refine we_bor ?_ | with_reducible refine we_call ?_ | with_reducible refine we_din ?_ | with_reducible refine we_borL ?_ | ((with_reducible apply we_v); (· rfl)) | ((with_reducible show WE (eO _) _ _); first | ((with_reducible apply we_oV); (· rfl)) | ((with_reducible apply we_oW); (· rfl)) | ((with_reducible apply we_oR); (· rfl))) | ((with_reducible show WE (eBinV _ _ _) _ _); first | ((with_reducible apply we_bV); (· rfl)) | ((with_reducible apply we_bVr); (· rfl)) | ((with_reducible apply we_bVv); (· rfl))) | ((with_reducible apply we_mut); (· rfl)) | ((with_reducible apply we_mut0); (· rfl)) | ((with_reducible apply we_dget2); (· rfl)) | ((with_reducible apply we_didx); (· rfl))) | ((with_reducible show WO _ _); first | ((with_reducible show WO (gIsO _ _) _); first | with_reducible refine wo_isON ?_ | ((with_reducible refine wo_isO (b := true) ?_ ?_); (· rfl)) | ((with_reducible refine wo_isO (b := false) ?_ ?_); (· rfl))) | with_reducible refine wo_attr ?_ | ((with_reducible show WO (valsA _) _); first | with_reducible refine vals_nil ?_ | with_reducible refine vals_v ?_) | with_reducible refine wo_isB ?_ | with_reducible refine wo_ntB ?_ | ((with_reducible show WO (backAr _ _ _) _); first | with_reducible refine back_nil ?_ | with_reducible refine back_v ?_ | with_reducible refine back_o ?_ | ((with_reducible apply back_r); (· rfl))) | ((with_reducible show WO (resArs _ _) _); first | with_reducible refine res_nil ?_ | with_reducible refine res_v ?_ | ((with_reducible apply res_r); (· rfl)) | ((with_reducible apply res_oO); (· rfl)) | ((with_reducible apply res_oR); (· rfl)) | ((with_reducible apply res_oV); (· rfl))) | ((with_reducible show WO (gAdd _ _) _); first | with_reducible refine wo_add ?_ | ((with_reducible refine wo_addL ?_ ?_); (· first | rfl | (apply fits_of; first | omega | (simp; omega)))) | ((with_reducible refine wo_addT ?_ ?_); (· first | rfl | (apply fits_of; first | omega | (simp; omega))))) | with_reducible refine wo_sub ?_ | with_reducible refine wo_neg ?_ | with_reducible refine wo_lt ?_ | with_reducible refine wo_le ?_ | with_reducible refine wo_gt ?_ | with_reducible refine wo_ge ?_ | ((with_reducible show WO (gEq _ _) _); first | with_reducible refine wo_eq ?_ | with_reducible refine wo_eqB ?_ | ((with_reducible refine wo_eqT ?_ ?_); (· decide +kernel)) | ((with_reducible refine wo_eqF ?_ ?_); (· decide +kernel))) | ((with_reducible show WO (gNe _ _) _); first | with_reducible refine wo_ne ?_ | with_reducible refine wo_neB ?_ | ((with_reducible refine wo_neT ?_ ?_); (· decide +kernel)) | ((with_reducible refine wo_neF ?_ ?_); (· decide +kernel))) | with_reducible refine wo_isN ?_ | with_reducible refine wo_ntN ?_ | ((with_reducible show WO (gLen _) _); first | with_reducible refine wo_lenL ?_ | with_reducible refine wo_lenT ?_) | with_reducible refine wo_abs ?_ | ((with_reducible show WO (gInt _) _); first | with_reducible refine wo_intB ?_ | with_reducible refine wo_intI ?_) | ((with_reducible show WO (gList _) _); first | with_reducible refine wo_listL ?_ | with_reducible refine wo_listT ?_) | ((with_reducible show WO (gTuple _) _); first | with_reducible refine wo_tupL ?_ | with_reducible refine wo_tupT ?_) | with_reducible refine wo_max ?_ | with_reducible refine wo_min ?_ | ((with_reducible show WO (gIsi _ _) _); first | with_reducible refine wo_isiI ?_ | with_reducible refine wo_isiB ?_ | ((with_reducible apply wo_isiE); (· rfl))) | ((with_reducible show WO (cutOf _ _ _) _); first | with_reducible refine wo_cutL ?_ | with_reducible refine wo_cutT ?_) | ((with_reducible show WO (gPow _ _) _); first | with_reducible refine wo_p10_60 ?_ | with_reducible refine wo_p10_18 ?_ | with_reducible refine wo_p10_30 ?_ | with_reducible refine wo_p2_24 ?_ | with_reducible refine wo_p10_8 ?_ | with_reducible refine wo_p10_19 ?_ | with_reducible refine wo_p10_55 ?_ | with_reducible refine wo_p10_59 ?_ | with_reducible refine wo_p3_30 ?_ | with_reducible refine wo_p2_40 ?_ | with_reducible refine wo_p10_54 ?_ | with_reducible refine wo_p3_13 ?_ | with_reducible refine wo_p2_20 ?_ | with_reducible refine wo_p10_57 ?_ | with_reducible refine wo_p10_40 ?_ | with_reducible refine wo_p10_61 ?_ | with_reducible refine wo_p10_50 ?_) | ((with_reducible apply wo_idxE); (· rfl)) | ((with_reducible apply wo_allE); (· rfl)) | ((with_reducible apply wo_anyE); (· rfl)) | ((with_reducible show WO (ixN _ _) _); first | ((with_reducible apply wo_ixE); (· rfl)) | ((with_reducible refine wo_ix ?_ ?_ ?_); (· walk_at "sd"); (· walk_at "sd"))) | ((with_reducible refine wo_mod ?_ ?_); (· walk_at "sd")) | ((with_reducible refine wo_div ?_ ?_ ?_); (· walk_at "sd"); (· walk_at "sd")) | ((with_reducible refine wo_mul ?_ ?_); (· first | exact mul_ok1 (by walk_at "sd") | exact mul_ok2 (by walk_at "sd") | exact mul_ok3 (by omega) (by omega))) | ((with_reducible refine wo_app ?_ ?_); (· first | rfl | (apply fits_of; first | omega | (simp; omega)))) | ((with_reducible refine wo_ext ?_ ?_); (· first | rfl | (apply fits_of; first | omega | (simp; omega))))) | ((with_reducible show WS _ _ _); first | with_reducible refine ws_try ?_ | with_reducible refine ws_retT ?_ | with_reducible refine ws_seq ?_ | with_reducible refine ws_expr ?_ | with_reducible refine ws_ret ?_ | with_reducible refine ws_retL ?_ | with_reducible refine ws_set ?_ | with_reducible refine ws_setO ?_ | with_reducible refine ws_asg ?_ | with_reducible refine ws_par ?_ | with_reducible refine ws_nil ?_ | with_reducible refine ws_retN ?_ | with_reducible refine ws_dput ?_ | with_reducible refine ws_dnew ?_ | ((with_reducible show WS (sFrz _ _) _ _); first | ((with_reducible apply ws_frz); (· rfl)) | ((with_reducible apply ws_frzV); (· rfl))) | ((with_reducible apply ws_retO); (· rfl)) | ((with_reducible apply ws_putI); (· rfl))) | ((with_reducible apply nrm_); (· (try simp only [wipeE, backE, List.set_cons_zero, List.set_cons_succ, List.getElem?_cons_zero, List.getElem?_cons_succ, List.cons_append, List.nil_append, List.replicate_succ, List.replicate_zero, Nat.reduceSub, unowns_nil, unowns_cons, unown_own, unown_val, unown_no, unown_ro, unown_dct]); rfl)) | ((with_reducible show IfB _ _ _); first | with_reducible refine ifb_not ?_ | with_reducible refine ifb_t ?_ | with_reducible refine ifb_f ?_ | ((with_reducible refine ifb_decT ?_ ?_); (· first | (with_reducible assumption) | omega | (simp only [List.length_cons, List.length_nil]; omega))) | ((with_reducible refine ifb_decF ?_ ?_); (· first | (with_reducible assumption) | omega | (simp only [List.length_cons, List.length_nil]; omega))) | with_reducible refine ifb_dec (fun _ => ?_) (fun _ => ?_) | ((with_reducible apply ifb_eT); (· rfl)) | ((with_reducible apply ifb_eF); (· rfl))) | ((with_reducible show WB _ _ _); first | with_reducible refine wb_bor ?_ | with_reducible refine wb_v ?_ | with_reducible refine wb_and ?_ | with_reducible refine wb_or ?_ | with_reducible refine wb_not ?_ | with_reducible refine wb_yes ?_) | with_reducible refine isb ?_ | ((with_reducible show WL _ _ _); first | with_reducible refine wl_nil ?_ | with_reducible refine wl_cons ?_ | with_reducible refine wl_lst ?_ | with_reducible refine wl_un ?_ | with_reducible refine wl_it ?_ | with_reducible refine wl_rng1 ?_ | with_reducible refine wl_rng2 ?_ | with_reducible refine wl_enum ?_ | with_reducible refine wl_enumA ?_ | with_reducible refine wl_addE ?_ | with_reducible refine wl_rg1 ?_ | with_reducible refine wl_bor ?_ | with_reducible refine wl_call ?_ | ((with_reducible apply wl_addO); (· rfl)) | ((with_reducible show WL (lSlV _ _ _) _ _); first | ((with_reducible apply wl_slO); (· rfl)) | ((with_reducible apply wl_slR); (· rfl)))) | ((with_reducible show WA _ _ _); first | with_reducible refine wa_nil ?_ | with_reducible refine wa_v ?_ | ((with_reducible apply wa_r); (· rfl)) | ((with_reducible show WA (aO _ _) _ _); first | ((with_reducible apply wa_oR); (· rfl)) | ((with_reducible apply wa_oO); (· rfl)) | ((with_reducible apply wa_oV); (· rfl)))) | ((with_reducible show IsS _ _); first | with_reducible refine iss_l ?_ | with_reducible refine iss_t ?_) | ((with_reducible refine fit_ ?_ ?_); (· first | rfl | (apply fits_of; first | omega | (simp; omega)))) | ((with_reducible show CallG _ _ _ _); first | ((with_reducible apply cg0); (· rfl)) | ((with_reducible apply cg1); (· rfl); (· rfl))) | ((with_reducible show WT _ _ _ _); first | with_reducible refine wt_n ?_ | ((with_reducible apply wt_t); (· rfl)) | ((with_reducible apply wt_unl); (· rfl))) | ((with_reducible show WTs _ _ _ _); first | with_reducible refine wts_nil ?_ | with_reducible refine wts_cons ?_) | ((with_reducible apply own_); (· rfl)) | ((with_reducible refine sml_ ?_ ?_ ?_); (· walk_at "sd"); (· walk_at "sd")) | with_reducible refine isi_ ?_ | ((with_reducible show WSX _ _ _); first | with_reducible refine wsx_lift ?_ | with_reducible refine wsx_seq ?_ | with_reducible refine wsx_if ?_ | with_reducible refine wsx_raise0 ?_ | with_reducible refine wsx_expr ?_ | with_reducible refine wsx_ret ?_ | with_reducible refine wsx_set ?_) | with_reducible refine wex_call ?_ | ((with_reducible show WPu _ _ _ _); first | with_reducible refine wpu_nil ?_ | with_reducible refine wpu_seq ?_ | with_reducible refine wpu_ret ?_ | with_reducible refine wpu_if ?_) | ((with_reducible show WTd _ _ _ _ _); first | with_reducible refine wtd_P ?_ | with_reducible refine wtd_G ?_ | with_reducible refine wtd_If ?_ | ((with_reducible refine wtd_K ?_ ?_); (· exact ⟨rfl, by decide⟩)) | ((with_reducible refine wtd_U ?_ ?_); (· exact ⟨rfl, by decide⟩)) | ((with_reducible refine wtd_C ?_ ?_); (· rfl)) | ((with_reducible refine wtd_A ?_ ?_ ?_); (· rfl); (· first | rfl | (apply fits_of; first | omega | (simp; omega))))) | with_reducible refine two_ ?_ | ((with_reducible show WC _ _ _ _ _ _ _); first | with_reducible refine wc_nil ?_ | with_reducible refine wc_cons ?_) | ((with_reducible show WP _ _ _); first | with_reducible refine wp_no ?_ | with_reducible refine wp_e ?_) | with_reducible refine isl ?_ | ((with_reducible show RetT _ _ _); first | ((with_reducible apply retT1); (· rfl)) | ((with_reducible apply retT2); (· rfl))) | ((with_reducible show Any _ _); first | ((with_reducible apply any_o); (· rfl)) | ((with_reducible apply any_r); (· rfl))) | ((with_reducible show CallH _ _ _ _); first | ((with_reducible apply ch0); (· rfl)) | ((with_reducible apply ch1); (· rfl); (· rfl))) | ((with_reducible apply cgx0); (· rfl))))
local macro_rules | `(tactic| walk_at "vc") => `(tactic| (repeat' first | ((with_reducible show WE _ _ _); first | with_reducible refine we_callN ?_ | with_reducible refine we_c ?_ | with_reducible refine we_un ?_ | with_reducible refine we_bin ?_ | with_reducible refine we_chain ?_ | with_reducible refine we_and ?_ | with_reducible refine we_or ?_ | with_reducible refine we_not ?_ | with_reducible refine we_if ?_ | with_reducible refine we_fz ?_ | with_reducible refine we_tup ?_ | with_reducible refine we_sl ?_ | with_reducible refine we_tupRg ?_ | with_reducible refine we_bor ?_ | with_reducible refine we_call ?_ | with_reducible refine we_din ?_ | with_reducible refine we_borL ?_ | ((with_reducible apply we_v); (· rfl)) | ((with_reducible show WE (eO _) _ _); first | ((with_reducible apply we_oV); (· rfl)) | ((with_reducible apply we_oW); (· rfl)) | ((with_reducible apply we_oR); (· rfl))) | ((with_reducible show WE (eBinV _ _ _) _ _); first | ((with_reducible apply we_bV); (· rfl)) | ((with_reducible apply we_bVr); (· rfl)) | ((with_reducible apply we_bVv); (· rfl))) | ((with_reducible apply we_mut); (· rfl)) | ((with_reducible apply we_mut0); (· rfl)) | ((with_reducible apply we_dget2); (· rfl)) | ((with_reducible apply we_didx); (· rfl))) | ((with_reducible show WO _ _); first | ((with_reducible show WO (gIsO _ _) _); first | with_reducible refine wo_isON ?_ | ((with_reducible refine wo_isO (b := true) ?_ ?_); (· rfl)) | ((with_reducible refine wo_isO (b := false) ?_ ?_); (· rfl))) | with_reducible refine wo_attr ?_ | ((with_reducible show WO (valsA _) _); first | with_reducible refine vals_nil ?_ | with_reducible refine vals_v ?_) | with_reducible refine wo_isB ?_ | with_reducible refine wo_ntB ?_ | ((with_reducible show WO (backAr _ _ _) _); first | with_reducible refine back_nil ?_ | with_reducible refine back_v ?_ | with_reducible refine back_o ?_ | ((with_reducible apply back_r); (· rfl))) | ((with_reducible show WO (resArs _ _) _); first | with_reducible refine res_nil ?_ | with_reducible refine res_v ?_ | ((with_reducible apply res_r); (· rfl)) | ((with_reducible apply res_oO); (· rfl)) | ((with_reducible apply res_oR); (· rfl)) | ((with_reducible apply res_oV); (· rfl))) | ((with_reducible show WO (gAdd _ _) _); first | with_reducible refine wo_add ?_ | ((with_reducible refine wo_addL ?_ ?_); (· first | rfl | (apply fits_of; first | omega | (simp; omega)))) | ((with_reducible refine wo_addT ?_ ?_); (· first | rfl | (apply fits_of; first | omega | (simp; omega))))) | with_reducible refine wo_sub ?_ | with_reducible refine wo_neg ?_ | with_reducible refine wo_lt ?_ | with_reducible refine wo_le ?_ | with_reducible refine wo_gt ?_ | with_reducible refine wo_ge ?_ | ((with_reducible show WO (gEq _ _) _); first | with_reducible refine wo_eq ?_ | with_reducible refine wo_eqB ?_ | ((with_reducible refine wo_eqT ?_ ?_); (· decide +kernel)) | ((with_reducible refine wo_eqF ?_ ?_); (· decide +kernel))) | ((with_reducible show WO (gNe _ _) _); first | with_reducible refine wo_ne ?_ | with_reducible refine wo_neB ?_ | ((with_reducible refine wo_neT ?_ ?_); (· decide +kernel)) | ((with_reducible refine wo_neF ?_ ?_); (· decide +kernel))) | with_reducible refine wo_isN ?_ | with_reducible refine wo_ntN ?_ | ((with_reducible show WO (gLen _) _); first | with_reducible refine wo_lenL ?_ | with_reducible refine wo_lenT ?_) | with_reducible refine wo_abs ?_ | ((with_reducible show WO (gInt _) _); first | with_reducible refine wo_intB ?_ | with_reducible refine wo_intI ?_) | ((with_reducible show WO (gList _) _); first | with_reducible refine wo_listL ?_ | with_reducible refine wo_listT ?_) | ((with_reducible show WO (gTuple _) _); first | with_reducible refine wo_tupL ?_ | with_reducible refine wo_tupT ?_) | with_reducible refine wo_max ?_ | with_reducible refine wo_min ?_ | ((with_reducible show WO (gIsi _ _) _); first | with_reducible refine wo_isiI ?_ | with_reducible refine wo_isiB ?_ | ((with_reducible apply wo_isiE); (· rfl))) | ((with_reducible show WO (cutOf _ _ _) _); first | with_reducible refine wo_cutL ?_ | with_reducible refine wo_cutT ?_) | ((with_reducible show WO (gPow _ _) _); first | with_reducible refine wo_p10_60 ?_ | with_reducible refine wo_p10_18 ?_ | with_reducible refine wo_p10_30 ?_ | with_reducible refine wo_p2_24 ?_ | with_reducible refine wo_p10_8 ?_ | with_reducible refine wo_p10_19 ?_ | with_reducible refine wo_p10_55 ?_ | with_reducible refine wo_p10_59 ?_ | with_reducible refine wo_p3_30 ?_ | with_reducible refine wo_p2_40 ?_ | with_reducible refine wo_p10_54 ?_ | with_reducible refine wo_p3_13 ?_ | with_reducible refine wo_p2_20 ?_ | with_reducible refine wo_p10_57 ?_ | with_reducible refine wo_p10_40 ?_ | with_reducible refine wo_p10_61 ?_ | with_reducible refine wo_p10_50 ?_) | ((with_reducible apply wo_idxE); (· rfl)) | ((with_reducible apply wo_allE); (· rfl)) | ((with_reducible apply wo_anyE); (· rfl)) | ((with_reducible show WO (ixN _ _) _); first | ((with_reducible apply wo_ixE); (· rfl)) | ((with_reducible refine wo_ix ?_ ?_ ?_); (· walk_at "sd"); (· walk_at "sd"))) | ((with_reducible refine wo_mod ?_ ?_); (· walk_at "sd")) | ((with_reducible refine wo_div ?_ ?_ ?_); (· walk_at "sd"); (· walk_at "sd")) | ((with_reducible refine wo_mul ?_ ?_); (· first | exact mul_ok1 (by walk_at "sd") | exact mul_ok2 (by walk_at "sd") | exact mul_ok3 (by omega) (by omega))) | ((with_reducible refine wo_app ?_ ?_); (· first | rfl | (apply fits_of; first | omega | (simp; omega)))) | ((with_reducible refine wo_ext ?_ ?_); (· first | rfl | (apply fits_of; first | omega | (simp; omega))))) | ((with_reducible show WS _ _ _); first | with_reducible refine ws_try ?_ | with_reducible refine ws_retT ?_ | with_reducible refine ws_seq ?_ | with_reducible refine ws_expr ?_ | with_reducible refine ws_ret ?_ | with_reducible refine ws_retL ?_ | with_reducible refine ws_if ?_ | with_reducible refine ws_set ?_ | with_reducible refine ws_setO ?_ | with_reducible refine ws_asg ?_ | with_reducible refine ws_par ?_ | with_reducible refine ws_nil ?_ | with_reducible refine ws_retN ?_ | with_reducible refine ws_dput ?_ | with_reducible refine ws_dnew ?_ | ((with_reducible show WS (sFrz _ _) _ _); first | ((with_reducible apply ws_frz); (· rfl)) | ((with_reducible apply ws_frzV); (· rfl))) | ((with_reducible apply ws_retO); (· rfl)) | ((with_reducible apply ws_putI); (· rfl))) | ((with_reducible apply nrm_); (· (try simp only [wipeE, backE, List.set_cons_zero, List.set_cons_succ, List.getElem?_cons_zero, List.getElem?_cons_succ, List.cons_append, List.nil_append, List.replicate_succ, List.replicate_zero, Nat.reduceSub, unowns_nil, unowns_cons, unown_own, unown_val, unown_no, unown_ro, unown_dct]); rfl)) | ((with_reducible show IfB _ _ _); first | with_reducible refine ifb_not ?_ | with_reducible refine ifb_t ?_ | with_reducible refine ifb_f ?_ | ((with_reducible refine ifb_decT ?_ ?_); (· first | (with_reducible assumption) | omega | (simp only [List.length_cons, List.length_nil]; omega))) | ((with_reducible refine ifb_decF ?_ ?_); (· first | (with_reducible assumption) | omega | (simp only [List.length_cons, List.length_nil]; omega))) | with_reducible refine ifb_dec (fun _ => ?_) (fun _ => ?_) | ((with_reducible apply ifb_eT); (· rfl)) | ((with_reducible apply ifb_eF); (· rfl))) | ((with_reducible show WB _ _ _); first | with_reducible refine wb_bor ?_ | with_reducible refine wb_v ?_ | with_reducible refine wb_and ?_ | with_reducible refine wb_or ?_ | with_reducible refine wb_not ?_ | with_reducible refine wb_yes ?_) | with_reducible refine isb ?_ | ((with_reducible show WL _ _ _); first | with_reducible refine wl_nil ?_ | with_reducible refine wl_cons ?_ | with_reducible refine wl_lst ?_ | with_reducible refine wl_un ?_ | with_reducible refine wl_it ?_ | with_reducible refine wl_rng1 ?_ | with_reducible refine wl_rng2 ?_ | with_reducible refine wl_enum ?_ | with_reducible refine wl_enumA ?_ | with_reducible refine wl_addE ?_ | with_reducible refine wl_rg1 ?_ | with_reducible refine wl_bor ?_ | with_reducible refine wl_call ?_ | ((with_reducible apply wl_addO); (· rfl)) | ((with_reducible show WL (lSlV _ _ _) _ _); first | ((with_reducible apply wl_slO); (· rfl)) | ((with_reducible apply wl_slR); (· rfl)))) | ((with_reducible show WA _ _ _); first | with_reducible refine wa_nil ?_ | with_reducible refine wa_v ?_ | ((with_reducible apply wa_r); (· rfl)) | ((with_reducible show WA (aO _ _) _ _); first | ((with_reducible apply wa_oR); (· rfl)) | ((with_reducible apply wa_oO); (· rfl)) | ((with_reducible apply wa_oV); (· rfl)))) | ((with_reducible show IsS _ _); first | with_reducible refine iss_l ?_ | with_reducible refine iss_t ?_) | ((with_reducible refine fit_ ?_ ?_); (· first | rfl | (apply fits_of; first | omega | (simp; omega)))) | ((with_reducible show CallG _ _ _ _); first | ((with_reducible apply cg0); (· rfl)) | ((with_reducible apply cg1); (· rfl); (· rfl))) | ((with_reducible show WT _ _ _ _); first | with_reducible refine wt_n ?_ | ((with_reducible apply wt_t); (· rfl)) | ((with_reducible apply wt_unl); (· rfl))) | ((with_reducible show WTs _ _ _ _); first | with_reducible refine wts_nil ?_ | with_reducible refine wts_cons ?_) | ((with_reducible apply own_); (· rfl)) | ((with_reducible refine sml_ ?_ ?_ ?_); (· walk_at "sd"); (· walk_at "sd")) | with_reducible refine isi_ ?_ | ((with_reducible show WSX _ _ _); first | with_reducible refine wsx_lift ?_ | with_reducible refine wsx_seq ?_ | with_reducible refine wsx_if ?_ | with_reducible refine wsx_raise0 ?_ | with_reducible refine wsx_expr ?_ | with_reducible refine wsx_ret ?_ | with_reducible refine wsx_set ?_) | with_reducible refine wex_call ?_ | ((with_reducible show WPu _ _ _ _); first | with_reducible refine wpu_nil ?_ | with_reducible refine wpu_seq ?_ | with_reducible refine wpu_ret ?_ | with_reducible refine wpu_if ?_) | ((with_reducible show WTd _ _ _ _ _); first | with_reducible refine wtd_P ?_ | with_reducible refine wtd_G ?_ | with_reducible refine wtd_If ?_ | ((with_reducible refine wtd_K ?_ ?_); (· exact ⟨rfl, by decide⟩)) | ((with_reducible refine wtd_U ?_ ?_); (· exact ⟨rfl, by decide⟩)) | ((with_reducible refine wtd_C ?_ ?_); (· rfl)) | ((with_reducible refine wtd_A ?_ ?_ ?_); (· rfl); (· first | rfl | (apply fits_of; first | omega | (simp; omega))))) | with_reducible refine two_ ?_ | ((with_reducible show WC _ _ _ _ _ _ _); first | with_reducible refine wc_nil ?_ | with_reducible refine wc_cons ?_) | ((with_reducible show WP _ _ _); first | with_reducible refine wp_no ?_ | with_reducible refine wp_e ?_) | with_reducible refine isl ?_ | ((with_reducible show RetT _ _ _); first | ((with_reducible apply retT1); (· rfl)) | ((with_reducible apply retT2); (· rfl))) | ((with_reducible show Any _ _); first | ((with_reducible apply any_o); (· rfl)) | ((with_reducible apply any_r); (· rfl))) | ((with_reducible show CallH _ _ _ _); first | ((with_reducible apply ch0); (· rfl)) | ((with_reducible apply ch1); (· rfl); (· rfl))) | ((with_reducible apply cgx0); (· rfl))))
local macro_rules | `(tactic| walk_at "vd") => `(tactic| (repeat' first | ((with_reducible show WE _ _ _); first | with_reducible refine we_callN ?_ | with_reducible refine we_c ?_ | with_reducible refine we_un ?_ | with_reducible refine we_bin ?_ | with_reducible refine we_chain ?_ | with_reducible refine we_and ?_ | with_reducible refine we_or ?_ | with_reducible refine we_not ?_ | with_reducible refine we_if ?_ | with_reducible refine we_fz ?_ | with_reducible refine we_tup ?_ | with_reducible refine we_sl ?_ | with_reducible refine we_tupRg ?_ | with_reducible refine we_bor ?_ | with_reducible refine we_call ?_ | with_reducible refine we_din ?_ | with_reducible refine we_borL ?_ | ((with_reducible apply we_v); (· rfl)) | ((with_reducible show WE (eO _) _ _); first | ((with_reducible apply we_oV); (· rfl)) | ((with_reducible apply we_oW); (· rfl)) | ((with_reducible apply we_oR); (· rfl))) | ((with_reducible show WE (eBinV _ _ _) _ _); first | ((with_reducible apply we_bV); (· rfl)) | ((with_reducible apply we_bVr); (· rfl)) | ((with_reducible apply we_bVv); (· rfl))) | ((with_reducible apply we_mut); (· rfl)) | ((with_reducible apply we_mut0); (· rfl)) | ((with_reducible apply we_dget2); (· rfl)) | ((with_reducible apply we_didx); (· rfl))) | ((with_reducible show WO _ _); first | ((with_reducible show WO (gIsO _ _) _); first | with_reducible refine wo_isON ?_ | ((with_reducible refine wo_isO (b := true) ?_ ?_); (· rfl)) | ((with_reducible refine wo_isO (b := false) ?_ ?_); (· rfl))) | with_reducible refine wo_attr ?_ | ((with_reducible show WO (valsA _) _); first | with_reducible refine vals_nil ?_ | with_reducible refine vals_v ?_) | with_reducible refine wo_isB ?_ | with_reducible refine wo_ntB ?_ | ((with_reducible show WO (backAr _ _ _) _); first | with_reducible refine back_nil ?_ | with_reducible refine back_v ?_ | with_reducible refine back_o ?_ | ((with_reducible apply back_r); (· rfl))) | ((with_reducible show WO (resArs _ _) _); first | with_reducible refine res_nil ?_ | with_reducible refine res_v ?_ | ((with_reducible apply res_r); (· rfl)) | ((with_reducible apply res_oO); (· rfl)) | ((with_reducible apply res_oR); (· rfl)) | ((with_reducible apply res_oV); (· rfl))) | ((with_reducible show WO (gAdd _ _) _); first | with_reducible refine wo_add ?_ | ((with_reducible refine wo_addL ?_ ?_); (· first | rfl | (apply fits_of; first | omega | (simp; omega)))) | ((with_reducible refine wo_addT ?_ ?_); (· first | rfl | (apply fits_of; first | omega | (simp; omega))))) | with_reducible refine wo_sub ?_ | with_reducible refine wo_neg ?_ | with_reducible refine wo_lt ?_ | with_reducible refine wo_le ?_ | with_reducible refine wo_gt ?_ | with_reducible refine wo_ge ?_ | ((with_reducible show WO (gEq _ _) _); first | with_reducible refine wo_eq ?_ | with_reducible refine wo_eqB ?_ | ((with_reducible refine wo_eqT ?_ ?_); (· decide +kernel)) | ((with_reducible refine wo_eqF ?_ ?_); (· decide +kernel))) | ((with_reducible show WO (gNe _ _) _); first | with_reducible refine wo_ne ?_ | with_reducible refine wo_neB ?_ | ((with_reducible refine wo_neT ?_ ?_); (· decide +kernel)) | ((with_reducible refine wo_neF ?_ ?_); (· decide +kernel))) | with_reducible refine wo_isN ?_ | with_reducible refine wo_ntN ?_ | ((with_reducible show WO (gLen _) _); first | with_reducible refine wo_lenL ?_ | with_reducible refine wo_lenT ?_) | with_reducible refine wo_abs ?_ | ((with_reducible show WO (gInt _) _); first | with_reducible refine wo_intB ?_ | with_reducible refine wo_intI ?_) | ((with_reducible show WO (gList _) _); first | with_reducible refine wo_listL ?_ | with_reducible refine wo_listT ?_) | ((with_reducible show WO (gTuple _) _); first | with_reducible refine wo_tupL ?_ | with_reducible refine wo_tupT ?_) | with_reducible refine wo_max ?_ | with_reducible refine wo_min ?_ | ((with_reducible show WO (gIsi _ _) _); first | with_reducible refine wo_isiI ?_ | with_reducible refine wo_isiB ?_ | ((with_reducible apply wo_isiE); (· rfl))) | ((with_reducible show WO (cutOf _ _ _) _); first | with_reducible refine wo_cutL ?_ | with_reducible refine wo_cutT ?_) | ((with_reducible show WO (gPow _ _) _); first | with_reducible refine wo_p10_60 ?_ | with_reducible refine wo_p10_18 ?_ | with_reducible refine wo_p10_30 ?_ | with_reducible refine wo_p2_24 ?_ | with_reducible refine wo_p10_8 ?_ | with_reducible refine wo_p10_19 ?_ | with_reducible refine wo_p10_55 ?_ | with_reducible refine wo_p10_59 ?_ | with_reducible refine wo_p3_30 ?_ | with_reducible refine wo_p2_40 ?_ | with_reducible refine wo_p10_54 ?_ | with_reducible refine wo_p3_13 ?_ | with_reducible refine wo_p2_20 ?_ | with_reducible refine wo_p10_57 ?_ | with_reducible refine wo_p10_40 ?_ | with_reducible refine wo_p10_61 ?_ | with_reducible refine wo_p10_50 ?_) | ((with_reducible apply wo_idxE); (· rfl)) | ((with_reducible apply wo_allE); (· rfl)) | ((with_reducible apply wo_anyE); (· rfl)) | ((with_reducible show WO (ixN _ _) _); first | ((with_reducible apply wo_ixE); (· rfl)) | ((with_reducible refine wo_ix ?_ ?_ ?_); (· walk_at "sd"); (· walk_at "sd"))) | ((with_reducible refine wo_mod ?_ ?_); (· walk_at "sd")) | ((with_reducible refine wo_div ?_ ?_ ?_); (· walk_at "sd"); (· walk_at "sd")) | ((with_reducible refine wo_mul ?_ ?_); (· first | exact mul_ok1 (by walk_at "sd") | exact mul_ok2 (by walk_at "sd") | exact mul_ok3 (by omega) (by omega))) | ((with_reducible refine wo_app ?_ ?_); (· first | rfl | (apply fits_of; first | omega | (simp; omega)))) | ((with_reducible refine wo_ext ?_ ?_); (· first | rfl | (apply fits_of; first | omega | (simp; omega))))) | ((with_reducible show WS _ _ _); first | with_reducible refine ws_try ?_ | with_reducible refine ws_retT ?_ | with_reducible refine ws_seq ?_ | with_reducible refine ws_expr ?_ | with_reducible refine ws_ret ?_ | with_reducible refine ws_retL ?_ | with_reducible refine ws_set ?_ | with_reducible refine ws_setO ?_ | with_reducible refine ws_asg ?_ | with_reducible refine ws_par ?_ | with_reducible refine ws_nil ?_ | with_reducible refine ws_retN ?_ | with_reducible refine ws_dput ?_ | with_reducible refine ws_dnew ?_ | ((with_reducible show WS (sFrz _ _) _ _); first | ((with_reducible apply ws_frz); (· rfl)) | ((with_reducible apply ws_frzV); (· rfl))) | ((with_reducible apply ws_retO); (· rfl)) | ((with_reducible apply ws_putI); (· rfl))) | ((with_reducible apply nrm_); (· (try simp only [wipeE, backE, List.set_cons_zero, List.set_cons_succ, List.getElem?_cons_zero, List.getElem?_cons_succ, List.cons_append, List.nil_append, List.replicate_succ, List.replicate_zero, Nat.reduceSub, unowns_nil, unowns_cons, unown_own, unown_val, unown_no, unown_ro, unown_dct]); rfl)) | ((with_reducible show IfB _ _ _); first | with_reducible refine ifb_not ?_ | with_reducible refine ifb_t ?_ | with_reducible refine ifb_f ?_ | ((with_reducible refine ifb_decT ?_ ?_); (· first | (with_reducible assumption) | omega | (simp only [List.length_cons, List.length_nil]; omega))) | ((with_reducible refine ifb_decF ?_ ?_); (· first | (with_reducible assumption) | omega | (simp only [List.length_cons, List.length_nil]; omega))) | with_reducible refine ifb_dec (fun _ => ?_) (fun _ => ?_) | ((with_reducible apply ifb_eT); (· rfl)) | ((with_reducible apply ifb_eF); (· rfl))) | ((with_reducible show WB _ _ _); first | with_reducible refine wb_bor ?_ | with_reducible refine wb_v ?_ | with_reducible refine wb_and ?_ | with_reducible refine wb_or ?_ | with_reducible refine wb_not ?_ | with_reducible refine wb_yes ?_) | with_reducible refine isb ?_ | ((with_reducible show WL _ _ _); first | with_reducible refine wl_nil ?_ | with_reducible refine wl_cons ?_ | with_reducible refine wl_lst ?_ | with_reducible refine wl_un ?_ | with_reducible refine wl_it ?_ | with_reducible refine wl_rng1 ?_ | with_reducible refine wl_rng2 ?_ | with_reducible refine wl_enum ?_ | with_reducible refine wl_enumA ?_ | with_reducible refine wl_addE ?_ | with_reducible refine wl_rg1 ?_ | with_reducible refine wl_bor ?_ | with_reducible refine wl_call ?_ | ((with_reducible apply wl_addO); (· rfl)) | ((with_reducible show WL (lSlV _ _ _) _ _); first | ((with_reducible apply wl_slO); (· rfl)) | ((with_reducible apply wl_slR); (· rfl)))) | ((with_reducible show WA _ _ _); first | with_reducible refine wa_nil ?_ | with_reducible refine wa_v ?_ | ((with_reducible apply wa_r); (· rfl)) | ((with_reducible show WA (aO _ _) _ _); first | ((with_reducible apply wa_oR); (· rfl)) | ((with_reducible apply wa_oO); (· rfl)) | ((with_reducible apply wa_oV); (· rfl)))) | ((with_reducible show IsS _ _); first | with_reducible refine iss_l ?_ | with_reducible refine iss_t ?_) | ((with_reducible refine fit_ ?_ ?_); (· first | rfl | (apply fits_of; first | omega | (simp; omega)))) | ((with_reducible show CallG _ _ _ _); first | ((with_reducible apply cg0); (· rfl)) | ((with_reducible apply cg1); (· rfl); (· rfl))) | ((with_reducible show WT _ _ _ _); first | with_reducible refine wt_n ?_ | ((with_reducible apply wt_t); (· rfl)) | ((with_reducible apply wt_unl); (· rfl))) | ((with_reducible show WTs _ _ _ _); first | with_reducible refine wts_nil ?_ | with_reducible refine wts_cons ?_) | ((with_reducible apply own_); (· rfl)) | ((with_reducible refine sml_ ?_ ?_ ?_); (· walk_at "sd"); (· walk_at "sd")) | with_reducible refine isi_ ?_ | ((with_reducible show WSX _ _ _); first | with_reducible refine wsx_lift ?_ | with_reducible refine wsx_seq ?_ | with_reducible refine wsx_if ?_ | with_reducible refine wsx_raise0 ?_ | with_reducible refine wsx_expr ?_ | with_reducible refine wsx_ret ?_ | with_reducible refine wsx_set ?_) | with_reducible refine wex_call ?_ | ((with_reducible show WPu _ _ _ _); first | with_reducible refine wpu_nil ?_ | with_reducible refine wpu_seq ?_ | with_reducible refine wpu_ret ?_ | with_reducible refine wpu_if ?_) | ((with_reducible show WTd _ _ _ _ _); first | with_reducible refine wtd_P ?_ | with_reducible refine wtd_G ?_ | with_reducible refine wtd_If ?_ | ((with_reducible refine wtd_K ?_ ?_); (· exact ⟨rfl, by decide⟩)) | ((with_reducible refine wtd_U ?_ ?_); (· exact ⟨rfl, by decide⟩)) | ((with_reducible refine wtd_C ?_ ?_); (· rfl)) | ((with_reducible refine wtd_A ?_ ?_ ?_); (· rfl); (· first | rfl | (apply fits_of; first | omega | (simp; omega))))) | with_reducible refine two_ ?_ | ((with_reducible show WC _ _ _ _ _ _ _); first | with_reducible refine wc_nil ?_ | with_reducible refine wc_cons ?_) | ((with_reducible show WP _ _ _); first | with_reducible refine wp_no ?_ | with_reducible refine wp_e ?_) | with_reducible refine isl ?_ | ((with_reducible show RetT _ _ _); first | ((with_reducible apply retT1); (· rfl)) | ((with_reducible apply retT2); (· rfl))) | ((with_reducible show Any _ _); first | ((with_reducible apply any_o); (· rfl)) | ((with_reducible apply any_r); (· rfl))) | ((with_reducible show CallH _ _ _ _); first | ((with_reducible apply ch0); (· rfl)) | ((with_reducible apply ch1); (· rfl); (· rfl))) | ((with_reducible apply cgx0); (· rfl))))
local macro_rules | `(tactic| walk_at "nr") => `(tactic| ((with_reducible apply nrm_); (· (try simp only [wipeE, backE, List.set_cons_zero, List.set_cons_succ, List.getElem?_cons_zero, List.getElem?_cons_succ, List.cons_append, List.nil_append, List.replicate_succ, List.replicate_zero, Nat.reduceSub, unowns_nil, unowns_cons, unown_own, unown_val, unown_no, unown_ro, unown_dct]); rfl)))
local macro_rules | `(tactic| walk_at "nb") => `(tactic| simp only [wipeE, backE, List.set_cons_zero, List.set_cons_succ, List.getElem?_cons_zero, List.getElem?_cons_succ])
theorem doubt_w {m : Int} {R : List Rw} {Q : D → List Sl → Prop} (hm : 1 < m) (hm2 : m ≤ 10 ^ 60) (hl : R.length ≤ 5) (hR : ∀ r ∈ R, RwOk m r) (q : ∀ d x y, DoubtOf2 m R d → Q d [x, y]) :
    WG g_reading_doubt [.val (.int m), .val (.list (R.map rwD))] Q := by
  refine wg_run rfl ?_
  unfold b_reading_doubt
  walk_at "vc"
  refine wo_eqNil (n := 2) (lay_rws (n := 0) R) ?_
  cases hRe : R with
  | nil =>
    walk_at "vc"
    exact q _ _ _ (by rw [hRe]; exact .inl ⟨0, 1, rfl, by omega, by omega, by omega, hm, rfl⟩)
  | cons r0 R' =>
    rw [← hRe]
    have hne : (R.map rwD).isEmpty = false := by rw [hRe]; rfl
    rw [hne]
    walk_at "vc"
    refine wl_compP (fun _ _ => true) (fun _ => fstR) ?_
    walk_at "vc"
    refine ⟨rfl, fits_of (by rw [List.length_map]; omega), fun d hd => ?_, ?_⟩
    · obtain ⟨x, _, rfl⟩ := List.mem_map.mp hd
      unfold rwD
      walk_at "vc"
      exact ⟨rfl, by walk_at "vc"; exact ⟨rfl, rfl⟩⟩
    rw [filter_yes, fstR_rows]
    walk_at "vc"
    refine wl_compP (fun _ _ => true) (fun _ => thdR) ?_
    walk_at "vc"
    refine ⟨rfl, fits_of (by rw [List.length_map]; omega), fun d hd => ?_, ?_⟩
    · obtain ⟨x, _, rfl⟩ := List.mem_map.mp hd
      unfold rwD
      walk_at "vc"
      exact ⟨rfl, by walk_at "vc"; exact ⟨rfl, rfl⟩⟩
    rw [filter_yes, thdR_rows]
    walk_at "vc"
    refine wl_compP (fun _ _ => true) (fun _ => subR m) ?_
    walk_at "vc"
    refine ⟨rfl, fits_of (by rw [List.length_map]; omega), fun d hd => ?_, ?_⟩
    · obtain ⟨x, _, rfl⟩ := List.mem_map.mp hd
      unfold rwD
      walk_at "vc"
      exact ⟨rfl, by walk_at "vc"; exact ⟨rfl, rfl⟩⟩
    rw [filter_yes, subR_rows]
    walk_at "vc"
    refine cleared_w (by omega) hm2 (by rw [List.length_map]; omega) (fun x hx => ?_) fun rows ws g _ _ C => ?_
    · obtain ⟨r, _, rfl⟩ := List.mem_map.mp hx
      exact ⟨Int.emod_nonneg _ (by omega), Int.emod_lt_of_pos _ (by omega)⟩
    have hge2 : ∀ gap : Int, (∀ j (h1 : j < (rows.map fun r => dot r (R.map (·.1)) % m).length) (h2 : j < (rows.map fun r => dot r (R.map fun r => r.2.2) % m).length), m ∣ (rows.map fun r => dot r (R.map (·.1)) % m)[j] * gap - (rows.map fun r => dot r (R.map fun r => r.2.2) % m)[j]) → ∀ r ∈ rows, m ∣ dot r (R.map (·.1)) * gap - dot r (R.map fun r => r.2.2) := fun gap h r hr => by
      obtain ⟨j, hj, rfl⟩ := List.mem_iff_getElem.mp hr
      obtain ⟨a, ha⟩ := h j (by rw [List.length_map]; exact hj) (by rw [List.length_map]; exact hj)
      rw [List.getElem_map, List.getElem_map] at ha
      obtain ⟨b, hb⟩ := dvd_mod_sub m (dot rows[j] (R.map (·.1)))
      obtain ⟨c, hc⟩ := dvd_mod_sub m (dot rows[j] (R.map fun r => r.2.2))
      exact ⟨a - b * gap + c, by grind⟩
    have hdm := fun gap => doubt_mk (gap := gap) (show 0 < m by omega) C
    have hpm := fun row w => paper_mk (row := row) (show 0 < m by omega) C.base w
    have hg := C.base.we.pos
    have hgm := Int.le_of_dvd (by omega) C.base.we.dm
    have hrl := C.base.len
    rw [List.length_map] at hrl
    have hrow : ∀ r ∈ rows, r.length = R.length ∧ ∀ x ∈ r, x.natAbs ≤ 10 ^ 121 := fun r hr => by
      obtain ⟨a, _, c⟩ := C.base.row r hr
      rw [List.length_map] at a
      exact ⟨a, c⟩
    have hwl := C.base.we.len
    rw [List.length_map] at hwl
    have hwr := C.base.we.rng
    have ho : ∀ n ∈ R.map (·.1), n.natAbs ≤ 10 ^ 60 := fun n hn => by
      obtain ⟨r, hr, rfl⟩ := List.mem_map.mp hn
      obtain ⟨⟨a, b⟩, _⟩ := hR r hr
      omega
    have hd3 : ∀ n ∈ R.map (fun r => r.2.2), n.natAbs ≤ 10 ^ 60 := fun n hn => by
      obtain ⟨r, hr, rfl⟩ := List.mem_map.mp hn
      obtain ⟨_, _, a, b⟩ := hR r hr
      omega
    have b1 := dot_bound (bs := ws) (ns := R.map (·.1)) (B := 10 ^ 60) (C := 10 ^ 60) (fun b hb => by have := hwr b hb; omega) ho
    have b2 := dot_bound (bs := ws) (ns := R.map (fun r => r.2.2)) (B := 10 ^ 60) (C := 10 ^ 60) (fun b hb => by have := hwr b hb; omega) hd3
    generalize R.map (·.1) = ones at *
    generalize R.map (fun r => r.2.2) = dues at *
    walk_at "vc"
    refine wl_compP (fun _ _ => true) (fun _ => dotM m ones) ?_
    walk_at "vc"
    refine ⟨rfl, fits_of (by rw [List.length_map]; omega), fun d hd => ?_, ?_⟩
    · obtain ⟨r, hr, rfl⟩ := List.mem_map.mp hd
      obtain ⟨hr1, hr2⟩ := hrow r hr
      walk_at "vc"
      refine ⟨rfl, ?_⟩
      walk_at "vc"
      refine times_w (by omega) (fun b hb => by have := hr2 b hb; omega) (fun b hb => by have := ho b hb; omega) fun _ _ => ?_
      walk_at "vc"
      exact ⟨by unfold dotM; rw [intsD_ints], rfl⟩
    rw [filter_yes, dotM_rows]
    walk_at "vc"
    refine wl_compP (fun _ _ => true) (fun _ => dotM m dues) ?_
    walk_at "vc"
    refine ⟨rfl, fits_of (by rw [List.length_map]; omega), fun d hd => ?_, ?_⟩
    · obtain ⟨r, hr, rfl⟩ := List.mem_map.mp hd
      obtain ⟨hr1, hr2⟩ := hrow r hr
      walk_at "vc"
      refine ⟨rfl, ?_⟩
      walk_at "vc"
      refine times_w (by omega) (fun b hb => by have := hr2 b hb; omega) (fun b hb => by have := hd3 b hb; omega) fun _ _ => ?_
      walk_at "vc"
      exact ⟨by unfold dotM; rw [intsD_ints], rfl⟩
    rw [filter_yes, dotM_rows]
    walk_at "vc"
    refine cleared_w (by omega) hm2 (by rw [List.length_map]; omega) (fun x hx => ?_) fun empty again com _ _ C2 => ?_
    · obtain ⟨r, _, rfl⟩ := List.mem_map.mp hx
      exact ⟨Int.emod_nonneg _ (by omega), Int.emod_lt_of_pos _ (by omega)⟩
    have hends : ∀ n ∈ rows.map (fun r => dot r dues % m), n.natAbs ≤ 10 ^ 60 := fun n hn => by
      obtain ⟨r, _, rfl⟩ := List.mem_map.mp hn
      have := Int.emod_nonneg (dot r dues) (show m ≠ 0 by omega)
      have := Int.emod_lt_of_pos (dot r dues) (show 0 < m by omega)
      omega
    have hlen : (rows.map fun r => dot r ones % m).length = (rows.map fun r => dot r dues % m).length := by rw [List.length_map, List.length_map]
    have hgl : (rows.map fun r => dot r ones % m).length ≤ 6 := by rw [List.length_map]; omega
    have hc := C2.base.we.pos
    have hcm := Int.le_of_dvd (show 0 < m by omega) C2.base.we.dm
    have hmc2 : m / com ≤ m := Int.ediv_le_self _ (by omega)
    have hmc0 : 0 < m / com := by
      have := Int.le_ediv_of_mul_le hc (show 1 * com ≤ m by omega)
      omega
    have hrne : rows ≠ [] := fun e => by rw [e] at hrl; cases hrl
    generalize rows.map (fun r => dot r ones % m) = gaps at *
    generalize rows.map (fun r => dot r dues % m) = ends at *
    walk_at "vc"
    refine ws_cut (fun e => (∀ r ∈ empty, m ∣ dot r ends) ∧ ∃ x7 : Sl, e = [.val (.int m), .val (.list (R.map rwD)), .val (.list (ones.map .int)), .val (.list (dues.map .int)), .val (.list (rows.map lsD)), .val (.list (ws.map .int)), .val (.int g), x7, .val (.list (gaps.map .int)), .val (.list (ends.map .int)), .val (.list (empty.map lsD)), .val (.list (again.map .int)), .val (.int com), .no, .no, .no, .no, .no]) ?_ ?_
    · refine ws_forN (fun _ k e => (∀ j (h : j < empty.length), j < k → m ∣ dot empty[j] ends) ∧ ∃ x7 : Sl, e = [.val (.int m), .val (.list (R.map rwD)), .val (.list (ones.map .int)), .val (.list (dues.map .int)), .val (.list (rows.map lsD)), .val (.list (ws.map .int)), .val (.int g), x7, .val (.list (gaps.map .int)), .val (.list (ends.map .int)), .val (.list (empty.map lsD)), .val (.list (again.map .int)), .val (.int com), .no, .no, .no, .no, .no]) ?_
      walk_at "vc"
      refine ⟨⟨fun j _ h => absurd h (Nat.not_lt_zero _), _, rfl⟩, ?_, ?_⟩
      · rintro k d e hkl hd ⟨h, x7, rfl⟩
        rw [List.length_map] at hkl
        rw [List.getElem?_map, List.getElem?_eq_getElem hkl] at hd
        obtain rfl := Option.some.inj hd
        obtain ⟨hr1, hr2, hr3⟩ := C2.base.row empty[k] (List.getElem_mem _)
        walk_at "vc"
        refine times_w (by omega) (fun b hb => by have := hr3 b hb; omega) (fun b hb => by have := hends b hb; omega) fun _ _ => ?_
        walk_at "vc"
        · rename_i hz
          refine ⟨fun j hj hjk => ?_, _, rfl⟩
          by_cases e : j = k
          · subst e
            exact Int.dvd_of_emod_eq_zero (by simpa using hz)
          · exact h j hj (by omega)
        · rename_i hne
          refine put_w (by omega) (n := R.length) (by omega) hrne (by omega) (by omega) (fun b hb => by have := hr3 b hb; omega) hrow fun _ _ _ => ?_
          walk_at "vc"
          exact q _ _ _ (.inr (hpm _ _ (.inl ⟨rfl, hr2, fun h => hne (Int.emod_eq_zero_of_dvd h)⟩)))
      · rintro e ⟨h, x7, rfl⟩
        rw [List.length_map] at h
        refine ⟨fun r hr => ?_, _, rfl⟩
        obtain ⟨j, hj, rfl⟩ := List.mem_iff_getElem.mp hr
        exact h j hj hj
    · rintro e ⟨hemp, x7, rfl⟩
      have hal := C2.base.we.len
      have har := C2.base.we.rng
      obtain ⟨hs1, hs2⟩ := C2.solve ends hlen.symm hemp
      have he0 := Int.emod_nonneg (dot again ends) (show m ≠ 0 by omega)
      have he1 := Int.emod_lt_of_pos (dot again ends) (show 0 < m by omega)
      have b3 : (dot ws ones).natAbs ≤ 10 ^ 125 := Nat.le_trans b1 (by rw [hwl]; have := Nat.mul_le_mul_right (10 ^ 60 * 10 ^ 60) hl; omega)
      have b4 : (dot ws dues).natAbs ≤ 10 ^ 125 := Nat.le_trans b2 (by rw [hwl]; have := Nat.mul_le_mul_right (10 ^ 60 * 10 ^ 60) hl; omega)
      have hcg : ∀ j (h : j < gaps.length), m ∣ gaps[j] * (m / com) := fun j h => by
        obtain ⟨c, hc⟩ := C2.base.we.dn _ (List.getElem_mem h)
        have hmm : com * (m / com) = m := Int.mul_ediv_cancel' C2.base.we.dm
        exact ⟨c, by rw [hc]; generalize m / com = z at *; grind⟩
      have hgp : ∀ j (h1 : j < gaps.length) (h2 : j < ends.length), m ∣ gaps[j] * (dot again ends % m / com % (m / com)) - ends[j] := fun j h1 h2 => by
        obtain ⟨a, ha⟩ := hs2 j h1 h2
        obtain ⟨b, hb⟩ := hcg j h1
        have e := Int.mul_ediv_add_emod (dot again ends % m / com) (m / com)
        generalize dot again ends % m / com = G at *
        generalize m / com = z at *
        generalize G / z = y at *
        generalize G % z = x at *
        exact ⟨a - b * y, by grind⟩
      walk_at "vc"
      refine times_w (by omega) (fun b hb => by have := har b hb; omega) (fun b hb => by have := hends b hb; omega) fun _ _ => ?_
      have hgap0 := Int.emod_nonneg (dot again ends % m / com) (show m / com ≠ 0 by omega)
      have hgap1 := Int.emod_lt_of_pos (dot again ends % m / com) hmc0
      walk_at "vc"
      · rename_i h1 h2
        refine put_w (by omega) (n := R.length) (by omega) hrne (by omega) (by omega) (fun b hb => by have := har b hb; omega) hrow fun _ _ _ => ?_
        walk_at "vc"
        refine q _ _ _ (.inr (hpm _ _ (.inr ⟨rfl, ?_, ?_⟩)))
        · have := C2.base.we.dot
          rw [h2] at this
          exact this
        · rw [h2, Int.ediv_one, Int.ediv_one, Int.emod_emod_of_dvd _ (Int.dvd_refl m)] at h1
          exact Int.dvd_of_emod_eq_zero h1
      · rename_i h1 h2
        refine times_w (by omega) (fun b hb => by have := hwr b hb; omega) (fun b hb => by have := hd3 b hb; omega) fun _ _ => ?_
        walk_at "vc"
        refine times_w (by omega) (fun b hb => by have := hwr b hb; omega) (fun b hb => by have := ho b hb; omega) fun _ _ => ?_
        walk_at "vc"
        have hlt : m / com < m := Int.ediv_lt_of_lt_mul (by omega) (by have : m * 2 ≤ m * com := Int.mul_le_mul_of_nonneg_left (by omega) (by omega); omega)
        refine q _ _ _ (hdm _ hmc0 hlt (hge2 _ fun j a b => ?_))
        obtain ⟨x, hx⟩ := hgp j a b
        obtain ⟨y, hy⟩ := hcg j a
        rw [h1] at hx
        exact ⟨x + y, by grind⟩
      · rename_i h1
        refine times_w (by omega) (fun b hb => by have := hwr b hb; omega) (fun b hb => by have := hd3 b hb; omega) fun _ _ => ?_
        walk_at "vc"
        refine times_w (by omega) (fun b hb => by have := hwr b hb; omega) (fun b hb => by have := ho b hb; omega) fun _ _ => ?_
        walk_at "vc"
        exact q _ _ _ (hdm _ (by omega) (by omega) (hge2 _ hgp))
theorem whole_w {m : Int} {hs : List Hd} {bl mir : Bool} {Q : D → List Sl → Prop} (hm : 1 < m) (hm2 : m ≤ 10 ^ 60) (h1 : 1 ≤ hs.length) (hn : hs.length ≤ 5) (hk : HandsOk m hs) (q : ∀ d x, WholeOf m hs bl mir d → Q d [x]) :
    WG g_whole_paper [.val (clockD m hs bl mir)] Q := by
  have hrl : (readOf hs mir).length ≤ (swapsL (looksOf hs)).length * 2 := readL_len mir (swapsL (looksOf hs))
  have hsl := swapsGo_len (looksOf hs) (by rw [List.length_map]; omega) hs.length (by rw [List.length_map]; omega)
  rw [List.take_of_length_le (by rw [List.length_map]; omega)] at hsl
  have h5 := pow5 hn
  have hsl2 : (swapsL (looksOf hs)).length ≤ 3125 := Nat.le_trans hsl h5
  refine wg_run rfl ?_
  unfold b_whole_paper
  walk_at "vc"
  refine ws_forN (fun _ k e => ∃ (ps : List D) (x3 x4 : Sl), ps.length = k ∧ (∀ j (h1 : j < (readOf hs mir).length) (h2 : j < ps.length), PaperOk m (rowsL m hs bl (readOf hs mir)[j]) ps[j]) ∧ e = [.val (clockD m hs bl mir), .val (.int m), .own true ps, x3, x4]) ?_
  walk_at "vc"
  refine readings_w hn (fun h hh => (hk h hh).2.2.2.2) fun _ => ?_
  walk_at "vc"
  refine ⟨⟨[], _, _, rfl, fun j _ h => absurd h (Nat.not_lt_zero _), rfl⟩, ?_, ?_⟩
  · rintro k d e hkl hd ⟨ps, x3, x4, hpl, hM, rfl⟩
    rw [List.length_map] at hkl
    rw [List.getElem?_map, List.getElem?_eq_getElem hkl] at hd
    obtain rfl := Option.some.inj hd
    have hr := List.getElem_mem hkl
    have ho := (swapsL_ok (readL_mem hr).1).1
    rw [List.length_map] at ho
    have hM2 : ∀ d, PaperOk m (rowsL m hs bl (readOf hs mir)[k]) d → ∀ j (h1 : j < (readOf hs mir).length) (h2 : j < (ps ++ [d]).length), PaperOk m (rowsL m hs bl (readOf hs mir)[j]) (ps ++ [d])[j] := fun d hd j a b => by
      by_cases hjk : j < ps.length
      · rw [List.getElem_append_left hjk]
        exact hM j a hjk
      · have : j = k := by rw [List.length_append, List.length_singleton] at b; omega
        subst this
        rw [List.getElem_append_right (by omega)]
        simpa using hd
    generalize (readOf hs mir)[k] = r at *
    walk_at "vc"
    refine rows_w (by omega) hm2 h1 hn ho hk fun _ _ => ?_
    walk_at "vc"
    have hrr := rowsL_rng (bl := bl) (show 0 < m by omega) hk ho
    refine doubt_w hm hm2 (by have := rowsL_len m hs bl r; omega) hrr fun d _ _ hD => ?_
    rcases hD with ⟨t, g, rfl, t0, t1, g0, g1, hT⟩ | hP
    · walk_at "vc"
      refine q _ _ (.inl ⟨t, (t + g) % m, r, rfl, hr, t0, t1, Int.emod_nonneg _ (by omega), Int.emod_lt_of_pos _ (by omega), fun e => ?_, hT⟩)
      have h2 := Int.emod_eq_of_lt t0 t1
      have h3 : m ∣ t + g - t := mod_eq_dvd.mp (by rw [e, h2])
      have := Int.le_of_dvd (by omega) h3
      omega
    · have hP2 := hP
      obtain ⟨w, ms, rfl, hml, hmr, hP⟩ := hP
      rcases hP with ⟨rfl, _⟩ | ⟨rfl, _⟩
      · walk_at "vc"
        exact ⟨_, _, _, by rw [List.length_append, hpl]; rfl, hM2 _ hP2, rfl⟩
      · walk_at "vc"
        exact ⟨_, _, _, by rw [List.length_append, hpl]; rfl, hM2 _ hP2, rfl⟩
  · rintro e ⟨ps, x3, x4, hpl, hM, rfl⟩
    rw [List.length_map] at hpl
    walk_at "vc"
    exact q _ _ (.inr ⟨ps, rfl, hpl, hM⟩)

theorem taken_w {m t u : Int} {hs : List Hd} {bl mir : Bool} {r : Rd} {Q : D → List Sl → Prop} (hm : 0 < m) (hm2 : m ≤ 10 ^ 60) (h1 : 1 ≤ hs.length) (hn : hs.length ≤ 5) (ho : SwOk hs.length r.1) (hk : HandsOk m hs) (ht : t.natAbs < 10 ^ 120) (hu : u.natAbs < 10 ^ 120) (q : ∀ x y z w, Q (.bool (takenB m (rowsL m hs bl r) t u)) [x, y, z, w]) :
    WG g_is_taken [.val (clockD m hs bl mir), .val (rD r), .val (.int t), .val (.int u)] Q := by
  have hrw := rowsL_rng (bl := bl) hm hk ho
  have hrl := rowsL_len m hs bl r
  refine wg_run rfl ?_
  unfold b_is_taken
  walk_at "vc"
  refine wl_compP (fun _ _ => true) (fun _ => fun d => .bool (tkR m t u d)) ?_
  walk_at "vc"
  refine rows_w hm hm2 h1 hn ho hk fun _ _ => ?_
  walk_at "vc"
  refine ⟨rfl, fits_of (by rw [List.length_map]; omega), fun d hd => ?_, ?_⟩
  · obtain ⟨x, hx, rfl⟩ := List.mem_map.mp hd
    obtain ⟨⟨a0, a1⟩, ⟨b0, b1⟩, c0, c1⟩ := hrw x hx
    unfold rwD
    walk_at "vc"
    refine ⟨rfl, ?_⟩
    walk_at "vc"
    exact ⟨rfl, rfl⟩
  · rw [filter_yes]
    walk_at "vc"
    refine wo_allM ?_
    rw [takenB_D]
    exact q _ _ _ _

end Lw

namespace Lw
open PySem PySem.Spec PyProof.Rows L2 M
local macro_rules | `(tactic| walk_at "sd") => `(tactic| (first | (with_reducible assumption) | omega | (simp; done) | (simp; omega) | decide))
local macro_rules | `(tactic| walk_at "v1") => `(tactic| (first | ((with_reducible show WE _ _ _); first | with_reducible refine we_callN ?_ | with_reducible refine we_c ?_ | with_reducible refine we_un ?_ | with_reducible refine we_bin ?_ | with_reducible refine we_chain ?_ | with_reducible refine we_and ?_ | with_reducible refine we_or ?_ | with_reducible refine we_not ?_ | with_reducible refine we_if ?_ | with_reducible refine we_fz ?_ | with_reducible refine we_tup ?_ | with_reducible refine we_sl ?_ | with_reducible refine we_tupRg ?_ | with_reducible refine we_bor ?_ | with_reducible refine we_call ?_ | with_reducible refine we_din ?_ | with_reducible refine we_borL ?_ | ((with_reducible apply we_v); (· rfl)) | ((with_reducible show WE (eO _) _ _); first | ((with_reducible apply we_oV); (· rfl)) | ((with_reducible apply we_oW); (· rfl)) | ((with_reducible apply we_oR); (· rfl))) | ((with_reducible show WE (eBinV _ _ _) _ _); first | ((with_reducible apply we_bV); (· rfl)) | ((with_reducible apply we_bVr); (· rfl)) | ((with_reducible apply we_bVv); (· rfl))) | ((with_reducible apply we_mut); (· rfl)) | ((with_reducible apply we_mut0); (· rfl)) | ((with_reducible apply we_dget2); (· rfl)) | ((with_reducible apply we_didx); (· rfl))) | ((with_reducible show WO _ _); first | ((with_reducible show WO (gIsO _ _) _); first | with_reducible refine wo_isON ?_ | ((with_reducible refine wo_isO (b := true) ?_ ?_); (· rfl)) | ((with_reducible refine wo_isO (b := false) ?_ ?_); (· rfl))) | with_reducible refine wo_attr ?_ | ((with_reducible show WO (valsA _) _); first | with_reducible refine vals_nil ?_ | with_reducible refine vals_v ?_) | with_reducible refine wo_isB ?_ | with_reducible refine wo_ntB ?_ | ((with_reducible show WO (backAr _ _ _) _); first | with_reducible refine back_nil ?_ | with_reducible refine back_v ?_ | with_reducible refine back_o ?_ | ((with_reducible apply back_r); (· rfl))) | ((with_reducible show WO (resArs _ _) _); first | with_reducible refine res_nil ?_ | with_reducible refine res_v ?_ | ((with_reducible apply res_r); (· rfl)) | ((with_reducible apply res_oO); (· rfl)) | ((with_reducible apply res_oR); (· rfl)) | ((with_reducible apply res_oV); (· rfl))) | ((with_reducible show WO (gAdd _ _) _); first | with_reducible refine wo_add ?_ | ((with_reducible refine wo_addL ?_ ?_); (· first | rfl | (apply fits_of; first | omega | (simp; omega)))) | ((with_reducible refine wo_addT ?_ ?_); (· first | rfl | (apply fits_of; first | omega | (simp; omega))))) | with_reducible refine wo_sub ?_ | with_reducible refine wo_neg ?_ | with_reducible refine wo_lt ?_ | with_reducible refine wo_le ?_ | with_reducible refine wo_gt ?_ | with_reducible refine wo_ge ?_ | ((with_reducible show WO (gEq _ _) _); first | with_reducible refine wo_eq ?_ | with_reducible refine wo_eqB ?_ | ((with_reducible refine wo_eqT ?_ ?_); (· decide +kernel)) | ((with_reducible refine wo_eqF ?_ ?_); (· decide +kernel))) | ((with_reducible show WO (gNe _ _) _); first | with_reducible refine wo_ne ?_ | with_reducible refine wo_neB ?_ | ((with_reducible refine wo_neT ?_ ?_); (· decide +kernel)) | ((with_reducible refine wo_neF ?_ ?_); (· decide +kernel))) | with_reducible refine wo_isN ?_ | with_reducible refine wo_ntN ?_ | ((with_reducible show WO (gLen _) _); first | with_reducible refine wo_lenL ?_ | with_reducible refine wo_lenT ?_) | with_reducible refine wo_abs ?_ | ((with_reducible show WO (gInt _) _); first | with_reducible refine wo_intB ?_ | with_reducible refine wo_intI ?_) | ((with_reducible show WO (gList _) _); first | with_reducible refine wo_listL ?_ | with_reducible refine wo_listT ?_) | ((with_reducible show WO (gTuple _) _); first | with_reducible refine wo_tupL ?_ | with_reducible refine wo_tupT ?_) | with_reducible refine wo_max ?_ | with_reducible refine wo_min ?_ | ((with_reducible show WO (gIsi _ _) _); first | with_reducible refine wo_isiI ?_ | with_reducible refine wo_isiB ?_ | ((with_reducible apply wo_isiE); (· rfl))) | ((with_reducible show WO (cutOf _ _ _) _); first | with_reducible refine wo_cutL ?_ | with_reducible refine wo_cutT ?_) | ((with_reducible show WO (gPow _ _) _); first | with_reducible refine wo_p10_60 ?_ | with_reducible refine wo_p10_18 ?_ | with_reducible refine wo_p10_30 ?_ | with_reducible refine wo_p2_24 ?_ | with_reducible refine wo_p10_8 ?_ | with_reducible refine wo_p10_19 ?_ | with_reducible refine wo_p10_55 ?_ | with_reducible refine wo_p10_59 ?_ | with_reducible refine wo_p3_30 ?_ | with_reducible refine wo_p2_40 ?_ | with_reducible refine wo_p10_54 ?_ | with_reducible refine wo_p3_13 ?_ | with_reducible refine wo_p2_20 ?_ | with_reducible refine wo_p10_57 ?_ | with_reducible refine wo_p10_40 ?_ | with_reducible refine wo_p10_61 ?_ | with_reducible refine wo_p10_50 ?_) | ((with_reducible apply wo_idxE); (· rfl)) | ((with_reducible apply wo_allE); (· rfl)) | ((with_reducible apply wo_anyE); (· rfl)) | ((with_reducible show WO (ixN _ _) _); first | ((with_reducible apply wo_ixE); (· rfl)) | ((with_reducible refine wo_ix ?_ ?_ ?_); (· walk_at "sd"); (· walk_at "sd"))) | ((with_reducible refine wo_mod ?_ ?_); (· walk_at "sd")) | ((with_reducible refine wo_div ?_ ?_ ?_); (· walk_at "sd"); (· walk_at "sd")) | ((with_reducible refine wo_mul ?_ ?_); (· first | exact mul_ok1 (by walk_at "sd") | exact mul_ok2 (by walk_at "sd") | exact mul_ok3 (by omega) (by omega))) | ((with_reducible refine wo_app ?_ ?_); (· first | rfl | (apply fits_of; first | omega | (simp; omega)))) | ((with_reducible refine wo_ext ?_ ?_); (· first | rfl | (apply fits_of; first | omega | (simp; omega))))) | ((with_reducible show WS _ _ _); first | with_reducible refine ws_try ?_ | with_reducible refine ws_retT ?_ | with_reducible refine ws_seq ?_ | with_reducible refine ws_expr ?_ | with_reducible refine ws_ret ?_ | with_reducible refine ws_retL ?_ | with_reducible refine ws_if ?_ | with_reducible refine ws_set ?_ | with_reducible refine ws_setO ?_ | with_reducible refine ws_asg ?_ | with_reducible refine ws_par ?_ | with_reducible refine ws_nil ?_ | with_reducible refine ws_retN ?_ | with_reducible refine ws_dput ?_ | with_reducible refine ws_dnew ?_ | ((with_reducible show WS (sFrz _ _) _ _); first | ((with_reducible apply ws_frz); (· rfl)) | ((with_reducible apply ws_frzV); (· rfl))) | ((with_reducible apply ws_retO); (· rfl)) | ((with_reducible apply ws_putI); (· rfl))) | ((with_reducible apply nrm_); (· (try simp only [wipeE, backE, List.set_cons_zero, List.set_cons_succ, List.getElem?_cons_zero, List.getElem?_cons_succ, List.cons_append, List.nil_append, List.replicate_succ, List.replicate_zero, Nat.reduceSub, unowns_nil, unowns_cons, unown_own, unown_val, unown_no, unown_ro, unown_dct]); rfl)) | ((with_reducible show IfB _ _ _); first | with_reducible refine ifb_not ?_ | with_reducible refine ifb_t ?_ | with_reducible refine ifb_f ?_ | ((with_reducible refine ifb_decT ?_ ?_); (· first | (with_reducible assumption) | omega | (simp only [List.length_cons, List.length_nil]; omega))) | ((with_reducible refine ifb_decF ?_ ?_); (· first | (with_reducible assumption) | omega | (simp only [List.length_cons, List.length_nil]; omega))) | with_reducible refine ifb_dec (fun _ => ?_) (fun _ => ?_) | ((with_reducible apply ifb_eT); (· rfl)) | ((with_reducible apply ifb_eF); (· rfl))) | ((with_reducible show WB _ _ _); first | with_reducible refine wb_bor ?_ | with_reducible refine wb_v ?_ | with_reducible refine wb_and ?_ | with_reducible refine wb_or ?_ | with_reducible refine wb_not ?_ | with_reducible refine wb_yes ?_) | with_reducible refine isb ?_ | ((with_reducible show WL _ _ _); first | with_reducible refine wl_nil ?_ | with_reducible refine wl_cons ?_ | with_reducible refine wl_lst ?_ | with_reducible refine wl_un ?_ | with_reducible refine wl_it ?_ | with_reducible refine wl_rng1 ?_ | with_reducible refine wl_rng2 ?_ | with_reducible refine wl_enum ?_ | with_reducible refine wl_enumA ?_ | with_reducible refine wl_addE ?_ | with_reducible refine wl_rg1 ?_ | with_reducible refine wl_bor ?_ | with_reducible refine wl_call ?_ | ((with_reducible apply wl_addO); (· rfl)) | ((with_reducible show WL (lSlV _ _ _) _ _); first | ((with_reducible apply wl_slO); (· rfl)) | ((with_reducible apply wl_slR); (· rfl)))) | ((with_reducible show WA _ _ _); first | with_reducible refine wa_nil ?_ | with_reducible refine wa_v ?_ | ((with_reducible apply wa_r); (· rfl)) | ((with_reducible show WA (aO _ _) _ _); first | ((with_reducible apply wa_oR); (· rfl)) | ((with_reducible apply wa_oO); (· rfl)) | ((with_reducible apply wa_oV); (· rfl)))) | ((with_reducible show IsS _ _); first | with_reducible refine iss_l ?_ | with_reducible refine iss_t ?_) | ((with_reducible refine fit_ ?_ ?_); (· first | rfl | (apply fits_of; first | omega | (simp; omega)))) | ((with_reducible show CallG _ _ _ _); first | ((with_reducible apply cg0); (· rfl)) | ((with_reducible apply cg1); (· rfl); (· rfl))) | ((with_reducible show WT _ _ _ _); first | with_reducible refine wt_n ?_ | ((with_reducible apply wt_t); (· rfl)) | ((with_reducible apply wt_unl); (· rfl))) | ((with_reducible show WTs _ _ _ _); first | with_reducible refine wts_nil ?_ | with_reducible refine wts_cons ?_) | ((with_reducible apply own_); (· rfl)) | ((with_reducible refine sml_ ?_ ?_ ?_); (· walk_at "sd"); (· walk_at "sd")) | with_reducible refine isi_ ?_ | ((with_reducible show WSX _ _ _); first | with_reducible refine wsx_lift ?_ | with_reducible refine wsx_seq ?_ | with_reducible refine wsx_if ?_ | with_reducible refine wsx_raise0 ?_ | with_reducible refine wsx_expr ?_ | with_reducible refine wsx_ret ?_ | with_reducible refine wsx_set ?_) | with_reducible refine wex_call ?_ | ((with_reducible show WPu _ _ _ _); first | with_reducible refine wpu_nil ?_ | with_reducible refine wpu_seq ?_ | with_reducible refine wpu_ret ?_ | with_reducible refine wpu_if ?_) | ((with_reducible show WTd _ _ _ _ _); first | with_reducible refine wtd_P ?_ | with_reducible refine wtd_G ?_ | with_reducible refine wtd_If ?_ | ((with_reducible refine wtd_K ?_ ?_); (· exact ⟨rfl, by decide⟩)) | ((with_reducible refine wtd_U ?_ ?_); (· exact ⟨rfl, by decide⟩)) | ((with_reducible refine wtd_C ?_ ?_); (· rfl)) | ((with_reducible refine wtd_A ?_ ?_ ?_); (· rfl); (· first | rfl | (apply fits_of; first | omega | (simp; omega))))) | with_reducible refine two_ ?_ | ((with_reducible show WC _ _ _ _ _ _ _); first | with_reducible refine wc_nil ?_ | with_reducible refine wc_cons ?_) | ((with_reducible show WP _ _ _); first | with_reducible refine wp_no ?_ | with_reducible refine wp_e ?_) | with_reducible refine isl ?_ | ((with_reducible show RetT _ _ _); first | ((with_reducible apply retT1); (· rfl)) | ((with_reducible apply retT2); (· rfl))) | ((with_reducible show Any _ _); first | ((with_reducible apply any_o); (· rfl)) | ((with_reducible apply any_r); (· rfl))) | ((with_reducible show CallH _ _ _ _); first | ((with_reducible apply ch0); (· rfl)) | ((with_reducible apply ch1); (· rfl); (· rfl))) | ((with_reducible apply cgx0); (· rfl))))
local macro_rules | `(tactic| walk_at "v2") => `(tactic| (first | ((with_reducible show WE _ _ _); first | with_reducible refine we_callN ?_ | with_reducible refine we_c ?_ | with_reducible refine we_un ?_ | with_reducible refine we_bin ?_ | with_reducible refine we_chain ?_ | with_reducible refine we_and ?_ | with_reducible refine we_or ?_ | with_reducible refine we_not ?_ | with_reducible refine we_if ?_ | with_reducible refine we_fz ?_ | with_reducible refine we_tup ?_ | with_reducible refine we_sl ?_ | with_reducible refine we_tupRg ?_ | with_reducible refine we_bor ?_ | with_reducible refine we_call ?_ | with_reducible refine we_din ?_ | with_reducible refine we_borL ?_ | ((with_reducible apply we_v); (· rfl)) | ((with_reducible show WE (eO _) _ _); first | ((with_reducible apply we_oV); (· rfl)) | ((with_reducible apply we_oW); (· rfl)) | ((with_reducible apply we_oR); (· rfl))) | ((with_reducible show WE (eBinV _ _ _) _ _); first | ((with_reducible apply we_bV); (· rfl)) | ((with_reducible apply we_bVr); (· rfl)) | ((with_reducible apply we_bVv); (· rfl))) | ((with_reducible apply we_mut); (· rfl)) | ((with_reducible apply we_mut0); (· rfl)) | ((with_reducible apply we_dget2); (· rfl)) | ((with_reducible apply we_didx); (· rfl))) | ((with_reducible show WO _ _); first | ((with_reducible show WO (gIsO _ _) _); first | with_reducible refine wo_isON ?_ | ((with_reducible refine wo_isO (b := true) ?_ ?_); (· rfl)) | ((with_reducible refine wo_isO (b := false) ?_ ?_); (· rfl))) | with_reducible refine wo_attr ?_ | ((with_reducible show WO (valsA _) _); first | with_reducible refine vals_nil ?_ | with_reducible refine vals_v ?_) | with_reducible refine wo_isB ?_ | with_reducible refine wo_ntB ?_ | ((with_reducible show WO (backAr _ _ _) _); first | with_reducible refine back_nil ?_ | with_reducible refine back_v ?_ | with_reducible refine back_o ?_ | ((with_reducible apply back_r); (· rfl))) | ((with_reducible show WO (resArs _ _) _); first | with_reducible refine res_nil ?_ | with_reducible refine res_v ?_ | ((with_reducible apply res_r); (· rfl)) | ((with_reducible apply res_oO); (· rfl)) | ((with_reducible apply res_oR); (· rfl)) | ((with_reducible apply res_oV); (· rfl))) | ((with_reducible show WO (gAdd _ _) _); first | with_reducible refine wo_add ?_ | ((with_reducible refine wo_addL ?_ ?_); (· first | rfl | (apply fits_of; first | omega | (simp; omega)))) | ((with_reducible refine wo_addT ?_ ?_); (· first | rfl | (apply fits_of; first | omega | (simp; omega))))) | with_reducible refine wo_sub ?_ | with_reducible refine wo_neg ?_ | with_reducible refine wo_lt ?_ | with_reducible refine wo_le ?_ | with_reducible refine wo_gt ?_ | with_reducible refine wo_ge ?_ | ((with_reducible show WO (gEq _ _) _); first | with_reducible refine wo_eq ?_ | with_reducible refine wo_eqB ?_ | ((with_reducible refine wo_eqT ?_ ?_); (· decide +kernel)) | ((with_reducible refine wo_eqF ?_ ?_); (· decide +kernel))) | ((with_reducible show WO (gNe _ _) _); first | with_reducible refine wo_ne ?_ | with_reducible refine wo_neB ?_ | ((with_reducible refine wo_neT ?_ ?_); (· decide +kernel)) | ((with_reducible refine wo_neF ?_ ?_); (· decide +kernel))) | with_reducible refine wo_isN ?_ | with_reducible refine wo_ntN ?_ | ((with_reducible show WO (gLen _) _); first | with_reducible refine wo_lenL ?_ | with_reducible refine wo_lenT ?_) | with_reducible refine wo_abs ?_ | ((with_reducible show WO (gInt _) _); first | with_reducible refine wo_intB ?_ | with_reducible refine wo_intI ?_) | ((with_reducible show WO (gList _) _); first | with_reducible refine wo_listL ?_ | with_reducible refine wo_listT ?_) | ((with_reducible show WO (gTuple _) _); first | with_reducible refine wo_tupL ?_ | with_reducible refine wo_tupT ?_) | with_reducible refine wo_max ?_ | with_reducible refine wo_min ?_ | ((with_reducible show WO (gIsi _ _) _); first | with_reducible refine wo_isiI ?_ | with_reducible refine wo_isiB ?_ | ((with_reducible apply wo_isiE); (· rfl))) | ((with_reducible show WO (cutOf _ _ _) _); first | with_reducible refine wo_cutL ?_ | with_reducible refine wo_cutT ?_) | ((with_reducible show WO (gPow _ _) _); first | with_reducible refine wo_p10_60 ?_ | with_reducible refine wo_p10_18 ?_ | with_reducible refine wo_p10_30 ?_ | with_reducible refine wo_p2_24 ?_ | with_reducible refine wo_p10_8 ?_ | with_reducible refine wo_p10_19 ?_ | with_reducible refine wo_p10_55 ?_ | with_reducible refine wo_p10_59 ?_ | with_reducible refine wo_p3_30 ?_ | with_reducible refine wo_p2_40 ?_ | with_reducible refine wo_p10_54 ?_ | with_reducible refine wo_p3_13 ?_ | with_reducible refine wo_p2_20 ?_ | with_reducible refine wo_p10_57 ?_ | with_reducible refine wo_p10_40 ?_ | with_reducible refine wo_p10_61 ?_ | with_reducible refine wo_p10_50 ?_) | ((with_reducible apply wo_idxE); (· rfl)) | ((with_reducible apply wo_allE); (· rfl)) | ((with_reducible apply wo_anyE); (· rfl)) | ((with_reducible show WO (ixN _ _) _); first | ((with_reducible apply wo_ixE); (· rfl)) | ((with_reducible refine wo_ix ?_ ?_ ?_); (· walk_at "sd"); (· walk_at "sd"))) | ((with_reducible refine wo_mod ?_ ?_); (· walk_at "sd")) | ((with_reducible refine wo_div ?_ ?_ ?_); (· walk_at "sd"); (· walk_at "sd")) | ((with_reducible refine wo_mul ?_ ?_); (· first | exact mul_ok1 (by walk_at "sd") | exact mul_ok2 (by walk_at "sd") | exact mul_ok3 (by omega) (by omega))) | ((with_reducible refine wo_app ?_ ?_); (· first | rfl | (apply fits_of; first | omega | (simp; omega)))) | ((with_reducible refine wo_ext ?_ ?_); (· first | rfl | (apply fits_of; first | omega | (simp; omega))))) | ((with_reducible show WS _ _ _); first | with_reducible refine ws_try ?_ | with_reducible refine ws_retT ?_ | with_reducible refine ws_seq ?_ | with_reducible refine ws_expr ?_ | with_reducible refine ws_ret ?_ | with_reducible refine ws_retL ?_ | with_reducible refine ws_set ?_ | with_reducible refine ws_setO ?_ | with_reducible refine ws_asg ?_ | with_reducible refine ws_par ?_ | with_reducible refine ws_nil ?_ | with_reducible refine ws_retN ?_ | with_reducible refine ws_dput ?_ | with_reducible refine ws_dnew ?_ | ((with_reducible show WS (sFrz _ _) _ _); first | ((with_reducible apply ws_frz); (· rfl)) | ((with_reducible apply ws_frzV); (· rfl))) | ((with_reducible apply ws_retO); (· rfl)) | ((with_reducible apply ws_putI); (· rfl))) | ((with_reducible apply nrm_); (· (try simp only [wipeE, backE, List.set_cons_zero, List.set_cons_succ, List.getElem?_cons_zero, List.getElem?_cons_succ, List.cons_append, List.nil_append, List.replicate_succ, List.replicate_zero, Nat.reduceSub, unowns_nil, unowns_cons, unown_own, unown_val, unown_no, unown_ro, unown_dct]); rfl)) | ((with_reducible show IfB _ _ _); first | with_reducible refine ifb_not ?_ | with_reducible refine ifb_t ?_ | with_reducible refine ifb_f ?_ | ((with_reducible refine ifb_decT ?_ ?_); (· first | (with_reducible assumption) | omega | (simp only [List.length_cons, List.length_nil]; omega))) | ((with_reducible refine ifb_decF ?_ ?_); (· first | (with_reducible assumption) | omega | (simp only [List.length_cons, List.length_nil]; omega))) | with_reducible refine ifb_dec (fun _ => ?_) (fun _ => ?_) | ((with_reducible apply ifb_eT); (· rfl)) | ((with_reducible apply ifb_eF); (· rfl))) | ((with_reducible show WB _ _ _); first | with_reducible refine wb_bor ?_ | with_reducible refine wb_v ?_ | with_reducible refine wb_and ?_ | with_reducible refine wb_or ?_ | with_reducible refine wb_not ?_ | with_reducible refine wb_yes ?_) | with_reducible refine isb ?_ | ((with_reducible show WL _ _ _); first | with_reducible refine wl_nil ?_ | with_reducible refine wl_cons ?_ | with_reducible refine wl_lst ?_ | with_reducible refine wl_un ?_ | with_reducible refine wl_it ?_ | with_reducible refine wl_rng1 ?_ | with_reducible refine wl_rng2 ?_ | with_reducible refine wl_enum ?_ | with_reducible refine wl_enumA ?_ | with_reducible refine wl_addE ?_ | with_reducible refine wl_rg1 ?_ | with_reducible refine wl_bor ?_ | with_reducible refine wl_call ?_ | ((with_reducible apply wl_addO); (· rfl)) | ((with_reducible show WL (lSlV _ _ _) _ _); first | ((with_reducible apply wl_slO); (· rfl)) | ((with_reducible apply wl_slR); (· rfl)))) | ((with_reducible show WA _ _ _); first | with_reducible refine wa_nil ?_ | with_reducible refine wa_v ?_ | ((with_reducible apply wa_r); (· rfl)) | ((with_reducible show WA (aO _ _) _ _); first | ((with_reducible apply wa_oR); (· rfl)) | ((with_reducible apply wa_oO); (· rfl)) | ((with_reducible apply wa_oV); (· rfl)))) | ((with_reducible show IsS _ _); first | with_reducible refine iss_l ?_ | with_reducible refine iss_t ?_) | ((with_reducible refine fit_ ?_ ?_); (· first | rfl | (apply fits_of; first | omega | (simp; omega)))) | ((with_reducible show CallG _ _ _ _); first | ((with_reducible apply cg0); (· rfl)) | ((with_reducible apply cg1); (· rfl); (· rfl))) | ((with_reducible show WT _ _ _ _); first | with_reducible refine wt_n ?_ | ((with_reducible apply wt_t); (· rfl)) | ((with_reducible apply wt_unl); (· rfl))) | ((with_reducible show WTs _ _ _ _); first | with_reducible refine wts_nil ?_ | with_reducible refine wts_cons ?_) | ((with_reducible apply own_); (· rfl)) | ((with_reducible refine sml_ ?_ ?_ ?_); (· walk_at "sd"); (· walk_at "sd")) | with_reducible refine isi_ ?_ | ((with_reducible show WSX _ _ _); first | with_reducible refine wsx_lift ?_ | with_reducible refine wsx_seq ?_ | with_reducible refine wsx_if ?_ | with_reducible refine wsx_raise0 ?_ | with_reducible refine wsx_expr ?_ | with_reducible refine wsx_ret ?_ | with_reducible refine wsx_set ?_) | with_reducible refine wex_call ?_ | ((with_reducible show WPu _ _ _ _); first | with_reducible refine wpu_nil ?_ | with_reducible refine wpu_seq ?_ | with_reducible refine wpu_ret ?_ | with_reducible refine wpu_if ?_) | ((with_reducible show WTd _ _ _ _ _); first | with_reducible refine wtd_P ?_ | with_reducible refine wtd_G ?_ | with_reducible refine wtd_If ?_ | ((with_reducible refine wtd_K ?_ ?_); (· exact ⟨rfl, by decide⟩)) | ((with_reducible refine wtd_U ?_ ?_); (· exact ⟨rfl, by decide⟩)) | ((with_reducible refine wtd_C ?_ ?_); (· rfl)) | ((with_reducible refine wtd_A ?_ ?_ ?_); (· rfl); (· first | rfl | (apply fits_of; first | omega | (simp; omega))))) | with_reducible refine two_ ?_ | ((with_reducible show WC _ _ _ _ _ _ _); first | with_reducible refine wc_nil ?_ | with_reducible refine wc_cons ?_) | ((with_reducible show WP _ _ _); first | with_reducible refine wp_no ?_ | with_reducible refine wp_e ?_) | with_reducible refine isl ?_ | ((with_reducible show RetT _ _ _); first | ((with_reducible apply retT1); (· rfl)) | ((with_reducible apply retT2); (· rfl))) | ((with_reducible show Any _ _); first | ((with_reducible apply any_o); (· rfl)) | ((with_reducible apply any_r); (· rfl))) | ((with_reducible show CallH _ _ _ _); first | ((with_reducible apply ch0); (· rfl)) | ((with_reducible apply ch1); (· rfl); (· rfl))) | ((with_reducible apply cgx0); (· rfl))))
local macro_rules | `(tactic| walk_at "vc") => `(tactic| (repeat' first | ((with_reducible show WE _ _ _); first | with_reducible refine we_callN ?_ | with_reducible refine we_c ?_ | with_reducible refine we_un ?_ | with_reducible refine we_bin ?_ | with_reducible refine we_chain ?_ | with_reducible refine we_and ?_ | with_reducible refine we_or ?_ | with_reducible refine we_not ?_ | with_reducible refine we_if ?_ | with_reducible refine we_fz ?_ | with_reducible refine we_tup ?_ | with_reducible refine we_sl ?_ | with_reducible refine we_tupRg ?_ | with_reducible refine we_bor ?_ | with_reducible refine we_call ?_ | with_reducible refine we_din ?_ | with_reducible refine we_borL ?_ | ((with_reducible apply we_v); (· rfl)) | ((with_reducible show WE (eO _) _ _); first | ((with_reducible apply we_oV); (· rfl)) | ((with_reducible apply we_oW); (· rfl)) | ((with_reducible apply we_oR); (· rfl))) | ((with_reducible show WE (eBinV _ _ _) _ _); first | ((with_reducible apply we_bV); (· rfl)) | ((with_reducible apply we_bVr); (· rfl)) | ((with_reducible apply we_bVv); (· rfl))) | ((with_reducible apply we_mut); (· rfl)) | ((with_reducible apply we_mut0); (· rfl)) | ((with_reducible apply we_dget2); (· rfl)) | ((with_reducible apply we_didx); (· rfl))) | ((with_reducible show WO _ _); first | ((with_reducible show WO (gIsO _ _) _); first | with_reducible refine wo_isON ?_ | ((with_reducible refine wo_isO (b := true) ?_ ?_); (· rfl)) | ((with_reducible refine wo_isO (b := false) ?_ ?_); (· rfl))) | with_reducible refine wo_attr ?_ | ((with_reducible show WO (valsA _) _); first | with_reducible refine vals_nil ?_ | with_reducible refine vals_v ?_) | with_reducible refine wo_isB ?_ | with_reducible refine wo_ntB ?_ | ((with_reducible show WO (backAr _ _ _) _); first | with_reducible refine back_nil ?_ | with_reducible refine back_v ?_ | with_reducible refine back_o ?_ | ((with_reducible apply back_r); (· rfl))) | ((with_reducible show WO (resArs _ _) _); first | with_reducible refine res_nil ?_ | with_reducible refine res_v ?_ | ((with_reducible apply res_r); (· rfl)) | ((with_reducible apply res_oO); (· rfl)) | ((with_reducible apply res_oR); (· rfl)) | ((with_reducible apply res_oV); (· rfl))) | ((with_reducible show WO (gAdd _ _) _); first | with_reducible refine wo_add ?_ | ((with_reducible refine wo_addL ?_ ?_); (· first | rfl | (apply fits_of; first | omega | (simp; omega)))) | ((with_reducible refine wo_addT ?_ ?_); (· first | rfl | (apply fits_of; first | omega | (simp; omega))))) | with_reducible refine wo_sub ?_ | with_reducible refine wo_neg ?_ | with_reducible refine wo_lt ?_ | with_reducible refine wo_le ?_ | with_reducible refine wo_gt ?_ | with_reducible refine wo_ge ?_ | ((with_reducible show WO (gEq _ _) _); first | with_reducible refine wo_eq ?_ | with_reducible refine wo_eqB ?_ | ((with_reducible refine wo_eqT ?_ ?_); (· decide +kernel)) | ((with_reducible refine wo_eqF ?_ ?_); (· decide +kernel))) | ((with_reducible show WO (gNe _ _) _); first | with_reducible refine wo_ne ?_ | with_reducible refine wo_neB ?_ | ((with_reducible refine wo_neT ?_ ?_); (· decide +kernel)) | ((with_reducible refine wo_neF ?_ ?_); (· decide +kernel))) | with_reducible refine wo_isN ?_ | with_reducible refine wo_ntN ?_ | ((with_reducible show WO (gLen _) _); first | with_reducible refine wo_lenL ?_ | with_reducible refine wo_lenT ?_) | with_reducible refine wo_abs ?_ | ((with_reducible show WO (gInt _) _); first | with_reducible refine wo_intB ?_ | with_reducible refine wo_intI ?_) | ((with_reducible show WO (gList _) _); first | with_reducible refine wo_listL ?_ | with_reducible refine wo_listT ?_) | ((with_reducible show WO (gTuple _) _); first | with_reducible refine wo_tupL ?_ | with_reducible refine wo_tupT ?_) | with_reducible refine wo_max ?_ | with_reducible refine wo_min ?_ | ((with_reducible show WO (gIsi _ _) _); first | with_reducible refine wo_isiI ?_ | with_reducible refine wo_isiB ?_ | ((with_reducible apply wo_isiE); (· rfl))) | ((with_reducible show WO (cutOf _ _ _) _); first | with_reducible refine wo_cutL ?_ | with_reducible refine wo_cutT ?_) | ((with_reducible show WO (gPow _ _) _); first | with_reducible refine wo_p10_60 ?_ | with_reducible refine wo_p10_18 ?_ | with_reducible refine wo_p10_30 ?_ | with_reducible refine wo_p2_24 ?_ | with_reducible refine wo_p10_8 ?_ | with_reducible refine wo_p10_19 ?_ | with_reducible refine wo_p10_55 ?_ | with_reducible refine wo_p10_59 ?_ | with_reducible refine wo_p3_30 ?_ | with_reducible refine wo_p2_40 ?_ | with_reducible refine wo_p10_54 ?_ | with_reducible refine wo_p3_13 ?_ | with_reducible refine wo_p2_20 ?_ | with_reducible refine wo_p10_57 ?_ | with_reducible refine wo_p10_40 ?_ | with_reducible refine wo_p10_61 ?_ | with_reducible refine wo_p10_50 ?_) | ((with_reducible apply wo_idxE); (· rfl)) | ((with_reducible apply wo_allE); (· rfl)) | ((with_reducible apply wo_anyE); (· rfl)) | ((with_reducible show WO (ixN _ _) _); first | ((with_reducible apply wo_ixE); (· rfl)) | ((with_reducible refine wo_ix ?_ ?_ ?_); (· walk_at "sd"); (· walk_at "sd"))) | ((with_reducible refine wo_mod ?_ ?_); (· walk_at "sd")) | ((with_reducible refine wo_div ?_ ?_ ?_); (· walk_at "sd"); (· walk_at "sd")) | ((with_reducible refine wo_mul ?_ ?_); (· first | exact mul_ok1 (by walk_at "sd") | exact mul_ok2 (by walk_at "sd") | exact mul_ok3 (by omega) (by omega))) | ((with_reducible refine wo_app ?_ ?_); (· first | rfl | (apply fits_of; first | omega | (simp; omega)))) | ((with_reducible refine wo_ext ?_ ?_); (· first | rfl | (apply fits_of; first | omega | (simp; omega))))) | ((with_reducible show WS _ _ _); first | with_reducible refine ws_try ?_ | with_reducible refine ws_retT ?_ | with_reducible refine ws_seq ?_ | with_reducible refine ws_expr ?_ | with_reducible refine ws_ret ?_ | with_reducible refine ws_retL ?_ | with_reducible refine ws_if ?_ | with_reducible refine ws_set ?_ | with_reducible refine ws_setO ?_ | with_reducible refine ws_asg ?_ | with_reducible refine ws_par ?_ | with_reducible refine ws_nil ?_ | with_reducible refine ws_retN ?_ | with_reducible refine ws_dput ?_ | with_reducible refine ws_dnew ?_ | ((with_reducible show WS (sFrz _ _) _ _); first | ((with_reducible apply ws_frz); (· rfl)) | ((with_reducible apply ws_frzV); (· rfl))) | ((with_reducible apply ws_retO); (· rfl)) | ((with_reducible apply ws_putI); (· rfl))) | ((with_reducible apply nrm_); (· (try simp only [wipeE, backE, List.set_cons_zero, List.set_cons_succ, List.getElem?_cons_zero, List.getElem?_cons_succ, List.cons_append, List.nil_append, List.replicate_succ, List.replicate_zero, Nat.reduceSub, unowns_nil, unowns_cons, unown_own, unown_val, unown_no, unown_ro, unown_dct]); rfl)) | ((with_reducible show IfB _ _ _); first | with_reducible refine ifb_not ?_ | with_reducible refine ifb_t ?_ | with_reducible refine ifb_f ?_ | ((with_reducible refine ifb_decT ?_ ?_); (· first | (with_reducible assumption) | omega | (simp only [List.length_cons, List.length_nil]; omega))) | ((with_reducible refine ifb_decF ?_ ?_); (· first | (with_reducible assumption) | omega | (simp only [List.length_cons, List.length_nil]; omega))) | with_reducible refine ifb_dec (fun _ => ?_) (fun _ => ?_) | ((with_reducible apply ifb_eT); (· rfl)) | ((with_reducible apply ifb_eF); (· rfl))) | ((with_reducible show WB _ _ _); first | with_reducible refine wb_bor ?_ | with_reducible refine wb_v ?_ | with_reducible refine wb_and ?_ | with_reducible refine wb_or ?_ | with_reducible refine wb_not ?_ | with_reducible refine wb_yes ?_) | with_reducible refine isb ?_ | ((with_reducible show WL _ _ _); first | with_reducible refine wl_nil ?_ | with_reducible refine wl_cons ?_ | with_reducible refine wl_lst ?_ | with_reducible refine wl_un ?_ | with_reducible refine wl_it ?_ | with_reducible refine wl_rng1 ?_ | with_reducible refine wl_rng2 ?_ | with_reducible refine wl_enum ?_ | with_reducible refine wl_enumA ?_ | with_reducible refine wl_addE ?_ | with_reducible refine wl_rg1 ?_ | with_reducible refine wl_bor ?_ | with_reducible refine wl_call ?_ | ((with_reducible apply wl_addO); (· rfl)) | ((with_reducible show WL (lSlV _ _ _) _ _); first | ((with_reducible apply wl_slO); (· rfl)) | ((with_reducible apply wl_slR); (· rfl)))) | ((with_reducible show WA _ _ _); first | with_reducible refine wa_nil ?_ | with_reducible refine wa_v ?_ | ((with_reducible apply wa_r); (· rfl)) | ((with_reducible show WA (aO _ _) _ _); first | ((with_reducible apply wa_oR); (· rfl)) | ((with_reducible apply wa_oO); (· rfl)) | ((with_reducible apply wa_oV); (· rfl)))) | ((with_reducible show IsS _ _); first | with_reducible refine iss_l ?_ | with_reducible refine iss_t ?_) | ((with_reducible refine fit_ ?_ ?_); (· first | rfl | (apply fits_of; first | omega | (simp; omega)))) | ((with_reducible show CallG _ _ _ _); first | ((with_reducible apply cg0); (· rfl)) | ((with_reducible apply cg1); (· rfl); (· rfl))) | ((with_reducible show WT _ _ _ _); first | with_reducible refine wt_n ?_ | ((with_reducible apply wt_t); (· rfl)) | ((with_reducible apply wt_unl); (· rfl))) | ((with_reducible show WTs _ _ _ _); first | with_reducible refine wts_nil ?_ | with_reducible refine wts_cons ?_) | ((with_reducible apply own_); (· rfl)) | ((with_reducible refine sml_ ?_ ?_ ?_); (· walk_at "sd"); (· walk_at "sd")) | with_reducible refine isi_ ?_ | ((with_reducible show WSX _ _ _); first | with_reducible refine wsx_lift ?_ | with_reducible refine wsx_seq ?_ | with_reducible refine wsx_if ?_ | with_reducible refine wsx_raise0 ?_ | with_reducible refine wsx_expr ?_ | with_reducible refine wsx_ret ?_ | with_reducible refine wsx_set ?_) | with_reducible refine wex_call ?_ | ((with_reducible show WPu _ _ _ _); first | with_reducible refine wpu_nil ?_ | with_reducible refine wpu_seq ?_ | with_reducible refine wpu_ret ?_ | with_reducible refine wpu_if ?_) | ((with_reducible show WTd _ _ _ _ _); first | with_reducible refine wtd_P ?_ | with_reducible refine wtd_G ?_ | with_reducible refine wtd_If ?_ | ((with_reducible refine wtd_K ?_ ?_); (· exact ⟨rfl, by decide⟩)) | ((with_reducible refine wtd_U ?_ ?_); (· exact ⟨rfl, by decide⟩)) | ((with_reducible refine wtd_C ?_ ?_); (· rfl)) | ((with_reducible refine wtd_A ?_ ?_ ?_); (· rfl); (· first | rfl | (apply fits_of; first | omega | (simp; omega))))) | with_reducible refine two_ ?_ | ((with_reducible show WC _ _ _ _ _ _ _); first | with_reducible refine wc_nil ?_ | with_reducible refine wc_cons ?_) | ((with_reducible show WP _ _ _); first | with_reducible refine wp_no ?_ | with_reducible refine wp_e ?_) | with_reducible refine isl ?_ | ((with_reducible show RetT _ _ _); first | ((with_reducible apply retT1); (· rfl)) | ((with_reducible apply retT2); (· rfl))) | ((with_reducible show Any _ _); first | ((with_reducible apply any_o); (· rfl)) | ((with_reducible apply any_r); (· rfl))) | ((with_reducible show CallH _ _ _ _); first | ((with_reducible apply ch0); (· rfl)) | ((with_reducible apply ch1); (· rfl); (· rfl))) | ((with_reducible apply cgx0); (· rfl))))
local macro_rules | `(tactic| walk_at "vd") => `(tactic| (repeat' first | ((with_reducible show WE _ _ _); first | with_reducible refine we_callN ?_ | with_reducible refine we_c ?_ | with_reducible refine we_un ?_ | with_reducible refine we_bin ?_ | with_reducible refine we_chain ?_ | with_reducible refine we_and ?_ | with_reducible refine we_or ?_ | with_reducible refine we_not ?_ | with_reducible refine we_if ?_ | with_reducible refine we_fz ?_ | with_reducible refine we_tup ?_ | with_reducible refine we_sl ?_ | with_reducible refine we_tupRg ?_ | with_reducible refine we_bor ?_ | with_reducible refine we_call ?_ | with_reducible refine we_din ?_ | with_reducible refine we_borL ?_ | ((with_reducible apply we_v); (· rfl)) | ((with_reducible show WE (eO _) _ _); first | ((with_reducible apply we_oV); (· rfl)) | ((with_reducible apply we_oW); (· rfl)) | ((with_reducible apply we_oR); (· rfl))) | ((with_reducible show WE (eBinV _ _ _) _ _); first | ((with_reducible apply we_bV); (· rfl)) | ((with_reducible apply we_bVr); (· rfl)) | ((with_reducible apply we_bVv); (· rfl))) | ((with_reducible apply we_mut); (· rfl)) | ((with_reducible apply we_mut0); (· rfl)) | ((with_reducible apply we_dget2); (· rfl)) | ((with_reducible apply we_didx); (· rfl))) | ((with_reducible show WO _ _); first | ((with_reducible show WO (gIsO _ _) _); first | with_reducible refine wo_isON ?_ | ((with_reducible refine wo_isO (b := true) ?_ ?_); (· rfl)) | ((with_reducible refine wo_isO (b := false) ?_ ?_); (· rfl))) | with_reducible refine wo_attr ?_ | ((with_reducible show WO (valsA _) _); first | with_reducible refine vals_nil ?_ | with_reducible refine vals_v ?_) | with_reducible refine wo_isB ?_ | with_reducible refine wo_ntB ?_ | ((with_reducible show WO (backAr _ _ _) _); first | with_reducible refine back_nil ?_ | with_reducible refine back_v ?_ | with_reducible refine back_o ?_ | ((with_reducible apply back_r); (· rfl))) | ((with_reducible show WO (resArs _ _) _); first | with_reducible refine res_nil ?_ | with_reducible refine res_v ?_ | ((with_reducible apply res_r); (· rfl)) | ((with_reducible apply res_oO); (· rfl)) | ((with_reducible apply res_oR); (· rfl)) | ((with_reducible apply res_oV); (· rfl))) | ((with_reducible show WO (gAdd _ _) _); first | with_reducible refine wo_add ?_ | ((with_reducible refine wo_addL ?_ ?_); (· first | rfl | (apply fits_of; first | omega | (simp; omega)))) | ((with_reducible refine wo_addT ?_ ?_); (· first | rfl | (apply fits_of; first | omega | (simp; omega))))) | with_reducible refine wo_sub ?_ | with_reducible refine wo_neg ?_ | with_reducible refine wo_lt ?_ | with_reducible refine wo_le ?_ | with_reducible refine wo_gt ?_ | with_reducible refine wo_ge ?_ | ((with_reducible show WO (gEq _ _) _); first | with_reducible refine wo_eq ?_ | with_reducible refine wo_eqB ?_ | ((with_reducible refine wo_eqT ?_ ?_); (· decide +kernel)) | ((with_reducible refine wo_eqF ?_ ?_); (· decide +kernel))) | ((with_reducible show WO (gNe _ _) _); first | with_reducible refine wo_ne ?_ | with_reducible refine wo_neB ?_ | ((with_reducible refine wo_neT ?_ ?_); (· decide +kernel)) | ((with_reducible refine wo_neF ?_ ?_); (· decide +kernel))) | with_reducible refine wo_isN ?_ | with_reducible refine wo_ntN ?_ | ((with_reducible show WO (gLen _) _); first | with_reducible refine wo_lenL ?_ | with_reducible refine wo_lenT ?_) | with_reducible refine wo_abs ?_ | ((with_reducible show WO (gInt _) _); first | with_reducible refine wo_intB ?_ | with_reducible refine wo_intI ?_) | ((with_reducible show WO (gList _) _); first | with_reducible refine wo_listL ?_ | with_reducible refine wo_listT ?_) | ((with_reducible show WO (gTuple _) _); first | with_reducible refine wo_tupL ?_ | with_reducible refine wo_tupT ?_) | with_reducible refine wo_max ?_ | with_reducible refine wo_min ?_ | ((with_reducible show WO (gIsi _ _) _); first | with_reducible refine wo_isiI ?_ | with_reducible refine wo_isiB ?_ | ((with_reducible apply wo_isiE); (· rfl))) | ((with_reducible show WO (cutOf _ _ _) _); first | with_reducible refine wo_cutL ?_ | with_reducible refine wo_cutT ?_) | ((with_reducible show WO (gPow _ _) _); first | with_reducible refine wo_p10_60 ?_ | with_reducible refine wo_p10_18 ?_ | with_reducible refine wo_p10_30 ?_ | with_reducible refine wo_p2_24 ?_ | with_reducible refine wo_p10_8 ?_ | with_reducible refine wo_p10_19 ?_ | with_reducible refine wo_p10_55 ?_ | with_reducible refine wo_p10_59 ?_ | with_reducible refine wo_p3_30 ?_ | with_reducible refine wo_p2_40 ?_ | with_reducible refine wo_p10_54 ?_ | with_reducible refine wo_p3_13 ?_ | with_reducible refine wo_p2_20 ?_ | with_reducible refine wo_p10_57 ?_ | with_reducible refine wo_p10_40 ?_ | with_reducible refine wo_p10_61 ?_ | with_reducible refine wo_p10_50 ?_) | ((with_reducible apply wo_idxE); (· rfl)) | ((with_reducible apply wo_allE); (· rfl)) | ((with_reducible apply wo_anyE); (· rfl)) | ((with_reducible show WO (ixN _ _) _); first | ((with_reducible apply wo_ixE); (· rfl)) | ((with_reducible refine wo_ix ?_ ?_ ?_); (· walk_at "sd"); (· walk_at "sd"))) | ((with_reducible refine wo_mod ?_ ?_); (· walk_at "sd")) | ((with_reducible refine wo_div ?_ ?_ ?_); (· walk_at "sd"); (· walk_at "sd")) | ((with_reducible refine wo_mul ?_ ?_); (· first | exact mul_ok1 (by walk_at "sd") | exact mul_ok2 (by walk_at "sd") | exact mul_ok3 (by omega) (by omega))) | ((with_reducible refine wo_app ?_ ?_); (· first | rfl | (apply fits_of; first | omega | (simp; omega)))) | ((with_reducible refine wo_ext ?_ ?_); (· first | rfl | (apply fits_of; first | omega | (simp; omega))))) | ((with_reducible show WS _ _ _); first | with_reducible refine ws_try ?_ | with_reducible refine ws_retT ?_ | with_reducible refine ws_seq ?_ | with_reducible refine ws_expr ?_ | with_reducible refine ws_ret ?_ | with_reducible refine ws_retL ?_ | with_reducible refine ws_set ?_ | with_reducible refine ws_setO ?_ | with_reducible refine ws_asg ?_ | with_reducible refine ws_par ?_ | with_reducible refine ws_nil ?_ | with_reducible refine ws_retN ?_ | with_reducible refine ws_dput ?_ | with_reducible refine ws_dnew ?_ | ((with_reducible show WS (sFrz _ _) _ _); first | ((with_reducible apply ws_frz); (· rfl)) | ((with_reducible apply ws_frzV); (· rfl))) | ((with_reducible apply ws_retO); (· rfl)) | ((with_reducible apply ws_putI); (· rfl))) | ((with_reducible apply nrm_); (· (try simp only [wipeE, backE, List.set_cons_zero, List.set_cons_succ, List.getElem?_cons_zero, List.getElem?_cons_succ, List.cons_append, List.nil_append, List.replicate_succ, List.replicate_zero, Nat.reduceSub, unowns_nil, unowns_cons, unown_own, unown_val, unown_no, unown_ro, unown_dct]); rfl)) | ((with_reducible show IfB _ _ _); first | with_reducible refine ifb_not ?_ | with_reducible refine ifb_t ?_ | with_reducible refine ifb_f ?_ | ((with_reducible refine ifb_decT ?_ ?_); (· first | (with_reducible assumption) | omega | (simp only [List.length_cons, List.length_nil]; omega))) | ((with_reducible refine ifb_decF ?_ ?_); (· first | (with_reducible assumption) | omega | (simp only [List.length_cons, List.length_nil]; omega))) | with_reducible refine ifb_dec (fun _ => ?_) (fun _ => ?_) | ((with_reducible apply ifb_eT); (· rfl)) | ((with_reducible apply ifb_eF); (· rfl))) | ((with_reducible show WB _ _ _); first | with_reducible refine wb_bor ?_ | with_reducible refine wb_v ?_ | with_reducible refine wb_and ?_ | with_reducible refine wb_or ?_ | with_reducible refine wb_not ?_ | with_reducible refine wb_yes ?_) | with_reducible refine isb ?_ | ((with_reducible show WL _ _ _); first | with_reducible refine wl_nil ?_ | with_reducible refine wl_cons ?_ | with_reducible refine wl_lst ?_ | with_reducible refine wl_un ?_ | with_reducible refine wl_it ?_ | with_reducible refine wl_rng1 ?_ | with_reducible refine wl_rng2 ?_ | with_reducible refine wl_enum ?_ | with_reducible refine wl_enumA ?_ | with_reducible refine wl_addE ?_ | with_reducible refine wl_rg1 ?_ | with_reducible refine wl_bor ?_ | with_reducible refine wl_call ?_ | ((with_reducible apply wl_addO); (· rfl)) | ((with_reducible show WL (lSlV _ _ _) _ _); first | ((with_reducible apply wl_slO); (· rfl)) | ((with_reducible apply wl_slR); (· rfl)))) | ((with_reducible show WA _ _ _); first | with_reducible refine wa_nil ?_ | with_reducible refine wa_v ?_ | ((with_reducible apply wa_r); (· rfl)) | ((with_reducible show WA (aO _ _) _ _); first | ((with_reducible apply wa_oR); (· rfl)) | ((with_reducible apply wa_oO); (· rfl)) | ((with_reducible apply wa_oV); (· rfl)))) | ((with_reducible show IsS _ _); first | with_reducible refine iss_l ?_ | with_reducible refine iss_t ?_) | ((with_reducible refine fit_ ?_ ?_); (· first | rfl | (apply fits_of; first | omega | (simp; omega)))) | ((with_reducible show CallG _ _ _ _); first | ((with_reducible apply cg0); (· rfl)) | ((with_reducible apply cg1); (· rfl); (· rfl))) | ((with_reducible show WT _ _ _ _); first | with_reducible refine wt_n ?_ | ((with_reducible apply wt_t); (· rfl)) | ((with_reducible apply wt_unl); (· rfl))) | ((with_reducible show WTs _ _ _ _); first | with_reducible refine wts_nil ?_ | with_reducible refine wts_cons ?_) | ((with_reducible apply own_); (· rfl)) | ((with_reducible refine sml_ ?_ ?_ ?_); (· walk_at "sd"); (· walk_at "sd")) | with_reducible refine isi_ ?_ | ((with_reducible show WSX _ _ _); first | with_reducible refine wsx_lift ?_ | with_reducible refine wsx_seq ?_ | with_reducible refine wsx_if ?_ | with_reducible refine wsx_raise0 ?_ | with_reducible refine wsx_expr ?_ | with_reducible refine wsx_ret ?_ | with_reducible refine wsx_set ?_) | with_reducible refine wex_call ?_ | ((with_reducible show WPu _ _ _ _); first | with_reducible refine wpu_nil ?_ | with_reducible refine wpu_seq ?_ | with_reducible refine wpu_ret ?_ | with_reducible refine wpu_if ?_) | ((with_reducible show WTd _ _ _ _ _); first | with_reducible refine wtd_P ?_ | with_reducible refine wtd_G ?_ | with_reducible refine wtd_If ?_ | ((with_reducible refine wtd_K ?_ ?_); (· exact ⟨rfl, by decide⟩)) | ((with_reducible refine wtd_U ?_ ?_); (· exact ⟨rfl, by decide⟩)) | ((with_reducible refine wtd_C ?_ ?_); (· rfl)) | ((with_reducible refine wtd_A ?_ ?_ ?_); (· rfl); (· first | rfl | (apply fits_of; first | omega | (simp; omega))))) | with_reducible refine two_ ?_ | ((with_reducible show WC _ _ _ _ _ _ _); first | with_reducible refine wc_nil ?_ | with_reducible refine wc_cons ?_) | ((with_reducible show WP _ _ _); first | with_reducible refine wp_no ?_ | with_reducible refine wp_e ?_) | with_reducible refine isl ?_ | ((with_reducible show RetT _ _ _); first | ((with_reducible apply retT1); (· rfl)) | ((with_reducible apply retT2); (· rfl))) | ((with_reducible show Any _ _); first | ((with_reducible apply any_o); (· rfl)) | ((with_reducible apply any_r); (· rfl))) | ((with_reducible show CallH _ _ _ _); first | ((with_reducible apply ch0); (· rfl)) | ((with_reducible apply ch1); (· rfl); (· rfl))) | ((with_reducible apply cgx0); (· rfl))))
local macro_rules | `(tactic| walk_at "nr") => `(tactic| ((with_reducible apply nrm_); (· (try simp only [wipeE, backE, List.set_cons_zero, List.set_cons_succ, List.getElem?_cons_zero, List.getElem?_cons_succ, List.cons_append, List.nil_append, List.replicate_succ, List.replicate_zero, Nat.reduceSub, unowns_nil, unowns_cons, unown_own, unown_val, unown_no, unown_ro, unown_dct]); rfl)))
local macro_rules | `(tactic| walk_at "nb") => `(tactic| simp only [wipeE, backE, List.set_cons_zero, List.set_cons_succ, List.getElem?_cons_zero, List.getElem?_cons_succ])
section
variable {m : Int} {hs : List Hd} {bl mir : Bool} {S : List Nat} {Q : D → List Sl → Prop}
theorem handask_w {i : Int} (h0 : 0 ≤ i) (h1 : i < hs.length) (q : ∀ x y, Q .none [x, y]) :
    WG g_hand_asked [.val (clockD m hs bl mir), .val (.int i)] Q := by
  refine wg_run rfl ?_
  unfold b_hand_asked
  walk_at "vc"
  · exact q _ _
  · rename_i hc
    rw [List.length_map] at hc
    exact absurd h1 hc
theorem handsask_w (hl : S.length ≤ 100) (hS : ∀ i ∈ S, i < hs.length) (hr : S.Pairwise (· < ·)) (q : ∀ x y, Q .none [x, y]) :
    WG g_hands_asked [.val (clockD m hs bl mir), .val (tO S)] Q := by
  unfold tO
  refine wg_run rfl ?_
  unfold b_hands_asked
  walk_at "vc"
  refine ws_forN (fun ds k e => ∃ x2 x3 : Sl, e = [.val (clockD m hs bl mir), .val (.tuple (S.map fun (j : Nat) => PyData.int (j : Int))), x2, x3]) ?_
  refine wl_enumA ?_
  walk_at "vc"
  refine ⟨⟨_, _, rfl⟩, ?_, ?_⟩
  · rintro k e env hkl hd2 ⟨x2, x3, rfl⟩
    rw [M.pairs_len, irange_length, List.length_map, Nat.min_self] at hkl
    obtain ⟨x, y, hx, hy, rfl⟩ := pairs_get hd2
    obtain ⟨rfl, _⟩ := irange_at hx
    rw [List.getElem?_map, List.getElem?_eq_getElem hkl] at hy
    obtain rfl := Option.some.inj hy
    have hSk := hS S[k] (List.getElem_mem _)
    walk_at "vc"
    refine handask_w (by omega) (by omega) fun _ _ => ?_
    walk_at "vc"
    · have hk1 : k - 1 < S.length := by omega
      have hlt : S[k - 1] < S[k] := List.pairwise_iff_getElem.mp hr (k - 1) k hk1 hkl (by omega)
      have hidx : ∀ Q : D → Prop, Q (.int ((S[k - 1] : Nat) : Int)) → WO (gIdx (.tuple (S.map fun (j : Nat) => PyData.int (j : Int))) (.int ((k : Int) - 1))) Q := fun Q q => by
        rw [show (k : Int) - 1 = ((k - 1 : Nat) : Int) by omega]
        refine wo_idxT (by omega) (by rw [List.length_map]; omega) fun e he _ => ?_
        rw [List.getElem?_map, Int.toNat_natCast, List.getElem?_eq_getElem hk1] at he
        obtain rfl := Option.some.inj he
        exact q
      refine hidx _ ?_
      walk_at "vc"
      exact ⟨_, _, rfl⟩
    · exact ⟨_, _, rfl⟩
  · rintro e ⟨x2, x3, rfl⟩
    exact q _ _
end
theorem sets_w {n k : Nat} {Q : D → List Sl → Prop} (hn : n ≤ 5) (hk : k ≤ 7) (q : ∀ x y, Q (.list ((setsN n k).map tO)) [x, y]) :
    WG g_sets_of [.val (.int (n : Int)), .val (.int (k : Int))] Q := by
  refine wg_run rfl ?_
  unfold b_sets_of
  walk_at "vc"
  refine ws_forN (fun _ i e => ∃ x3 x4 x5 : Sl, e = [.val (.int (n : Int)), .val (.int (k : Int)), .val (.list ((setsN n i).map tO)), x3, x4, x5, .no]) ?_
  walk_at "vc"
  refine ⟨⟨_, _, _, rfl⟩, ?_, ?_⟩
  · rintro i d e hil hd ⟨x3, x4, x5, rfl⟩
    obtain ⟨rfl, hi⟩ := irange_at hd
    have hik : i < k := by omega
    have hlen := setsN_len n (by omega) i (by omega)
    have hlen2 := setsN_len n (by omega) (i + 1) (by omega)
    have hmem := fun s => setsN_mem (n := n) (k := i) (s := s)
    have hnx : setsN n (i + 1) = (setsN n i).flatMap (extS n) := rfl
    generalize setsN n i = F at *
    walk_at "vc"
    refine ws_forN (fun _ j e => ∃ x5 : Sl, e = [.val (.int (n : Int)), .val (.int (k : Int)), .val (.list (F.map tO)), .val (.int (i : Int)), .own true (((F.take j).flatMap (extS n)).map tO), x5, .no]) ?_
    walk_at "vc"
    refine ⟨⟨_, rfl⟩, ?_, ?_⟩
    · rintro j d e hj hd ⟨x5, rfl⟩
      rw [List.length_map] at hj
      rw [List.getElem?_map, List.getElem?_eq_getElem hj] at hd
      obtain rfl := Option.some.inj hd
      have hFj := (hmem F[j]).mp (List.getElem_mem _)
      have hs5 : F[j].length ≤ 7 := by omega
      have hLs : (F.take (j + 1)).flatMap (extS n) = (F.take j).flatMap (extS n) ++ extS n F[j] := by
        rw [List.take_succ_eq_append_getElem hj, List.flatMap_append]
        simp
      have hLl : ((F.take (j + 1)).flatMap (extS n)).length ≤ 10 := by
        refine Nat.le_trans ?_ hlen2
        have e : setsN n (i + 1) = (F.take (j + 1)).flatMap (extS n) ++ (F.drop (j + 1)).flatMap (extS n) := by
          rw [hnx, ← List.flatMap_append, List.take_append_drop]
        rw [e, List.length_append]
        omega
      rw [hLs, List.length_append] at hLl
      rw [hLs]
      generalize F[j] = s at *
      have hz : ∀ (z : Int), -1 ≤ z → (∀ x : Nat, decide (z < (x : Int)) = s.all fun y => decide (y < x)) → (irange (z + 1) ((n : Int) - (z + 1)).toNat).map (snocD s) = (extS n s).map tO := fun z h1 h2 => by
        rw [irange_from h1]
        exact snoc_map h2
      walk_at "vc"
      refine wl_compP (fun _ _ => true) (fun _ => snocD s) ?_
      walk_at "vc"
      refine wo_maxS fun z z0 zs z1 => ?_
      have zn : z < 5 := by
        rcases zs with rfl | ⟨j, hj, rfl⟩
        · omega
        · have := hFj.2.2 j hj
          omega
      have hzz := hz z z0 z1
      have hcl := congrArg List.length hzz
      rw [List.length_map, irange_length, List.length_map] at hcl
      walk_at "vc"
      refine ⟨rfl, fits_of (by rw [irange_length]; omega), fun d hd => ?_, ?_⟩
      · obtain ⟨y, rfl, y0, _⟩ := irange_mem hd
        obtain ⟨x, rfl⟩ : ∃ x : Nat, y = (x : Int) := ⟨y.toNat, by omega⟩
        walk_at "vc"
        refine ⟨rfl, ?_⟩
        walk_at "vc"
        refine wo_addO (by omega) ?_
        walk_at "vc"
        exact ⟨rfl, rfl⟩
      rw [filter_yes, hzz]
      walk_at "vc"
      refine wo_ext (fits_of (by rw [List.length_map, List.length_map]; omega)) ?_
      walk_at "vc"
      rw [List.map_append]
      exact ⟨_, rfl⟩
    · rintro e ⟨x5, rfl⟩
      rw [List.length_map, List.take_of_length_le (Nat.le_refl _)]
      walk_at "vc"
      rw [hnx]
      exact ⟨_, _, _, rfl⟩
  · rintro e ⟨x3, x4, x5, rfl⟩
    rw [irange_length]
    walk_at "vc"
    exact q _ _
section
variable {m : Int} {hs : List Hd} {bl mir : Bool} {Q : D → List Sl → Prop}
theorem isdoubt_w {d : D} (hm : 1 < m) (hm2 : m ≤ 10 ^ 60) (h1 : 1 ≤ hs.length) (hn : hs.length ≤ 5) (hk : HandsOk m hs) (hd : DbtOk m hs bl mir d) (q : ∀ x y, Q (.bool true) [x, y]) :
    WG g_is_doubt [.val (clockD m hs bl mir), .val d] Q := by
  obtain ⟨t, u, r, rfl, hr, t0, t1, u0, u1, hne, hT⟩ := hd
  have ho := (swapsL_ok (readL_mem hr).1).1
  rw [List.length_map] at ho
  have hz : ¬ (t - u) % m = 0 := fun h => not_dvd u0 u1 t0 t1 (fun e => hne e.symm) (Int.dvd_of_emod_eq_zero h)
  refine wg_run rfl ?_
  unfold b_is_doubt
  walk_at "vc"
  refine readings_w hn (fun h hh => (hk h hh).2.2.2.2) fun _ => ?_
  walk_at "vc"
  refine wo_niR hr ?_
  walk_at "vc"
  refine taken_w (by omega) hm2 h1 hn ho hk (by omega) (by omega) fun _ _ _ _ => ?_
  rw [hT]
  walk_at "vc"
  exact q _ _
theorem nodoubt_w (hm : 1 < m) (hm2 : m ≤ 10 ^ 60) (h1 : 1 ≤ hs.length) (hn : hs.length ≤ 5) (hk : HandsOk m hs) (q : ∀ x, Q (.bool (clrB m hs bl mir)) [x]) :
    WG g_no_doubt [.val (clockD m hs bl mir)] Q := by
  refine wg_run rfl ?_
  unfold b_no_doubt
  walk_at "vc"
  refine whole_w hm hm2 h1 hn hk fun d _ hW => ?_
  rcases hW.two (by omega) with ⟨e, rfl, hC⟩ | ⟨a, b, c, rfl, _, hC⟩
  · walk_at "vc"
    rw [show clrB m hs bl mir = true from clrB_iff.mpr hC] at q
    exact q _
  · walk_at "vc"
    rw [show clrB m hs bl mir = false from Bool.eq_false_iff.mpr fun h => hC (clrB_iff.mp h)] at q
    exact q _
theorem firstclear_w {Hs : List (List Hd)} (hm : 1 < m) (hm2 : m ≤ 10 ^ 60) (hl : Hs.length ≤ 100) (hH : ∀ h ∈ Hs, 1 ≤ h.length ∧ h.length ≤ 5 ∧ HandsOk m h) (q1 : ∀ (k : Nat) (ds : List D) x, (h : k < Hs.length) → Clr m Hs[k] bl mir → Q (.tuple [.int (k : Int), .list ds]) [x]) (q2 : ∀ ds x, DbtsOk m bl mir Hs ds → Q (.tuple [.none, .list ds]) [x]) :
    WG g_first_clear [.val (.list (Hs.map fun h => clockD m h bl mir))] Q := by
  refine wg_run rfl ?_
  unfold b_first_clear
  walk_at "vc"
  refine ws_forN (fun _ k e => ∃ (ds : List D) (x2 x3 x4 : Sl), DbtsOk m bl mir (Hs.take k) ds ∧ e = [.val (.list (Hs.map fun h => clockD m h bl mir)), .own true ds, x2, x3, x4]) ?_
  walk_at "vc"
  refine ⟨⟨[], _, _, _, DbtsOk.nil, rfl⟩, ?_, ?_⟩
  · rintro k e env hkl hd ⟨ds, x2, x3, x4, hD, rfl⟩
    rw [M.pairs_len, irange_length, List.length_map, Nat.min_self] at hkl
    obtain ⟨x, y, hx, hy, rfl⟩ := pairs_get hd
    obtain ⟨rfl, _⟩ := irange_at hx
    rw [List.getElem?_map, List.getElem?_eq_getElem hkl] at hy
    obtain rfl := Option.some.inj hy
    obtain ⟨g1, g2, g3⟩ := hH Hs[k] (List.getElem_mem _)
    have hdl := hD.len
    rw [List.length_take] at hdl
    walk_at "vc"
    refine whole_w hm hm2 g1 g2 g3 fun d _ hW => ?_
    rcases hW.two (by omega) with ⟨e, rfl, hC⟩ | ⟨a, b, c, rfl, hDb, _⟩
    · walk_at "vc"
      exact q1 k _ _ hkl hC
    · walk_at "vc"
      rw [show M.cutD [PyData.str (Str.ofString "rival"), a, b, c] (some 1) none = [a, b, c] from rfl]
      exact ⟨_, _, _, _, hD.snoc hkl hDb, rfl⟩
  · rintro e ⟨ds, x2, x3, x4, hD, rfl⟩
    rw [M.pairs_len, irange_length, List.length_map, Nat.min_self, List.take_of_length_le (Nat.le_refl _)] at hD
    walk_at "vc"
    exact q2 _ _ hD
theorem pairs_at {xs ys : List D} {d : D} (h : d ∈ pairs xs ys) : ∃ (k : Nat) (x y : D), xs[k]? = some x ∧ ys[k]? = some y ∧ d = .tuple [x, y] := by
  obtain ⟨k, hk, rfl⟩ := List.mem_iff_getElem.mp h
  obtain ⟨x, y, h1, h2, h3⟩ := pairs_get (List.getElem?_eq_getElem hk)
  exact ⟨k, x, y, h1, h2, h3⟩
theorem aredoubts_w {Hs : List (List Hd)} {ds : List D} (hm : 1 < m) (hm2 : m ≤ 10 ^ 60) (hl : Hs.length ≤ 100) (hH : ∀ h ∈ Hs, 1 ≤ h.length ∧ h.length ≤ 5 ∧ HandsOk m h) (h : ds.length ≠ Hs.length ∨ DbtsOk m bl mir Hs ds) (q : ∀ x y, Q (.bool (decide (ds.length = Hs.length))) [x, y]) :
    WG g_are_doubts [.val (.list (Hs.map fun h => clockD m h bl mir)), .val (.list ds)] Q := by
  refine wg_run rfl ?_
  unfold b_are_doubts
  by_cases hc : ds.length = Hs.length
  · have hD := h.resolve_left (fun k => k hc)
    rw [decide_eq_true hc] at q
    have hz : ((ds.length : Nat) : Int) = (((Hs.map fun h => clockD m h bl mir).length : Nat) : Int) := by rw [List.length_map]; omega
    walk_at "vc"
    refine wl_compP (fun _ _ => true) (fun _ _ => .bool true) ?_
    refine wl_zip ?_
    walk_at "vc"
    refine ⟨_, _, .inl ⟨rfl, rfl⟩, rfl, fits_of (by rw [M.pairs_len, List.length_map]; omega), fun d hd => ?_, ?_⟩
    · obtain ⟨k, x, y, hx, hy, rfl⟩ := pairs_at hd
      rw [List.getElem?_map] at hx
      obtain ⟨hkd, rfl⟩ := List.getElem?_eq_some_iff.mp hy
      have hk2 : k < Hs.length := by omega
      rw [List.getElem?_eq_getElem hk2] at hx
      obtain rfl := Option.some.inj hx
      obtain ⟨g1, g2, g3⟩ := hH Hs[k] (List.getElem_mem _)
      walk_at "vc"
      refine ⟨rfl, ?_⟩
      walk_at "vc"
      refine isdoubt_w hm hm2 g1 g2 g3 (hD.ok k hk2 hkd) fun _ _ => ?_
      walk_at "vc"
      exact ⟨rfl, rfl⟩
    rw [filter_yes]
    walk_at "vc"
    refine wo_allM (p := fun _ => true) ?_
    rw [List.all_eq_true.mpr fun _ _ => rfl]
    walk_at "vc"
    exact q _ _
  · have hz : ¬ ((ds.length : Nat) : Int) = (((Hs.map fun h => clockD m h bl mir).length : Nat) : Int) := by rw [List.length_map]; omega
    rw [decide_eq_false hc] at q
    walk_at "vc"
    exact q _ _
theorem rising_w {n : Nat} {S : List Nat} (hn : n ≤ 100) (hr : S.Pairwise (· < ·)) (hS : ∀ x ∈ S, x < n) (q : ∀ x y, Q (.bool true) [x, y]) :
    WG g_is_rising_in [.val (tO S), .val (.int (n : Int))] Q := by
  refine wg_run rfl ?_
  unfold b_is_rising_in
  walk_at "vc"
  unfold tO
  refine wo_listT ?_
  walk_at "vc"
  refine wl_compP (fun _ d => decide (naD d ∈ S)) (fun _ d => d) ?_
  walk_at "vc"
  refine ⟨rfl, fits_of (by rw [irange_length]; omega), fun d hd => ?_, ?_⟩
  · obtain ⟨y, rfl, y0, _⟩ := irange_mem hd
    obtain ⟨x, rfl⟩ : ∃ x : Nat, y = (x : Int) := ⟨y.toNat, by omega⟩
    walk_at "vc"
    refine wo_inO ?_
    walk_at "vc"
    exact ⟨rfl, ifb_any (fun _ => by walk_at "vc"; exact ⟨rfl, rfl⟩) fun _ => rfl⟩
  have e : ((irange 0 ((n : Int)).toNat).filter fun d => decide (naD d ∈ S)).map (fun d => d) = (S.map fun (j : Nat) => (j : Int)).map .int := by
    rw [List.map_id', Int.toNat_natCast]
    unfold irange
    rw [List.filter_map, List.map_map]
    conv => rhs; rw [← filter_mem hr hS]
    have e2 : ((fun d => decide (naD d ∈ S)) ∘ fun (i : Nat) => PyData.int (0 + (i : Int))) = fun x => decide (x ∈ S) := by
      funext x
      show decide ((0 + (x : Int)).toNat ∈ S) = _
      rw [show (0 + (x : Int)).toNat = x by omega]
    rw [e2]
    refine List.map_congr_left fun x _ => ?_
    show PyData.int (0 + (x : Int)) = _
    rw [Int.zero_add]
    rfl
  rw [e]
  rw [show (S.map fun (j : Nat) => PyData.int (j : Int)) = (S.map fun (j : Nat) => (j : Int)).map .int by rw [List.map_map]; rfl]
  refine wo_eqInts ?_
  rw [decide_eq_true rfl]
  exact q _ _
theorem wo_eqNil {S : List Nat} {Q : D → Prop} (q : Q (.bool (decide (S = [])))) : WO (gEq (tO S) (.tuple [])) Q := by
  refine wo_eqD ((lay_tO (n := 0) S).shp (by omega)) rfl ?_
  rw [show PyData.eqv (tO S) (.tuple []) = decide (S = []) by cases S <;> rfl]
  exact q
end
theorem lsets_w {n k : Nat} {Q : D → List Sl → Prop} (hn : n ≤ 5) (hk : k ≤ 7) (q : ∀ x y, Q (.list ((setsN n k).map tO)) [x, y]) :
    WG g__law_sets [.val (.int (n : Int)), .val (.int (k : Int))] Q := by
  refine wg_run rfl ?_
  unfold b__law_sets
  walk_at "vc"
  refine ws_forN (fun _ i e => ∃ x3 x4 x5 : Sl, e = [.val (.int (n : Int)), .val (.int (k : Int)), .val (.list ((setsN n i).map tO)), x3, x4, x5, .no]) ?_
  walk_at "vc"
  refine ⟨⟨_, _, _, rfl⟩, ?_, ?_⟩
  · rintro i d e hil hd ⟨x3, x4, x5, rfl⟩
    obtain ⟨rfl, hi⟩ := irange_at hd
    have hik : i < k := by omega
    have hlen := setsN_len n (by omega) i (by omega)
    have hlen2 := setsN_len n (by omega) (i + 1) (by omega)
    have hmem := fun s => setsN_mem (n := n) (k := i) (s := s)
    have hnx : setsN n (i + 1) = (setsN n i).flatMap (extS n) := rfl
    generalize setsN n i = F at *
    walk_at "vc"
    refine ws_forN (fun _ j e => ∃ x5 : Sl, e = [.val (.int (n : Int)), .val (.int (k : Int)), .val (.list (F.map tO)), .val (.int (i : Int)), .own true (((F.take j).flatMap (extS n)).map tO), x5, .no]) ?_
    walk_at "vc"
    refine ⟨⟨_, rfl⟩, ?_, ?_⟩
    · rintro j d e hj hd ⟨x5, rfl⟩
      rw [List.length_map] at hj
      rw [List.getElem?_map, List.getElem?_eq_getElem hj] at hd
      obtain rfl := Option.some.inj hd
      have hFj := (hmem F[j]).mp (List.getElem_mem _)
      have hs5 : F[j].length ≤ 7 := by omega
      have hLs : (F.take (j + 1)).flatMap (extS n) = (F.take j).flatMap (extS n) ++ extS n F[j] := by
        rw [List.take_succ_eq_append_getElem hj, List.flatMap_append]
        simp
      have hLl : ((F.take (j + 1)).flatMap (extS n)).length ≤ 10 := by
        refine Nat.le_trans ?_ hlen2
        have e : setsN n (i + 1) = (F.take (j + 1)).flatMap (extS n) ++ (F.drop (j + 1)).flatMap (extS n) := by
          rw [hnx, ← List.flatMap_append, List.take_append_drop]
        rw [e, List.length_append]
        omega
      rw [hLs, List.length_append] at hLl
      rw [hLs]
      generalize F[j] = s at *
      have hzz : ((irange 0 ((n : Int)).toNat).filter fun d => s.all fun y => decide (y < naD d)).map (snocD s) = (extS n s).map tO := by
        rw [Int.toNat_natCast]
        unfold irange
        rw [List.filter_map, ← snoc_map (n := n) (S := s) (P := fun x => s.all fun y => decide (y < x)) fun _ => rfl]
        have e2 : ((fun d => s.all fun y => decide (y < naD d)) ∘ fun (i : Nat) => PyData.int (0 + (i : Int))) = fun x => s.all fun y => decide (y < x) := by
          funext x
          show (s.all fun y => decide (y < (0 + (x : Int)).toNat)) = _
          rw [show (0 + (x : Int)).toNat = x by omega]
        rw [e2]
        congr 1
        refine List.map_congr_left fun x _ => ?_
        show PyData.int (0 + (x : Int)) = _
        rw [Int.zero_add]
      walk_at "vc"
      refine wl_compP (fun _ d => s.all fun y => decide (y < naD d)) (fun _ => snocD s) ?_
      walk_at "vc"
      refine ⟨rfl, fits_of (by rw [irange_length]; omega), fun d hd => ?_, ?_⟩
      · obtain ⟨y, rfl, y0, _⟩ := irange_mem hd
        obtain ⟨x, rfl⟩ : ∃ x : Nat, y = (x : Int) := ⟨y.toNat, by omega⟩
        walk_at "vc"
        refine wo_eqNil ?_
        by_cases h0 : s = []
        · subst h0
          rw [decide_eq_true rfl]
          walk_at "vc"
          refine ⟨rfl, ?_⟩
          walk_at "vc"
          refine wo_addO (by omega) ?_
          walk_at "vc"
          exact ⟨rfl, rfl⟩
        · rw [decide_eq_false h0]
          walk_at "vc"
          refine wo_lastO h0 fun a ha => ?_
          walk_at "vc"
          have hx : (s.all fun y => decide (y < x)) = decide (a < x) := by
            rw [Bool.eq_iff_iff, decide_eq_true_iff, List.all_eq_true]
            exact ⟨fun h => of_decide_eq_true (h a (ha hFj.2.1).1), fun h y hy => decide_eq_true (by have := (ha hFj.2.1).2 y hy; omega)⟩
          refine ⟨?_, ifb_any (fun _ => ?_) fun _ => rfl⟩
          · show _ = s.all fun y => decide (y < naD (.int (x : Int)))
            rw [show naD (.int (x : Int)) = x from rfl, hx, Bool.eq_iff_iff, decide_eq_true_iff, decide_eq_true_iff]
            omega
          · walk_at "vc"
            refine wo_addO (by omega) ?_
            walk_at "vc"
            exact ⟨rfl, rfl⟩
      rw [hzz]
      walk_at "vc"
      refine wo_ext (fits_of (by rw [List.length_map, List.length_map]; omega)) ?_
      walk_at "vc"
      rw [List.map_append]
      exact ⟨_, rfl⟩
    · rintro e ⟨x5, rfl⟩
      rw [List.length_map, List.take_of_length_le (Nat.le_refl _)]
      walk_at "vc"
      rw [hnx]
      exact ⟨_, _, _, rfl⟩
  · rintro e ⟨x3, x4, x5, rfl⟩
    rw [irange_length]
    walk_at "vc"
    exact q _ _

theorem wl_letters {env : En} {Q : List D → En → Prop} (q : Q lettersD env) : WL (lIt c_LETTERS) env Q := by
  have h1 : ("abcdefghijklmnopqrstuvwxyz" : Str).cps = letters.toArray := by decide +kernel
  have h2 : M.signs "abcdefghijklmnopqrstuvwxyz" = lettersD := by unfold M.signs lettersD; rw [h1]
  refine ⟨lettersD, env, ?_, q⟩
  unfold lIt c_LETTERS eC
  show some (M.signs "abcdefghijklmnopqrstuvwxyz", env) = _
  rw [h2]
section
variable {m : Int} {hs : List Hd} {bl mir : Bool} {Q : D → List Sl → Prop}
theorem painte_w {S : List Nat} (hS : SetOk hs.length S) (hn : hs.length ≤ 5) (hk : HandsOk m hs) (q : ∀ a b, Q (clockD m (pN hs S) bl mir) [a, b]) :
    WG g_painted_hands [.val (clockD m hs bl mir), .val (tO S)] Q := by
  have hSl := hS.len
  have hOk := ptN_take hk hn hS.r hS.b
  have hlk : ∀ x ∈ looksOf hs, isLk x := fun x hx => by
    obtain ⟨h, hh, rfl⟩ := List.mem_map.mp hx
    exact (hk h hh).2.2.2.2
  refine wg_run rfl ?_
  unfold b_painted_hands
  walk_at "nr"
  refine ws_mid (fun e => e = [.val (clockD m hs bl mir), .val (tO S), .no, .no, .no, .no, .no, .no, .no, .no, .no, .no, .no, .no]) ?_ ?_
  · walk_at "vc"
    refine handsask_w (by omega) hS.b hS.r fun _ _ => ?_
    walk_at "vc"
    rfl
  rintro _ rfl
  refine ws_mid (fun e => e = [.val (clockD m hs bl mir), .val (tO S), .val (.int m), .val (.tuple (hs.map hD)), .val (.bool bl), .val (.bool mir), .no, .no, .no, .no, .no, .no, .no, .no]) (by walk_at "vc"; rfl) ?_
  rintro _ rfl
  refine ws_mid (fun e => e = [.val (clockD m hs bl mir), .val (tO S), .val (.int m), .val (.tuple (hs.map hD)), .val (.bool bl), .val (.bool mir), .own true (hs.map hD), .no, .no, .no, .no, .no, .no, .no]) (by walk_at "vc"; rfl) ?_
  rintro _ rfl
  refine ws_mid (fun e => e = [.val (clockD m hs bl mir), .val (tO S), .val (.int m), .val (.tuple (hs.map hD)), .val (.bool bl), .val (.bool mir), .own true (hs.map hD), .own true ((looksOf hs).map .str), .no, .no, .no, .no, .no, .no]) ?_ ?_
  · walk_at "vc"
    refine wl_compP (fun _ _ => true) (fun _ => lookD) ?_
    walk_at "vc"
    refine ⟨rfl, fits_of (by rw [List.length_map]; omega), fun d hd => ?_, ?_⟩
    · obtain ⟨x, _, rfl⟩ := List.mem_map.mp hd
      unfold hD
      walk_at "vc"
      exact ⟨rfl, by walk_at "vc"; exact ⟨rfl, rfl⟩⟩
    rw [filter_yes, lookD_hands]
    walk_at "vc"
    rfl
  rintro _ rfl
  refine ws_mid (fun e => ∃ (x7 x8 x9 : Sl), e = [.val (clockD m hs bl mir), .val (tO S), .val (.int m), .val (.tuple (hs.map hD)), .val (.bool bl), .val (.bool mir), .own true ((pN hs S).map hD), x7, x8, x9, .no, .no, .no, .no]) ?_ ?_
  · refine ws_forN (fun ds k e => ∃ (x8 x9 : Sl), e = [.val (clockD m hs bl mir), .val (tO S), .val (.int m), .val (.tuple (hs.map hD)), .val (.bool bl), .val (.bool mir), .own true ((ptN hs (S.take k)).1.map hD), .own true ((ptN hs (S.take k)).2.map .str), x8, x9, .no, .no, .no, .no]) ?_
    walk_at "vc"
    unfold tO
    refine iss_t ?_
    refine ⟨⟨_, _, rfl⟩, ?_, ?_⟩
    · rintro k d2 e hkl hd2 ⟨x8, x9, rfl⟩
      rw [List.length_map] at hkl
      rw [List.getElem?_map, List.getElem?_eq_getElem hkl] at hd2
      obtain rfl := Option.some.inj hd2
      have hSk := hS.b S[k] (List.getElem_mem _)
      have hst := hOk k (by omega)
      have hts := hst.ts
      rw [List.length_take] at hts
      rw [ptN_succ hkl]
      have htk := hst.lk
      have hl' := hst.p.len
      generalize ptN hs (S.take k) = st at *
      obtain ⟨hs', ts⟩ := st
      dsimp only at *
      generalize S[k] = i at *
      walk_at "vc"
      refine wl_compP (fun _ => notInD ts) (fun _ d => d) ?_
      refine wl_letters ?_
      refine ⟨rfl, by decide, fun d hd => ?_, ?_⟩
      · obtain ⟨x, rfl, hx⟩ := lettersD_mem hd
        walk_at "vc"
        refine wo_niS hx htk ?_
        walk_at "vc"
        exact ⟨rfl, ifb_any (fun _ => by walk_at "vc"; exact ⟨rfl, rfl⟩) fun _ => rfl⟩
      rw [List.map_id']
      obtain ⟨ds, hF, hx, hxn⟩ := frS_ok (ls := ts) (by omega)
      rw [hF]
      walk_at "vc"
      refine wo_hd ?_
      walk_at "vc"
      refine wo_idxHs hSk ?_
      have hh : hs[i] = (hs[i].1, hs[i].2.1, hs[i].2.2) := rfl
      rw [hh, hD_eq]
      walk_at "vc"
      refine wo_idxHs hSk ?_
      rw [hh, hD_eq]
      walk_at "vc"
      refine ⟨.val (.int (i : Int)), .val (.str (frS ts)), ?_⟩
      have e : hs.getD i h0D = hs[i] := by
        rw [List.getD_eq_getElem?_getD, List.getElem?_eq_getElem hSk]
        rfl
      unfold pt1
      rw [e, List.map_set, List.map_append, Int.toNat_natCast]
      rfl
    · rintro e ⟨x8, x9, rfl⟩
      rw [List.length_map, List.take_length]
      exact ⟨_, _, _, rfl⟩
  rintro e ⟨x7, x8, x9, rfl⟩
  walk_at "vc"
  exact q _ _
end
section
variable {m : Int} {hs : List Hd} {bl mir : Bool} {Q : D → List Sl → Prop}
theorem pmap_eq (L : List (List Nat)) : (L.map tO).map (byS fun S => clockD m (pN hs S) bl mir) = (L.map (pN hs)).map fun h => clockD m h bl mir := by
  rw [byS_map, List.map_map]
  rfl
theorem pN_len {S : List Nat} (hk : HandsOk m hs) (hn : hs.length ≤ 5) (hS : SetOk hs.length S) : (pN hs S).length = hs.length := (pN_of hk hn hS.r hS.b).len
theorem pN_hk {S : List Nat} (hk : HandsOk m hs) (hn : hs.length ≤ 5) (hS : SetOk hs.length S) : HandsOk m (pN hs S) := (pN_of hk hn hS.r hS.b).ok hk
theorem sets_full (n : Nat) {S : List Nat} (h : S ∈ setsN n n) : S = List.range n := (SetOk.of h).1.full (SetOk.of h).2
theorem pewest_w (hm : 1 < m) (hm2 : m ≤ 10 ^ 60) (h1 : 1 ≤ hs.length) (hn : hs.length ≤ 5) (hk : HandsOk m hs) (q : ∀ d x, PewOf m hs bl mir d → Q d [x]) :
    WG g_fewest_painted [.val (clockD m hs bl mir)] Q := by
  have hm0 : 0 < m := by omega
  refine wg_run rfl ?_
  unfold b_fewest_painted
  walk_at "vc"
  refine ws_forN (fun _ j e => ∃ (ds : List D) (x2 x3 x4 x5 : Sl), (j = 0 → ds = []) ∧ (j ≠ 0 → DbtsOk m bl mir ((setsN hs.length (j - 1)).map (pN hs)) ds) ∧ (∀ T, SetOk hs.length T → T.length < j → ¬ Clr m (pN hs T) bl mir) ∧ e = [.val (clockD m hs bl mir), .val (.list ds), x2, x3, x4, x5, .no]) ?_
  walk_at "vc"
  refine ⟨⟨[], _, _, _, _, fun _ => rfl, fun h => absurd rfl h, fun T _ h => absurd h (Nat.not_lt_zero _), rfl⟩, ?_, ?_⟩
  · rintro j d e hj hd ⟨ds, x2, x3, x4, x5, hD0, hD, hN, rfl⟩
    rw [irange_length, List.length_map] at hj
    obtain ⟨rfl, hj1⟩ := irange_at hd
    have hjn : j ≤ hs.length := by omega
    have hsl := setsN_len hs.length (by omega) j (by omega)
    have hmem := fun s => setsN_mem (n := hs.length) (k := j) (s := s)
    walk_at "vc"
    rw [List.length_map]
    refine sets_w hn (by omega) fun _ _ => ?_
    generalize hF : setsN hs.length j = F at *
    have hok : ∀ S ∈ F, SetOk hs.length S ∧ S.length = j := fun S hS => SetOk.of (by rw [hF]; exact hS)
    walk_at "vc"
    refine wl_compP (fun _ _ => true) (fun _ => byS fun S => clockD m (pN hs S) bl mir) ?_
    walk_at "vc"
    refine ⟨rfl, fits_of (by rw [List.length_map]; omega), fun d hd => ?_, ?_⟩
    · obtain ⟨S, hS, rfl⟩ := List.mem_map.mp hd
      walk_at "vc"
      refine ⟨rfl, ?_⟩
      walk_at "vc"
      refine painte_w (hok S hS).1 hn hk fun _ _ => ?_
      walk_at "vc"
      exact ⟨(byS_tO (fun S => clockD m (pN hs S) bl mir) S).symm, rfl⟩
    rw [filter_yes, pmap_eq]
    walk_at "vc"
    refine firstclear_w hm hm2 (by rw [List.length_map]; omega) (fun h hh => ?_) (fun k es _ hkl hC => ?_) fun es _ hE => ?_
    · obtain ⟨S, hS, rfl⟩ := List.mem_map.mp hh
      have hl := pN_len hk hn (hok S hS).1
      exact ⟨by omega, by omega, pN_hk hk hn (hok S hS).1⟩
    · rw [List.length_map] at hkl
      have hSk := hok F[k] (List.getElem_mem _)
      walk_at "vc"
      refine wo_idxL (by omega) (by rw [List.length_map]; omega) fun e he _ => ?_
      rw [List.getElem?_map, Int.toNat_natCast, List.getElem?_eq_getElem hkl] at he
      obtain rfl := Option.some.inj he
      walk_at "vc"
      refine q _ _ (.inl ⟨F[k], ds, rfl, hSk.1, ?_, fun T hT hlt => hN T hT (by omega), fun e => hD0 (by rw [e] at hSk; exact hSk.2.symm), fun hne => ?_⟩)
      · rwa [List.getElem_map] at hC
      · rw [hSk.2]
        exact hD fun h0 => hne (List.eq_nil_of_length_eq_zero (by omega))
    · walk_at "vc"
      refine ⟨_, _, _, _, _, fun h => (by omega), fun _ => ?_, fun T hT hlt => ?_, rfl⟩
      · rw [Nat.add_sub_cancel, hF]
        exact hE
      · by_cases hTj : T.length < j
        · exact hN T hT hTj
        · have hTF : T ∈ F := by
            rw [← hF, ← show T.length = j by omega]
            exact hT.mem
          exact hE.not hm0 (List.mem_map.mpr ⟨T, hTF, rfl⟩)
  · rintro e ⟨ds, x2, x3, x4, x5, hD0, hD, hN, rfl⟩
    rw [irange_length, List.length_map, show ((hs.length : Int) + 1).toNat = hs.length + 1 by omega] at hD hN
    have hD := hD (by omega)
    rw [Nat.add_sub_cancel] at hD
    have hfull : List.range hs.length ∈ setsN hs.length hs.length := by
      have := (SetOk.range hs.length).mem
      rwa [List.length_range] at this
    have hpos := List.length_pos_of_mem hfull
    have hdl := hD.len
    rw [List.length_map] at hdl
    have h0 := hD.ok 0 (by rw [List.length_map]; exact hpos) (by omega)
    rw [List.getElem_map, sets_full hs.length (List.getElem_mem hpos)] at h0
    walk_at "vc"
    cases ds with
    | nil => rw [List.length_nil] at hdl; omega
    | cons d ds =>
      refine wo_hd ?_
      walk_at "vc"
      exact q _ _ (.inr ⟨d, rfl, h0, fun T hT => hN T hT (by have := hT.len; omega)⟩)
theorem tO_range (n : Nat) : tO (List.range n) = .tuple (irange 0 n) := by
  unfold tO irange
  congr 1
  refine List.map_congr_left fun i _ => ?_
  rw [Int.zero_add]
theorem wo_neNilO {S : List Nat} {Q : D → Prop} (q : Q (.bool (!decide (S = [])))) : WO (gNe (tO S) (.tuple [])) Q := by
  refine wo_neD ((lay_tO (n := 0) S).shp (by omega)) rfl ?_
  rw [show PyData.eqv (tO S) (.tuple []) = decide (S = []) by cases S <;> rfl]
  exact q
theorem prnever_w {d : D} (hm : 1 < m) (hm2 : m ≤ 10 ^ 60) (h1 : 1 ≤ hs.length) (hn : hs.length ≤ 5) (hk : HandsOk m hs) (hD : DbtOk m (pN hs (List.range hs.length)) bl mir d) (q : ∀ x y, Q (.bool true) [x, y]) :
    WG g_painted_right [.val (clockD m hs bl mir), .val (.tuple [.str "never", d])] Q := by
  have hR := SetOk.range hs.length
  have hl := pN_len hk hn hR
  refine wg_run rfl ?_
  unfold b_painted_right
  walk_at "vc"
  rw [List.length_map, Int.toNat_natCast, ← tO_range]
  refine painte_w hR hn hk fun _ _ => ?_
  walk_at "vc"
  refine isdoubt_w hm hm2 (by omega) (by omega) (pN_hk hk hn hR) hD fun _ _ => ?_
  walk_at "vc"
  exact q _ _
theorem prpaint_w {S U : List Nat} {ds : List D} (hm : 1 < m) (hm2 : m ≤ 10 ^ 60) (h1 : 1 ≤ hs.length) (hn : hs.length ≤ 5) (hk : HandsOk m hs) (hS : SetOk hs.length S) (hUS : U.length = S.length) (hD0 : U = [] → ds = []) (hD : U ≠ [] → DbtsOk m bl mir ((setsN hs.length (U.length - 1)).map (pN hs)) ds) (q : ∀ x y, Q (.bool (clrB m (pN hs S) bl mir)) [x, y]) :
    WG g_painted_right [.val (clockD m hs bl mir), .val (.tuple [.str "paint", tO S, .list ds])] Q := by
  have hSl := hS.len
  have hl := pN_len hk hn hS
  refine wg_run rfl ?_
  unfold b_painted_right
  walk_at "nr"
  refine ws_mid (fun e => e = [.val (clockD m hs bl mir), .val (.tuple [.str "paint", tO S, .list ds]), .val (.int (hs.length : Int)), .no, .no]) (by walk_at "vc"; rw [List.length_map]) ?_
  rintro _ rfl
  refine ws_mid (fun e => e = [.val (clockD m hs bl mir), .val (.tuple [.str "paint", tO S, .list ds]), .val (.int (hs.length : Int)), .no, .no]) (by walk_at "vc"; rfl) ?_
  rintro _ rfl
  refine ws_mid (fun e => e = [.val (clockD m hs bl mir), .val (.tuple [.str "paint", tO S, .list ds]), .val (.int (hs.length : Int)), .no, .no]) ?_ ?_
  · walk_at "vc"
    refine rising_w (by omega) hS.r hS.b fun _ _ => ?_
    walk_at "vc"
    rfl
  rintro _ rfl
  refine ws_mid (fun e => e = [.val (clockD m hs bl mir), .val (.tuple [.str "paint", tO S, .list ds]), .val (.int (hs.length : Int)), .val (.list []), .no]) (by walk_at "vc"; rfl) ?_
  rintro _ rfl
  refine ws_mid (fun e => ∃ (Hs : List (List Hd)) (x4 : Sl), Hs.length ≤ 100 ∧ (∀ h ∈ Hs, 1 ≤ h.length ∧ h.length ≤ 5 ∧ HandsOk m h) ∧ DbtsOk m bl mir Hs ds ∧ e = [.val (clockD m hs bl mir), .val (.tuple [.str "paint", tO S, .list ds]), .val (.int (hs.length : Int)), .val (.list (Hs.map fun h => clockD m h bl mir)), x4]) ?_ ?_
  · walk_at "vc"
    refine wo_neNilO ?_
    by_cases h0 : S = []
    · rw [decide_eq_true h0]
      have hU : U = [] := List.eq_nil_of_length_eq_zero (by rw [hUS, h0]; rfl)
      have := hD0 hU
      subst this
      walk_at "vc"
      exact ⟨[], _, Nat.zero_le _, fun h hh => (by cases hh), DbtsOk.nil, rfl⟩
    · rw [decide_eq_false h0]
      have hlp : 0 < S.length := List.length_pos_iff.mpr h0
      have hD := hD fun e => by rw [e, List.length_nil] at hUS; omega
      rw [hUS] at hD
      have hsl := setsN_len hs.length (by omega) (S.length - 1) (by omega)
      walk_at "vc"
      refine wl_compP (fun _ _ => true) (fun _ => byS fun S => clockD m (pN hs S) bl mir) ?_
      walk_at "vc"
      unfold tO
      walk_at "vc"
      rw [List.length_map, show ((S.length : Nat) : Int) - 1 = ((S.length - 1 : Nat) : Int) by omega]
      refine sets_w hn (by omega) fun _ _ => ?_
      walk_at "vc"
      generalize hF : setsN hs.length (S.length - 1) = F at *
      have hok : ∀ S ∈ F, SetOk hs.length S := fun S hS => (SetOk.of (by rw [hF]; exact hS)).1
      refine ⟨rfl, fits_of (by rw [List.length_map]; omega), fun d hd => ?_, ?_⟩
      · obtain ⟨S, hS, rfl⟩ := List.mem_map.mp hd
        walk_at "vc"
        refine ⟨rfl, ?_⟩
        walk_at "vc"
        refine painte_w (hok S hS) hn hk fun _ _ => ?_
        walk_at "vc"
        exact ⟨(byS_tO (fun S => clockD m (pN hs S) bl mir) S).symm, rfl⟩
      rw [filter_yes, pmap_eq]
      walk_at "vc"
      refine ⟨F.map (pN hs), _, by rw [List.length_map]; omega, fun h hh => ?_, hD, rfl⟩
      obtain ⟨T, hT, rfl⟩ := List.mem_map.mp hh
      have hl := pN_len hk hn (hok T hT)
      exact ⟨by omega, by omega, pN_hk hk hn (hok T hT)⟩
  rintro e ⟨Hs, x4, hHl, hH, hDs, rfl⟩
  walk_at "vc"
  refine painte_w hS hn hk fun _ _ => ?_
  walk_at "vc"
  refine nodoubt_w hm hm2 (by omega) (by omega) (pN_hk hk hn hS) fun _ => ?_
  cases hc : clrB m (pN hs S) bl mir with
  | false =>
    rw [hc] at q
    walk_at "vc"
    exact q _ _
  | true =>
    rw [hc] at q
    walk_at "vc"
    refine aredoubts_w hm hm2 hHl hH (.inr hDs) fun _ _ => ?_
    rw [decide_eq_true hDs.len]
    walk_at "vc"
    exact q _ _
end

end Lw

namespace Lw
open PySem PySem.Spec PyProof.Rows L2 M
local macro_rules | `(tactic| walk_at "sd") => `(tactic| (first | (with_reducible assumption) | omega | (simp; done) | (simp; omega) | decide))
local macro_rules | `(tactic| walk_at "v1") => `(tactic| (first | ((with_reducible show WE _ _ _); first | with_reducible refine we_callN ?_ | with_reducible refine we_c ?_ | with_reducible refine we_un ?_ | with_reducible refine we_bin ?_ | with_reducible refine we_chain ?_ | with_reducible refine we_and ?_ | with_reducible refine we_or ?_ | with_reducible refine we_not ?_ | with_reducible refine we_if ?_ | with_reducible refine we_fz ?_ | with_reducible refine we_tup ?_ | with_reducible refine we_sl ?_ | with_reducible refine we_tupRg ?_ | with_reducible refine we_bor ?_ | with_reducible refine we_call ?_ | with_reducible refine we_din ?_ | with_reducible refine we_borL ?_ | ((with_reducible apply we_v); (· rfl)) | ((with_reducible show WE (eO _) _ _); first | ((with_reducible apply we_oV); (· rfl)) | ((with_reducible apply we_oW); (· rfl)) | ((with_reducible apply we_oR); (· rfl))) | ((with_reducible show WE (eBinV _ _ _) _ _); first | ((with_reducible apply we_bV); (· rfl)) | ((with_reducible apply we_bVr); (· rfl)) | ((with_reducible apply we_bVv); (· rfl))) | ((with_reducible apply we_mut); (· rfl)) | ((with_reducible apply we_mut0); (· rfl)) | ((with_reducible apply we_dget2); (· rfl)) | ((with_reducible apply we_didx); (· rfl))) | ((with_reducible show WO _ _); first | ((with_reducible show WO (gIsO _ _) _); first | with_reducible refine wo_isON ?_ | ((with_reducible refine wo_isO (b := true) ?_ ?_); (· rfl)) | ((with_reducible refine wo_isO (b := false) ?_ ?_); (· rfl))) | with_reducible refine wo_attr ?_ | ((with_reducible show WO (valsA _) _); first | with_reducible refine vals_nil ?_ | with_reducible refine vals_v ?_) | with_reducible refine wo_isB ?_ | with_reducible refine wo_ntB ?_ | ((with_reducible show WO (backAr _ _ _) _); first | with_reducible refine back_nil ?_ | with_reducible refine back_v ?_ | with_reducible refine back_o ?_ | ((with_reducible apply back_r); (· rfl))) | ((with_reducible show WO (resArs _ _) _); first | with_reducible refine res_nil ?_ | with_reducible refine res_v ?_ | ((with_reducible apply res_r); (· rfl)) | ((with_reducible apply res_oO); (· rfl)) | ((with_reducible apply res_oR); (· rfl)) | ((with_reducible apply res_oV); (· rfl))) | ((with_reducible show WO (gAdd _ _) _); first | with_reducible refine wo_add ?_ | ((with_reducible refine wo_addL ?_ ?_); (· first | rfl | (apply fits_of; first | omega | (simp; omega)))) | ((with_reducible refine wo_addT ?_ ?_); (· first | rfl | (apply fits_of; first | omega | (simp; omega))))) | with_reducible refine wo_sub ?_ | with_reducible refine wo_neg ?_ | with_reducible refine wo_lt ?_ | with_reducible refine wo_le ?_ | with_reducible refine wo_gt ?_ | with_reducible refine wo_ge ?_ | ((with_reducible show WO (gEq _ _) _); first | with_reducible refine wo_eq ?_ | with_reducible refine wo_eqB ?_ | ((with_reducible refine wo_eqT ?_ ?_); (· decide +kernel)) | ((with_reducible refine wo_eqF ?_ ?_); (· decide +kernel))) | ((with_reducible show WO (gNe _ _) _); first | with_reducible refine wo_ne ?_ | with_reducible refine wo_neB ?_ | ((with_reducible refine wo_neT ?_ ?_); (· decide +kernel)) | ((with_reducible refine wo_neF ?_ ?_); (· decide +kernel))) | with_reducible refine wo_isN ?_ | with_reducible refine wo_ntN ?_ | ((with_reducible show WO (gLen _) _); first | with_reducible refine wo_lenL ?_ | with_reducible refine wo_lenT ?_) | with_reducible refine wo_abs ?_ | ((with_reducible show WO (gInt _) _); first | with_reducible refine wo_intB ?_ | with_reducible refine wo_intI ?_) | ((with_reducible show WO (gList _) _); first | with_reducible refine wo_listL ?_ | with_reducible refine wo_listT ?_) | ((with_reducible show WO (gTuple _) _); first | with_reducible refine wo_tupL ?_ | with_reducible refine wo_tupT ?_) | with_reducible refine wo_max ?_ | with_reducible refine wo_min ?_ | ((with_reducible show WO (gIsi _ _) _); first | with_reducible refine wo_isiI ?_ | with_reducible refine wo_isiB ?_ | ((with_reducible apply wo_isiE); (· rfl))) | ((with_reducible show WO (cutOf _ _ _) _); first | with_reducible refine wo_cutL ?_ | with_reducible refine wo_cutT ?_) | ((with_reducible show WO (gPow _ _) _); first | with_reducible refine wo_p10_60 ?_ | with_reducible refine wo_p10_18 ?_ | with_reducible refine wo_p10_30 ?_ | with_reducible refine wo_p2_24 ?_ | with_reducible refine wo_p10_8 ?_ | with_reducible refine wo_p10_19 ?_ | with_reducible refine wo_p10_55 ?_ | with_reducible refine wo_p10_59 ?_ | with_reducible refine wo_p3_30 ?_ | with_reducible refine wo_p2_40 ?_ | with_reducible refine wo_p10_54 ?_ | with_reducible refine wo_p3_13 ?_ | with_reducible refine wo_p2_20 ?_ | with_reducible refine wo_p10_57 ?_ | with_reducible refine wo_p10_40 ?_ | with_reducible refine wo_p10_61 ?_ | with_reducible refine wo_p10_50 ?_) | ((with_reducible apply wo_idxE); (· rfl)) | ((with_reducible apply wo_allE); (· rfl)) | ((with_reducible apply wo_anyE); (· rfl)) | ((with_reducible show WO (ixN _ _) _); first | ((with_reducible apply wo_ixE); (· rfl)) | ((with_reducible refine wo_ix ?_ ?_ ?_); (· walk_at "sd"); (· walk_at "sd"))) | ((with_reducible refine wo_mod ?_ ?_); (· walk_at "sd")) | ((with_reducible refine wo_div ?_ ?_ ?_); (· walk_at "sd"); (· walk_at "sd")) | ((with_reducible refine wo_mul ?_ ?_); (· first | exact mul_ok1 (by walk_at "sd") | exact mul_ok2 (by walk_at "sd") | exact mul_ok3 (by omega) (by omega))) | ((with_reducible refine wo_app ?_ ?_); (· first | rfl | (apply fits_of; first | omega | (simp; omega)))) | ((with_reducible refine wo_ext ?_ ?_); (· first | rfl | (apply fits_of; first | omega | (simp; omega))))) | ((with_reducible show WS _ _ _); first | with_reducible refine ws_try ?_ | with_reducible refine ws_retT ?_ | with_reducible refine ws_seq ?_ | with_reducible refine ws_expr ?_ | with_reducible refine ws_ret ?_ | with_reducible refine ws_retL ?_ | with_reducible refine ws_if ?_ | with_reducible refine ws_set ?_ | with_reducible refine ws_setO ?_ | with_reducible refine ws_asg ?_ | with_reducible refine ws_par ?_ | with_reducible refine ws_nil ?_ | with_reducible refine ws_retN ?_ | with_reducible refine ws_dput ?_ | with_reducible refine ws_dnew ?_ | ((with_reducible show WS (sFrz _ _) _ _); first | ((with_reducible apply ws_frz); (· rfl)) | ((with_reducible apply ws_frzV); (· rfl))) | ((with_reducible apply ws_retO); (· rfl)) | ((with_reducible apply ws_putI); (· rfl))) | ((with_reducible apply nrm_); (· (try simp only [wipeE, backE, List.set_cons_zero, List.set_cons_succ, List.getElem?_cons_zero, List.getElem?_cons_succ, List.cons_append, List.nil_append, List.replicate_succ, List.replicate_zero, Nat.reduceSub, unowns_nil, unowns_cons, unown_own, unown_val, unown_no, unown_ro, unown_dct]); rfl)) | ((with_reducible show IfB _ _ _); first | with_reducible refine ifb_not ?_ | with_reducible refine ifb_t ?_ | with_reducible refine ifb_f ?_ | ((with_reducible refine ifb_decT ?_ ?_); (· first | (with_reducible assumption) | omega | (simp only [List.length_cons, List.length_nil]; omega))) | ((with_reducible refine ifb_decF ?_ ?_); (· first | (with_reducible assumption) | omega | (simp only [List.length_cons, List.length_nil]; omega))) | with_reducible refine ifb_dec (fun _ => ?_) (fun _ => ?_) | ((with_reducible apply ifb_eT); (· rfl)) | ((with_reducible apply ifb_eF); (· rfl))) | ((with_reducible show WB _ _ _); first | with_reducible refine wb_bor ?_ | with_reducible refine wb_v ?_ | with_reducible refine wb_and ?_ | with_reducible refine wb_or ?_ | with_reducible refine wb_not ?_ | with_reducible refine wb_yes ?_) | with_reducible refine isb ?_ | ((with_reducible show WL _ _ _); first | with_reducible refine wl_nil ?_ | with_reducible refine wl_cons ?_ | with_reducible refine wl_lst ?_ | with_reducible refine wl_un ?_ | with_reducible refine wl_it ?_ | with_reducible refine wl_rng1 ?_ | with_reducible refine wl_rng2 ?_ | with_reducible refine wl_enum ?_ | with_reducible refine wl_enumA ?_ | with_reducible refine wl_addE ?_ | with_reducible refine wl_rg1 ?_ | with_reducible refine wl_bor ?_ | with_reducible refine wl_call ?_ | ((with_reducible apply wl_addO); (· rfl)) | ((with_reducible show WL (lSlV _ _ _) _ _); first | ((with_reducible apply wl_slO); (· rfl)) | ((with_reducible apply wl_slR); (· rfl)))) | ((with_reducible show WA _ _ _); first | with_reducible refine wa_nil ?_ | with_reducible refine wa_v ?_ | ((with_reducible apply wa_r); (· rfl)) | ((with_reducible show WA (aO _ _) _ _); first | ((with_reducible apply wa_oR); (· rfl)) | ((with_reducible apply wa_oO); (· rfl)) | ((with_reducible apply wa_oV); (· rfl)))) | ((with_reducible show IsS _ _); first | with_reducible refine iss_l ?_ | with_reducible refine iss_t ?_) | ((with_reducible refine fit_ ?_ ?_); (· first | rfl | (apply fits_of; first | omega | (simp; omega)))) | ((with_reducible show CallG _ _ _ _); first | ((with_reducible apply cg0); (· rfl)) | ((with_reducible apply cg1); (· rfl); (· rfl))) | ((with_reducible show WT _ _ _ _); first | with_reducible refine wt_n ?_ | ((with_reducible apply wt_t); (· rfl)) | ((with_reducible apply wt_unl); (· rfl))) | ((with_reducible show WTs _ _ _ _); first | with_reducible refine wts_nil ?_ | with_reducible refine wts_cons ?_) | ((with_reducible apply own_); (· rfl)) | ((with_reducible refine sml_ ?_ ?_ ?_); (· walk_at "sd"); (· walk_at "sd")) | with_reducible refine isi_ ?_ | ((with_reducible show WSX _ _ _); first | with_reducible refine wsx_lift ?_ | with_reducible refine wsx_seq ?_ | with_reducible refine wsx_if ?_ | with_reducible refine wsx_raise0 ?_ | with_reducible refine wsx_expr ?_ | with_reducible refine wsx_ret ?_ | with_reducible refine wsx_set ?_) | with_reducible refine wex_call ?_ | ((with_reducible show WPu _ _ _ _); first | with_reducible refine wpu_nil ?_ | with_reducible refine wpu_seq ?_ | with_reducible refine wpu_ret ?_ | with_reducible refine wpu_if ?_) | ((with_reducible show WTd _ _ _ _ _); first | with_reducible refine wtd_P ?_ | with_reducible refine wtd_G ?_ | with_reducible refine wtd_If ?_ | ((with_reducible refine wtd_K ?_ ?_); (· exact ⟨rfl, by decide⟩)) | ((with_reducible refine wtd_U ?_ ?_); (· exact ⟨rfl, by decide⟩)) | ((with_reducible refine wtd_C ?_ ?_); (· rfl)) | ((with_reducible refine wtd_A ?_ ?_ ?_); (· rfl); (· first | rfl | (apply fits_of; first | omega | (simp; omega))))) | with_reducible refine two_ ?_ | ((with_reducible show WC _ _ _ _ _ _ _); first | with_reducible refine wc_nil ?_ | with_reducible refine wc_cons ?_) | ((with_reducible show WP _ _ _); first | with_reducible refine wp_no ?_ | with_reducible refine wp_e ?_) | with_reducible refine isl ?_ | ((with_reducible show RetT _ _ _); first | ((with_reducible apply retT1); (· rfl)) | ((with_reducible apply retT2); (· rfl))) | ((with_reducible show Any _ _); first | ((with_reducible apply any_o); (· rfl)) | ((with_reducible apply any_r); (· rfl))) | ((with_reducible show CallH _ _ _ _); first | ((with_reducible apply ch0); (· rfl)) | ((with_reducible apply ch1); (· rfl); (· rfl))) | ((with_reducible apply cgx0); (· rfl))))
local macro_rules | `(tactic| walk_at "v2") => `(tactic| (first | ((with_reducible show WE _ _ _); first | with_reducible refine we_callN ?_ | with_reducible refine we_c ?_ | with_reducible refine we_un ?_ | with_reducible refine we_bin ?_ | with_reducible refine we_chain ?_ | with_reducible refine we_and ?_ | with_reducible refine we_or ?_ | with_reducible refine we_not ?_ | with_reducible refine we_if ?_ | with_reducible refine we_fz ?_ | with_reducible refine we_tup ?_ | with_reducible refine we_sl ?_ | with_reducible refine we_tupRg ?_ | with_reducible refine we_bor ?_ | with_reducible refine we_call ?_ | with_reducible refine we_din ?_ | with_reducible refine we_borL ?_ | ((with_reducible apply we_v); (· rfl)) | ((with_reducible show WE (eO _) _ _); first | ((with_reducible apply we_oV); (· rfl)) | ((with_reducible apply we_oW); (· rfl)) | ((with_reducible apply we_oR); (· rfl))) | ((with_reducible show WE (eBinV _ _ _) _ _); first | ((with_reducible apply we_bV); (· rfl)) | ((with_reducible apply we_bVr); (· rfl)) | ((with_reducible apply we_bVv); (· rfl))) | ((with_reducible apply we_mut); (· rfl)) | ((with_reducible apply we_mut0); (· rfl)) | ((with_reducible apply we_dget2); (· rfl)) | ((with_reducible apply we_didx); (· rfl))) | ((with_reducible show WO _ _); first | ((with_reducible show WO (gIsO _ _) _); first | with_reducible refine wo_isON ?_ | ((with_reducible refine wo_isO (b := true) ?_ ?_); (· rfl)) | ((with_reducible refine wo_isO (b := false) ?_ ?_); (· rfl))) | with_reducible refine wo_attr ?_ | ((with_reducible show WO (valsA _) _); first | with_reducible refine vals_nil ?_ | with_reducible refine vals_v ?_) | with_reducible refine wo_isB ?_ | with_reducible refine wo_ntB ?_ | ((with_reducible show WO (backAr _ _ _) _); first | with_reducible refine back_nil ?_ | with_reducible refine back_v ?_ | with_reducible refine back_o ?_ | ((with_reducible apply back_r); (· rfl))) | ((with_reducible show WO (resArs _ _) _); first | with_reducible refine res_nil ?_ | with_reducible refine res_v ?_ | ((with_reducible apply res_r); (· rfl)) | ((with_reducible apply res_oO); (· rfl)) | ((with_reducible apply res_oR); (· rfl)) | ((with_reducible apply res_oV); (· rfl))) | ((with_reducible show WO (gAdd _ _) _); first | with_reducible refine wo_add ?_ | ((with_reducible refine wo_addL ?_ ?_); (· first | rfl | (apply fits_of; first | omega | (simp; omega)))) | ((with_reducible refine wo_addT ?_ ?_); (· first | rfl | (apply fits_of; first | omega | (simp; omega))))) | with_reducible refine wo_sub ?_ | with_reducible refine wo_neg ?_ | with_reducible refine wo_lt ?_ | with_reducible refine wo_le ?_ | with_reducible refine wo_gt ?_ | with_reducible refine wo_ge ?_ | ((with_reducible show WO (gEq _ _) _); first | with_reducible refine wo_eq ?_ | with_reducible refine wo_eqB ?_ | ((with_reducible refine wo_eqT ?_ ?_); (· decide +kernel)) | ((with_reducible refine wo_eqF ?_ ?_); (· decide +kernel))) | ((with_reducible show WO (gNe _ _) _); first | with_reducible refine wo_ne ?_ | with_reducible refine wo_neB ?_ | ((with_reducible refine wo_neT ?_ ?_); (· decide +kernel)) | ((with_reducible refine wo_neF ?_ ?_); (· decide +kernel))) | with_reducible refine wo_isN ?_ | with_reducible refine wo_ntN ?_ | ((with_reducible show WO (gLen _) _); first | with_reducible refine wo_lenL ?_ | with_reducible refine wo_lenT ?_) | with_reducible refine wo_abs ?_ | ((with_reducible show WO (gInt _) _); first | with_reducible refine wo_intB ?_ | with_reducible refine wo_intI ?_) | ((with_reducible show WO (gList _) _); first | with_reducible refine wo_listL ?_ | with_reducible refine wo_listT ?_) | ((with_reducible show WO (gTuple _) _); first | with_reducible refine wo_tupL ?_ | with_reducible refine wo_tupT ?_) | with_reducible refine wo_max ?_ | with_reducible refine wo_min ?_ | ((with_reducible show WO (gIsi _ _) _); first | with_reducible refine wo_isiI ?_ | with_reducible refine wo_isiB ?_ | ((with_reducible apply wo_isiE); (· rfl))) | ((with_reducible show WO (cutOf _ _ _) _); first | with_reducible refine wo_cutL ?_ | with_reducible refine wo_cutT ?_) | ((with_reducible show WO (gPow _ _) _); first | with_reducible refine wo_p10_60 ?_ | with_reducible refine wo_p10_18 ?_ | with_reducible refine wo_p10_30 ?_ | with_reducible refine wo_p2_24 ?_ | with_reducible refine wo_p10_8 ?_ | with_reducible refine wo_p10_19 ?_ | with_reducible refine wo_p10_55 ?_ | with_reducible refine wo_p10_59 ?_ | with_reducible refine wo_p3_30 ?_ | with_reducible refine wo_p2_40 ?_ | with_reducible refine wo_p10_54 ?_ | with_reducible refine wo_p3_13 ?_ | with_reducible refine wo_p2_20 ?_ | with_reducible refine wo_p10_57 ?_ | with_reducible refine wo_p10_40 ?_ | with_reducible refine wo_p10_61 ?_ | with_reducible refine wo_p10_50 ?_) | ((with_reducible apply wo_idxE); (· rfl)) | ((with_reducible apply wo_allE); (· rfl)) | ((with_reducible apply wo_anyE); (· rfl)) | ((with_reducible show WO (ixN _ _) _); first | ((with_reducible apply wo_ixE); (· rfl)) | ((with_reducible refine wo_ix ?_ ?_ ?_); (· walk_at "sd"); (· walk_at "sd"))) | ((with_reducible refine wo_mod ?_ ?_); (· walk_at "sd")) | ((with_reducible refine wo_div ?_ ?_ ?_); (· walk_at "sd"); (· walk_at "sd")) | ((with_reducible refine wo_mul ?_ ?_); (· first | exact mul_ok1 (by walk_at "sd") | exact mul_ok2 (by walk_at "sd") | exact mul_ok3 (by omega) (by omega))) | ((with_reducible refine wo_app ?_ ?_); (· first | rfl | (apply fits_of; first | omega | (simp; omega)))) | ((with_reducible refine wo_ext ?_ ?_); (· first | rfl | (apply fits_of; first | omega | (simp; omega))))) | ((with_reducible show WS _ _ _); first | with_reducible refine ws_try ?_ | with_reducible refine ws_retT ?_ | with_reducible refine ws_seq ?_ | with_reducible refine ws_expr ?_ | with_reducible refine ws_ret ?_ | with_reducible refine ws_retL ?_ | with_reducible refine ws_set ?_ | with_reducible refine ws_setO ?_ | with_reducible refine ws_asg ?_ | with_reducible refine ws_par ?_ | with_reducible refine ws_nil ?_ | with_reducible refine ws_retN ?_ | with_reducible refine ws_dput ?_ | with_reducible refine ws_dnew ?_ | ((with_reducible show WS (sFrz _ _) _ _); first | ((with_reducible apply ws_frz); (· rfl)) | ((with_reducible apply ws_frzV); (· rfl))) | ((with_reducible apply ws_retO); (· rfl)) | ((with_reducible apply ws_putI); (· rfl))) | ((with_reducible apply nrm_); (· (try simp only [wipeE, backE, List.set_cons_zero, List.set_cons_succ, List.getElem?_cons_zero, List.getElem?_cons_succ, List.cons_append, List.nil_append, List.replicate_succ, List.replicate_zero, Nat.reduceSub, unowns_nil, unowns_cons, unown_own, unown_val, unown_no, unown_ro, unown_dct]); rfl)) | ((with_reducible show IfB _ _ _); first | with_reducible refine ifb_not ?_ | with_reducible refine ifb_t ?_ | with_reducible refine ifb_f ?_ | ((with_reducible refine ifb_decT ?_ ?_); (· first | (with_reducible assumption) | omega | (simp only [List.length_cons, List.length_nil]; omega))) | ((with_reducible refine ifb_decF ?_ ?_); (· first | (with_reducible assumption) | omega | (simp only [List.length_cons, List.length_nil]; omega))) | with_reducible refine ifb_dec (fun _ => ?_) (fun _ => ?_) | ((with_reducible apply ifb_eT); (· rfl)) | ((with_reducible apply ifb_eF); (· rfl))) | ((with_reducible show WB _ _ _); first | with_reducible refine wb_bor ?_ | with_reducible refine wb_v ?_ | with_reducible refine wb_and ?_ | with_reducible refine wb_or ?_ | with_reducible refine wb_not ?_ | with_reducible refine wb_yes ?_) | with_reducible refine isb ?_ | ((with_reducible show WL _ _ _); first | with_reducible refine wl_nil ?_ | with_reducible refine wl_cons ?_ | with_reducible refine wl_lst ?_ | with_reducible refine wl_un ?_ | with_reducible refine wl_it ?_ | with_reducible refine wl_rng1 ?_ | with_reducible refine wl_rng2 ?_ | with_reducible refine wl_enum ?_ | with_reducible refine wl_enumA ?_ | with_reducible refine wl_addE ?_ | with_reducible refine wl_rg1 ?_ | with_reducible refine wl_bor ?_ | with_reducible refine wl_call ?_ | ((with_reducible apply wl_addO); (· rfl)) | ((with_reducible show WL (lSlV _ _ _) _ _); first | ((with_reducible apply wl_slO); (· rfl)) | ((with_reducible apply wl_slR); (· rfl)))) | ((with_reducible show WA _ _ _); first | with_reducible refine wa_nil ?_ | with_reducible refine wa_v ?_ | ((with_reducible apply wa_r); (· rfl)) | ((with_reducible show WA (aO _ _) _ _); first | ((with_reducible apply wa_oR); (· rfl)) | ((with_reducible apply wa_oO); (· rfl)) | ((with_reducible apply wa_oV); (· rfl)))) | ((with_reducible show IsS _ _); first | with_reducible refine iss_l ?_ | with_reducible refine iss_t ?_) | ((with_reducible refine fit_ ?_ ?_); (· first | rfl | (apply fits_of; first | omega | (simp; omega)))) | ((with_reducible show CallG _ _ _ _); first | ((with_reducible apply cg0); (· rfl)) | ((with_reducible apply cg1); (· rfl); (· rfl))) | ((with_reducible show WT _ _ _ _); first | with_reducible refine wt_n ?_ | ((with_reducible apply wt_t); (· rfl)) | ((with_reducible apply wt_unl); (· rfl))) | ((with_reducible show WTs _ _ _ _); first | with_reducible refine wts_nil ?_ | with_reducible refine wts_cons ?_) | ((with_reducible apply own_); (· rfl)) | ((with_reducible refine sml_ ?_ ?_ ?_); (· walk_at "sd"); (· walk_at "sd")) | with_reducible refine isi_ ?_ | ((with_reducible show WSX _ _ _); first | with_reducible refine wsx_lift ?_ | with_reducible refine wsx_seq ?_ | with_reducible refine wsx_if ?_ | with_reducible refine wsx_raise0 ?_ | with_reducible refine wsx_expr ?_ | with_reducible refine wsx_ret ?_ | with_reducible refine wsx_set ?_) | with_reducible refine wex_call ?_ | ((with_reducible show WPu _ _ _ _); first | with_reducible refine wpu_nil ?_ | with_reducible refine wpu_seq ?_ | with_reducible refine wpu_ret ?_ | with_reducible refine wpu_if ?_) | ((with_reducible show WTd _ _ _ _ _); first | with_reducible refine wtd_P ?_ | with_reducible refine wtd_G ?_ | with_reducible refine wtd_If ?_ | ((with_reducible refine wtd_K ?_ ?_); (· exact ⟨rfl, by decide⟩)) | ((with_reducible refine wtd_U ?_ ?_); (· exact ⟨rfl, by decide⟩)) | ((with_reducible refine wtd_C ?_ ?_); (· rfl)) | ((with_reducible refine wtd_A ?_ ?_ ?_); (· rfl); (· first | rfl | (apply fits_of; first | omega | (simp; omega))))) | with_reducible refine two_ ?_ | ((with_reducible show WC _ _ _ _ _ _ _); first | with_reducible refine wc_nil ?_ | with_reducible refine wc_cons ?_) | ((with_reducible show WP _ _ _); first | with_reducible refine wp_no ?_ | with_reducible refine wp_e ?_) | with_reducible refine isl ?_ | ((with_reducible show RetT _ _ _); first | ((with_reducible apply retT1); (· rfl)) | ((with_reducible apply retT2); (· rfl))) | ((with_reducible show Any _ _); first | ((with_reducible apply any_o); (· rfl)) | ((with_reducible apply any_r); (· rfl))) | ((with_reducible show CallH _ _ _ _); first | ((with_reducible apply ch0); (· rfl)) | ((with_reducible apply ch1); (· rfl); (· rfl))) | ((with_reducible apply cgx0); (· rfl))))
local macro_rules | `(tactic| walk_at "vc") => `(tactic| (repeat' first | ((with_reducible show WE _ _ _); first | with_reducible refine we_callN ?_ | with_reducible refine we_c ?_ | with_reducible refine we_un ?_ | with_reducible refine we_bin ?_ | with_reducible refine we_chain ?_ | with_reducible refine we_and ?_ | with_reducible refine we_or ?_ | with_reducible refine we_not ?_ | with_reducible refine we_if ?_ | with_reducible refine we_fz ?_ | with_reducible refine we_tup ?_ | with_reducible refine we_sl ?_ | with_reducible refine we_tupRg ?_ | with_reducible refine we_bor ?_ | with_reducible refine we_call ?_ | with_reducible refine we_din ?_ | with_reducible refine we_borL ?_ | ((with_reducible apply we_v); (· rfl)) | ((with_reducible show WE (eO _) _ _); first | ((with_reducible apply we_oV); (· rfl)) | ((with_reducible apply we_oW); (· rfl)) | ((with_reducible apply we_oR); (· rfl))) | ((with_reducible show WE (eBinV _ _ _) _ _); first | ((with_reducible apply we_bV); (· rfl)) | ((with_reducible apply we_bVr); (· rfl)) | ((with_reducible apply we_bVv); (· rfl))) | ((with_reducible apply we_mut); (· rfl)) | ((with_reducible apply we_mut0); (· rfl)) | ((with_reducible apply we_dget2); (· rfl)) | ((with_reducible apply we_didx); (· rfl))) | ((with_reducible show WO _ _); first | ((with_reducible show WO (gIsO _ _) _); first | with_reducible refine wo_isON ?_ | ((with_reducible refine wo_isO (b := true) ?_ ?_); (· rfl)) | ((with_reducible refine wo_isO (b := false) ?_ ?_); (· rfl))) | with_reducible refine wo_attr ?_ | ((with_reducible show WO (valsA _) _); first | with_reducible refine vals_nil ?_ | with_reducible refine vals_v ?_) | with_reducible refine wo_isB ?_ | with_reducible refine wo_ntB ?_ | ((with_reducible show WO (backAr _ _ _) _); first | with_reducible refine back_nil ?_ | with_reducible refine back_v ?_ | with_reducible refine back_o ?_ | ((with_reducible apply back_r); (· rfl))) | ((with_reducible show WO (resArs _ _) _); first | with_reducible refine res_nil ?_ | with_reducible refine res_v ?_ | ((with_reducible apply res_r); (· rfl)) | ((with_reducible apply res_oO); (· rfl)) | ((with_reducible apply res_oR); (· rfl)) | ((with_reducible apply res_oV); (· rfl))) | ((with_reducible show WO (gAdd _ _) _); first | with_reducible refine wo_add ?_ | ((with_reducible refine wo_addL ?_ ?_); (· first | rfl | (apply fits_of; first | omega | (simp; omega)))) | ((with_reducible refine wo_addT ?_ ?_); (· first | rfl | (apply fits_of; first | omega | (simp; omega))))) | with_reducible refine wo_sub ?_ | with_reducible refine wo_neg ?_ | with_reducible refine wo_lt ?_ | with_reducible refine wo_le ?_ | with_reducible refine wo_gt ?_ | with_reducible refine wo_ge ?_ | ((with_reducible show WO (gEq _ _) _); first | with_reducible refine wo_eq ?_ | with_reducible refine wo_eqB ?_ | ((with_reducible refine wo_eqT ?_ ?_); (· decide +kernel)) | ((with_reducible refine wo_eqF ?_ ?_); (· decide +kernel))) | ((with_reducible show WO (gNe _ _) _); first | with_reducible refine wo_ne ?_ | with_reducible refine wo_neB ?_ | ((with_reducible refine wo_neT ?_ ?_); (· decide +kernel)) | ((with_reducible refine wo_neF ?_ ?_); (· decide +kernel))) | with_reducible refine wo_isN ?_ | with_reducible refine wo_ntN ?_ | ((with_reducible show WO (gLen _) _); first | with_reducible refine wo_lenL ?_ | with_reducible refine wo_lenT ?_) | with_reducible refine wo_abs ?_ | ((with_reducible show WO (gInt _) _); first | with_reducible refine wo_intB ?_ | with_reducible refine wo_intI ?_) | ((with_reducible show WO (gList _) _); first | with_reducible refine wo_listL ?_ | with_reducible refine wo_listT ?_) | ((with_reducible show WO (gTuple _) _); first | with_reducible refine wo_tupL ?_ | with_reducible refine wo_tupT ?_) | with_reducible refine wo_max ?_ | with_reducible refine wo_min ?_ | ((with_reducible show WO (gIsi _ _) _); first | with_reducible refine wo_isiI ?_ | with_reducible refine wo_isiB ?_ | ((with_reducible apply wo_isiE); (· rfl))) | ((with_reducible show WO (cutOf _ _ _) _); first | with_reducible refine wo_cutL ?_ | with_reducible refine wo_cutT ?_) | ((with_reducible show WO (gPow _ _) _); first | with_reducible refine wo_p10_60 ?_ | with_reducible refine wo_p10_18 ?_ | with_reducible refine wo_p10_30 ?_ | with_reducible refine wo_p2_24 ?_ | with_reducible refine wo_p10_8 ?_ | with_reducible refine wo_p10_19 ?_ | with_reducible refine wo_p10_55 ?_ | with_reducible refine wo_p10_59 ?_ | with_reducible refine wo_p3_30 ?_ | with_reducible refine wo_p2_40 ?_ | with_reducible refine wo_p10_54 ?_ | with_reducible refine wo_p3_13 ?_ | with_reducible refine wo_p2_20 ?_ | with_reducible refine wo_p10_57 ?_ | with_reducible refine wo_p10_40 ?_ | with_reducible refine wo_p10_61 ?_ | with_reducible refine wo_p10_50 ?_) | ((with_reducible apply wo_idxE); (· rfl)) | ((with_reducible apply wo_allE); (· rfl)) | ((with_reducible apply wo_anyE); (· rfl)) | ((with_reducible show WO (ixN _ _) _); first | ((with_reducible apply wo_ixE); (· rfl)) | ((with_reducible refine wo_ix ?_ ?_ ?_); (· walk_at "sd"); (· walk_at "sd"))) | ((with_reducible refine wo_mod ?_ ?_); (· walk_at "sd")) | ((with_reducible refine wo_div ?_ ?_ ?_); (· walk_at "sd"); (· walk_at "sd")) | ((with_reducible refine wo_mul ?_ ?_); (· first | exact mul_ok1 (by walk_at "sd") | exact mul_ok2 (by walk_at "sd") | exact mul_ok3 (by omega) (by omega))) | ((with_reducible refine wo_app ?_ ?_); (· first | rfl | (apply fits_of; first | omega | (simp; omega)))) | ((with_reducible refine wo_ext ?_ ?_); (· first | rfl | (apply fits_of; first | omega | (simp; omega))))) | ((with_reducible show WS _ _ _); first | with_reducible refine ws_try ?_ | with_reducible refine ws_retT ?_ | with_reducible refine ws_seq ?_ | with_reducible refine ws_expr ?_ | with_reducible refine ws_ret ?_ | with_reducible refine ws_retL ?_ | with_reducible refine ws_if ?_ | with_reducible refine ws_set ?_ | with_reducible refine ws_setO ?_ | with_reducible refine ws_asg ?_ | with_reducible refine ws_par ?_ | with_reducible refine ws_nil ?_ | with_reducible refine ws_retN ?_ | with_reducible refine ws_dput ?_ | with_reducible refine ws_dnew ?_ | ((with_reducible show WS (sFrz _ _) _ _); first | ((with_reducible apply ws_frz); (· rfl)) | ((with_reducible apply ws_frzV); (· rfl))) | ((with_reducible apply ws_retO); (· rfl)) | ((with_reducible apply ws_putI); (· rfl))) | ((with_reducible apply nrm_); (· (try simp only [wipeE, backE, List.set_cons_zero, List.set_cons_succ, List.getElem?_cons_zero, List.getElem?_cons_succ, List.cons_append, List.nil_append, List.replicate_succ, List.replicate_zero, Nat.reduceSub, unowns_nil, unowns_cons, unown_own, unown_val, unown_no, unown_ro, unown_dct]); rfl)) | ((with_reducible show IfB _ _ _); first | with_reducible refine ifb_not ?_ | with_reducible refine ifb_t ?_ | with_reducible refine ifb_f ?_ | ((with_reducible refine ifb_decT ?_ ?_); (· first | (with_reducible assumption) | omega | (simp only [List.length_cons, List.length_nil]; omega))) | ((with_reducible refine ifb_decF ?_ ?_); (· first | (with_reducible assumption) | omega | (simp only [List.length_cons, List.length_nil]; omega))) | with_reducible refine ifb_dec (fun _ => ?_) (fun _ => ?_) | ((with_reducible apply ifb_eT); (· rfl)) | ((with_reducible apply ifb_eF); (· rfl))) | ((with_reducible show WB _ _ _); first | with_reducible refine wb_bor ?_ | with_reducible refine wb_v ?_ | with_reducible refine wb_and ?_ | with_reducible refine wb_or ?_ | with_reducible refine wb_not ?_ | with_reducible refine wb_yes ?_) | with_reducible refine isb ?_ | ((with_reducible show WL _ _ _); first | with_reducible refine wl_nil ?_ | with_reducible refine wl_cons ?_ | with_reducible refine wl_lst ?_ | with_reducible refine wl_un ?_ | with_reducible refine wl_it ?_ | with_reducible refine wl_rng1 ?_ | with_reducible refine wl_rng2 ?_ | with_reducible refine wl_enum ?_ | with_reducible refine wl_enumA ?_ | with_reducible refine wl_addE ?_ | with_reducible refine wl_rg1 ?_ | with_reducible refine wl_bor ?_ | with_reducible refine wl_call ?_ | ((with_reducible apply wl_addO); (· rfl)) | ((with_reducible show WL (lSlV _ _ _) _ _); first | ((with_reducible apply wl_slO); (· rfl)) | ((with_reducible apply wl_slR); (· rfl)))) | ((with_reducible show WA _ _ _); first | with_reducible refine wa_nil ?_ | with_reducible refine wa_v ?_ | ((with_reducible apply wa_r); (· rfl)) | ((with_reducible show WA (aO _ _) _ _); first | ((with_reducible apply wa_oR); (· rfl)) | ((with_reducible apply wa_oO); (· rfl)) | ((with_reducible apply wa_oV); (· rfl)))) | ((with_reducible show IsS _ _); first | with_reducible refine iss_l ?_ | with_reducible refine iss_t ?_) | ((with_reducible refine fit_ ?_ ?_); (· first | rfl | (apply fits_of; first | omega | (simp; omega)))) | ((with_reducible show CallG _ _ _ _); first | ((with_reducible apply cg0); (· rfl)) | ((with_reducible apply cg1); (· rfl); (· rfl))) | ((with_reducible show WT _ _ _ _); first | with_reducible refine wt_n ?_ | ((with_reducible apply wt_t); (· rfl)) | ((with_reducible apply wt_unl); (· rfl))) | ((with_reducible show WTs _ _ _ _); first | with_reducible refine wts_nil ?_ | with_reducible refine wts_cons ?_) | ((with_reducible apply own_); (· rfl)) | ((with_reducible refine sml_ ?_ ?_ ?_); (· walk_at "sd"); (· walk_at "sd")) | with_reducible refine isi_ ?_ | ((with_reducible show WSX _ _ _); first | with_reducible refine wsx_lift ?_ | with_reducible refine wsx_seq ?_ | with_reducible refine wsx_if ?_ | with_reducible refine wsx_raise0 ?_ | with_reducible refine wsx_expr ?_ | with_reducible refine wsx_ret ?_ | with_reducible refine wsx_set ?_) | with_reducible refine wex_call ?_ | ((with_reducible show WPu _ _ _ _); first | with_reducible refine wpu_nil ?_ | with_reducible refine wpu_seq ?_ | with_reducible refine wpu_ret ?_ | with_reducible refine wpu_if ?_) | ((with_reducible show WTd _ _ _ _ _); first | with_reducible refine wtd_P ?_ | with_reducible refine wtd_G ?_ | with_reducible refine wtd_If ?_ | ((with_reducible refine wtd_K ?_ ?_); (· exact ⟨rfl, by decide⟩)) | ((with_reducible refine wtd_U ?_ ?_); (· exact ⟨rfl, by decide⟩)) | ((with_reducible refine wtd_C ?_ ?_); (· rfl)) | ((with_reducible refine wtd_A ?_ ?_ ?_); (· rfl); (· first | rfl | (apply fits_of; first | omega | (simp; omega))))) | with_reducible refine two_ ?_ | ((with_reducible show WC _ _ _ _ _ _ _); first | with_reducible refine wc_nil ?_ | with_reducible refine wc_cons ?_) | ((with_reducible show WP _ _ _); first | with_reducible refine wp_no ?_ | with_reducible refine wp_e ?_) | with_reducible refine isl ?_ | ((with_reducible show RetT _ _ _); first | ((with_reducible apply retT1); (· rfl)) | ((with_reducible apply retT2); (· rfl))) | ((with_reducible show Any _ _); first | ((with_reducible apply any_o); (· rfl)) | ((with_reducible apply any_r); (· rfl))) | ((with_reducible show CallH _ _ _ _); first | ((with_reducible apply ch0); (· rfl)) | ((with_reducible apply ch1); (· rfl); (· rfl))) | ((with_reducible apply cgx0); (· rfl))))
local macro_rules | `(tactic| walk_at "vd") => `(tactic| (repeat' first | ((with_reducible show WE _ _ _); first | with_reducible refine we_callN ?_ | with_reducible refine we_c ?_ | with_reducible refine we_un ?_ | with_reducible refine we_bin ?_ | with_reducible refine we_chain ?_ | with_reducible refine we_and ?_ | with_reducible refine we_or ?_ | with_reducible refine we_not ?_ | with_reducible refine we_if ?_ | with_reducible refine we_fz ?_ | with_reducible refine we_tup ?_ | with_reducible refine we_sl ?_ | with_reducible refine we_tupRg ?_ | with_reducible refine we_bor ?_ | with_reducible refine we_call ?_ | with_reducible refine we_din ?_ | with_reducible refine we_borL ?_ | ((with_reducible apply we_v); (· rfl)) | ((with_reducible show WE (eO _) _ _); first | ((with_reducible apply we_oV); (· rfl)) | ((with_reducible apply we_oW); (· rfl)) | ((with_reducible apply we_oR); (· rfl))) | ((with_reducible show WE (eBinV _ _ _) _ _); first | ((with_reducible apply we_bV); (· rfl)) | ((with_reducible apply we_bVr); (· rfl)) | ((with_reducible apply we_bVv); (· rfl))) | ((with_reducible apply we_mut); (· rfl)) | ((with_reducible apply we_mut0); (· rfl)) | ((with_reducible apply we_dget2); (· rfl)) | ((with_reducible apply we_didx); (· rfl))) | ((with_reducible show WO _ _); first | ((with_reducible show WO (gIsO _ _) _); first | with_reducible refine wo_isON ?_ | ((with_reducible refine wo_isO (b := true) ?_ ?_); (· rfl)) | ((with_reducible refine wo_isO (b := false) ?_ ?_); (· rfl))) | with_reducible refine wo_attr ?_ | ((with_reducible show WO (valsA _) _); first | with_reducible refine vals_nil ?_ | with_reducible refine vals_v ?_) | with_reducible refine wo_isB ?_ | with_reducible refine wo_ntB ?_ | ((with_reducible show WO (backAr _ _ _) _); first | with_reducible refine back_nil ?_ | with_reducible refine back_v ?_ | with_reducible refine back_o ?_ | ((with_reducible apply back_r); (· rfl))) | ((with_reducible show WO (resArs _ _) _); first | with_reducible refine res_nil ?_ | with_reducible refine res_v ?_ | ((with_reducible apply res_r); (· rfl)) | ((with_reducible apply res_oO); (· rfl)) | ((with_reducible apply res_oR); (· rfl)) | ((with_reducible apply res_oV); (· rfl))) | ((with_reducible show WO (gAdd _ _) _); first | with_reducible refine wo_add ?_ | ((with_reducible refine wo_addL ?_ ?_); (· first | rfl | (apply fits_of; first | omega | (simp; omega)))) | ((with_reducible refine wo_addT ?_ ?_); (· first | rfl | (apply fits_of; first | omega | (simp; omega))))) | with_reducible refine wo_sub ?_ | with_reducible refine wo_neg ?_ | with_reducible refine wo_lt ?_ | with_reducible refine wo_le ?_ | with_reducible refine wo_gt ?_ | with_reducible refine wo_ge ?_ | ((with_reducible show WO (gEq _ _) _); first | with_reducible refine wo_eq ?_ | with_reducible refine wo_eqB ?_ | ((with_reducible refine wo_eqT ?_ ?_); (· decide +kernel)) | ((with_reducible refine wo_eqF ?_ ?_); (· decide +kernel))) | ((with_reducible show WO (gNe _ _) _); first | with_reducible refine wo_ne ?_ | with_reducible refine wo_neB ?_ | ((with_reducible refine wo_neT ?_ ?_); (· decide +kernel)) | ((with_reducible refine wo_neF ?_ ?_); (· decide +kernel))) | with_reducible refine wo_isN ?_ | with_reducible refine wo_ntN ?_ | ((with_reducible show WO (gLen _) _); first | with_reducible refine wo_lenL ?_ | with_reducible refine wo_lenT ?_) | with_reducible refine wo_abs ?_ | ((with_reducible show WO (gInt _) _); first | with_reducible refine wo_intB ?_ | with_reducible refine wo_intI ?_) | ((with_reducible show WO (gList _) _); first | with_reducible refine wo_listL ?_ | with_reducible refine wo_listT ?_) | ((with_reducible show WO (gTuple _) _); first | with_reducible refine wo_tupL ?_ | with_reducible refine wo_tupT ?_) | with_reducible refine wo_max ?_ | with_reducible refine wo_min ?_ | ((with_reducible show WO (gIsi _ _) _); first | with_reducible refine wo_isiI ?_ | with_reducible refine wo_isiB ?_ | ((with_reducible apply wo_isiE); (· rfl))) | ((with_reducible show WO (cutOf _ _ _) _); first | with_reducible refine wo_cutL ?_ | with_reducible refine wo_cutT ?_) | ((with_reducible show WO (gPow _ _) _); first | with_reducible refine wo_p10_60 ?_ | with_reducible refine wo_p10_18 ?_ | with_reducible refine wo_p10_30 ?_ | with_reducible refine wo_p2_24 ?_ | with_reducible refine wo_p10_8 ?_ | with_reducible refine wo_p10_19 ?_ | with_reducible refine wo_p10_55 ?_ | with_reducible refine wo_p10_59 ?_ | with_reducible refine wo_p3_30 ?_ | with_reducible refine wo_p2_40 ?_ | with_reducible refine wo_p10_54 ?_ | with_reducible refine wo_p3_13 ?_ | with_reducible refine wo_p2_20 ?_ | with_reducible refine wo_p10_57 ?_ | with_reducible refine wo_p10_40 ?_ | with_reducible refine wo_p10_61 ?_ | with_reducible refine wo_p10_50 ?_) | ((with_reducible apply wo_idxE); (· rfl)) | ((with_reducible apply wo_allE); (· rfl)) | ((with_reducible apply wo_anyE); (· rfl)) | ((with_reducible show WO (ixN _ _) _); first | ((with_reducible apply wo_ixE); (· rfl)) | ((with_reducible refine wo_ix ?_ ?_ ?_); (· walk_at "sd"); (· walk_at "sd"))) | ((with_reducible refine wo_mod ?_ ?_); (· walk_at "sd")) | ((with_reducible refine wo_div ?_ ?_ ?_); (· walk_at "sd"); (· walk_at "sd")) | ((with_reducible refine wo_mul ?_ ?_); (· first | exact mul_ok1 (by walk_at "sd") | exact mul_ok2 (by walk_at "sd") | exact mul_ok3 (by omega) (by omega))) | ((with_reducible refine wo_app ?_ ?_); (· first | rfl | (apply fits_of; first | omega | (simp; omega)))) | ((with_reducible refine wo_ext ?_ ?_); (· first | rfl | (apply fits_of; first | omega | (simp; omega))))) | ((with_reducible show WS _ _ _); first | with_reducible refine ws_try ?_ | with_reducible refine ws_retT ?_ | with_reducible refine ws_seq ?_ | with_reducible refine ws_expr ?_ | with_reducible refine ws_ret ?_ | with_reducible refine ws_retL ?_ | with_reducible refine ws_set ?_ | with_reducible refine ws_setO ?_ | with_reducible refine ws_asg ?_ | with_reducible refine ws_par ?_ | with_reducible refine ws_nil ?_ | with_reducible refine ws_retN ?_ | with_reducible refine ws_dput ?_ | with_reducible refine ws_dnew ?_ | ((with_reducible show WS (sFrz _ _) _ _); first | ((with_reducible apply ws_frz); (· rfl)) | ((with_reducible apply ws_frzV); (· rfl))) | ((with_reducible apply ws_retO); (· rfl)) | ((with_reducible apply ws_putI); (· rfl))) | ((with_reducible apply nrm_); (· (try simp only [wipeE, backE, List.set_cons_zero, List.set_cons_succ, List.getElem?_cons_zero, List.getElem?_cons_succ, List.cons_append, List.nil_append, List.replicate_succ, List.replicate_zero, Nat.reduceSub, unowns_nil, unowns_cons, unown_own, unown_val, unown_no, unown_ro, unown_dct]); rfl)) | ((with_reducible show IfB _ _ _); first | with_reducible refine ifb_not ?_ | with_reducible refine ifb_t ?_ | with_reducible refine ifb_f ?_ | ((with_reducible refine ifb_decT ?_ ?_); (· first | (with_reducible assumption) | omega | (simp only [List.length_cons, List.length_nil]; omega))) | ((with_reducible refine ifb_decF ?_ ?_); (· first | (with_reducible assumption) | omega | (simp only [List.length_cons, List.length_nil]; omega))) | with_reducible refine ifb_dec (fun _ => ?_) (fun _ => ?_) | ((with_reducible apply ifb_eT); (· rfl)) | ((with_reducible apply ifb_eF); (· rfl))) | ((with_reducible show WB _ _ _); first | with_reducible refine wb_bor ?_ | with_reducible refine wb_v ?_ | with_reducible refine wb_and ?_ | with_reducible refine wb_or ?_ | with_reducible refine wb_not ?_ | with_reducible refine wb_yes ?_) | with_reducible refine isb ?_ | ((with_reducible show WL _ _ _); first | with_reducible refine wl_nil ?_ | with_reducible refine wl_cons ?_ | with_reducible refine wl_lst ?_ | with_reducible refine wl_un ?_ | with_reducible refine wl_it ?_ | with_reducible refine wl_rng1 ?_ | with_reducible refine wl_rng2 ?_ | with_reducible refine wl_enum ?_ | with_reducible refine wl_enumA ?_ | with_reducible refine wl_addE ?_ | with_reducible refine wl_rg1 ?_ | with_reducible refine wl_bor ?_ | with_reducible refine wl_call ?_ | ((with_reducible apply wl_addO); (· rfl)) | ((with_reducible show WL (lSlV _ _ _) _ _); first | ((with_reducible apply wl_slO); (· rfl)) | ((with_reducible apply wl_slR); (· rfl)))) | ((with_reducible show WA _ _ _); first | with_reducible refine wa_nil ?_ | with_reducible refine wa_v ?_ | ((with_reducible apply wa_r); (· rfl)) | ((with_reducible show WA (aO _ _) _ _); first | ((with_reducible apply wa_oR); (· rfl)) | ((with_reducible apply wa_oO); (· rfl)) | ((with_reducible apply wa_oV); (· rfl)))) | ((with_reducible show IsS _ _); first | with_reducible refine iss_l ?_ | with_reducible refine iss_t ?_) | ((with_reducible refine fit_ ?_ ?_); (· first | rfl | (apply fits_of; first | omega | (simp; omega)))) | ((with_reducible show CallG _ _ _ _); first | ((with_reducible apply cg0); (· rfl)) | ((with_reducible apply cg1); (· rfl); (· rfl))) | ((with_reducible show WT _ _ _ _); first | with_reducible refine wt_n ?_ | ((with_reducible apply wt_t); (· rfl)) | ((with_reducible apply wt_unl); (· rfl))) | ((with_reducible show WTs _ _ _ _); first | with_reducible refine wts_nil ?_ | with_reducible refine wts_cons ?_) | ((with_reducible apply own_); (· rfl)) | ((with_reducible refine sml_ ?_ ?_ ?_); (· walk_at "sd"); (· walk_at "sd")) | with_reducible refine isi_ ?_ | ((with_reducible show WSX _ _ _); first | with_reducible refine wsx_lift ?_ | with_reducible refine wsx_seq ?_ | with_reducible refine wsx_if ?_ | with_reducible refine wsx_raise0 ?_ | with_reducible refine wsx_expr ?_ | with_reducible refine wsx_ret ?_ | with_reducible refine wsx_set ?_) | with_reducible refine wex_call ?_ | ((with_reducible show WPu _ _ _ _); first | with_reducible refine wpu_nil ?_ | with_reducible refine wpu_seq ?_ | with_reducible refine wpu_ret ?_ | with_reducible refine wpu_if ?_) | ((with_reducible show WTd _ _ _ _ _); first | with_reducible refine wtd_P ?_ | with_reducible refine wtd_G ?_ | with_reducible refine wtd_If ?_ | ((with_reducible refine wtd_K ?_ ?_); (· exact ⟨rfl, by decide⟩)) | ((with_reducible refine wtd_U ?_ ?_); (· exact ⟨rfl, by decide⟩)) | ((with_reducible refine wtd_C ?_ ?_); (· rfl)) | ((with_reducible refine wtd_A ?_ ?_ ?_); (· rfl); (· first | rfl | (apply fits_of; first | omega | (simp; omega))))) | with_reducible refine two_ ?_ | ((with_reducible show WC _ _ _ _ _ _ _); first | with_reducible refine wc_nil ?_ | with_reducible refine wc_cons ?_) | ((with_reducible show WP _ _ _); first | with_reducible refine wp_no ?_ | with_reducible refine wp_e ?_) | with_reducible refine isl ?_ | ((with_reducible show RetT _ _ _); first | ((with_reducible apply retT1); (· rfl)) | ((with_reducible apply retT2); (· rfl))) | ((with_reducible show Any _ _); first | ((with_reducible apply any_o); (· rfl)) | ((with_reducible apply any_r); (· rfl))) | ((with_reducible show CallH _ _ _ _); first | ((with_reducible apply ch0); (· rfl)) | ((with_reducible apply ch1); (· rfl); (· rfl))) | ((with_reducible apply cgx0); (· rfl))))
local macro_rules | `(tactic| walk_at "nr") => `(tactic| ((with_reducible apply nrm_); (· (try simp only [wipeE, backE, List.set_cons_zero, List.set_cons_succ, List.getElem?_cons_zero, List.getElem?_cons_succ, List.cons_append, List.nil_append, List.replicate_succ, List.replicate_zero, Nat.reduceSub, unowns_nil, unowns_cons, unown_own, unown_val, unown_no, unown_ro, unown_dct]); rfl)))
local macro_rules | `(tactic| walk_at "nb") => `(tactic| simp only [wipeE, backE, List.set_cons_zero, List.set_cons_succ, List.getElem?_cons_zero, List.getElem?_cons_succ])
/-! ### the law's own helpers -/
theorem take_w {a b m : Int} {Q : D → List Sl → Prop} (hm : 0 < m) (hm2 : m < 10 ^ 200) (q : ∀ r a' b' x, 0 ≤ r → r < m → Q (.int r) [.own false [.int a', .int b'], x]) :
    WG g__law_take [.own false [.int a, .int b], .val (.int m)] Q := by
  refine wg_run rfl ?_
  unfold b__law_take
  walk_at "vc"
  · exact q _ _ _ _ (Int.emod_nonneg _ (by omega)) (Int.emod_lt_of_pos _ hm)
  · exact q _ _ _ _ (Int.emod_nonneg _ (by omega)) (Int.emod_lt_of_pos _ hm)
theorem wide_w {a b m : Int} {Q : D → List Sl → Prop} (hm : 0 < m) (q : ∀ r a' b' x, 0 ≤ r → r < m → Q (.int r) [.own false [.int a', .int b'], x]) :
    WG g__law_wide [.own false [.int a, .int b], .val (.int m)] Q := by
  refine wg_run rfl ?_
  unfold b__law_wide
  walk_at "vc"
  refine ws_for (fun _ _ e => ∃ (a b f : Int) (t : Sl), e = [.own false [.int a, .int b], .val (.int m), .val (.int f), t]) ?_
  walk_at "vc"
  refine ⟨⟨a, b, 0, .no, rfl⟩, ?_, ?_⟩
  · rintro d _ _ ⟨a, b, f, t, rfl⟩
    (repeat' first | walk_at "v1" | ((with_reducible refine take_w ?_ ?_ fun _ _ _ _ _ _ => ?_); (· walk_at "sd"); (· walk_at "sd")))
    exact ⟨_, _, _, _, rfl⟩
  · rintro _ ⟨a, b, f, t, rfl⟩
    walk_at "vc"
    exact q _ _ _ _ (Int.emod_nonneg _ (by omega)) (Int.emod_lt_of_pos _ hm)
theorem power_w {b n : Nat} {Q : D → List Sl → Prop} (hb : b < 2 ^ 64) (hn : n ≤ 1000000) (q : ∀ x y, Q (.int ((b ^ n : Nat) : Int)) [x, y]) :
    WG g__law_power [.val (.int b), .val (.int n)] Q := by
  refine wg_run rfl ?_
  unfold b__law_power
  walk_at "vc"
  refine ws_forN (fun _ k e => ∃ t : Sl, e = [.val (.int b), .val (.int n), .val (.int ((b ^ k : Nat) : Int)), t]) ?_
  walk_at "vc"
  refine ⟨⟨_, rfl⟩, ?_, ?_⟩
  · rintro k d _ _ _ ⟨t, rfl⟩
    walk_at "vc"
    refine ⟨.val d, ?_⟩
    rw [Nat.pow_succ, Int.natCast_mul]
  · rintro _ ⟨t, rfl⟩
    walk_at "vc"
    have := q (.val (.int b)) (.val (.int n))
    rw [irange_length, Int.toNat_natCast]
    exact this

theorem cells_w {ns : List Int} {m : Nat} {Q : D → List Sl → Prop} (h0 : 0 < m) (hm : m ≤ 63) (q : ∀ (cs : List Int) x y, cs.length ≤ m → Q (.list (cs.map .int)) [x, y]) :
    WG g__law_cells [.ro (ns.map .int), .val (.int m)] Q := by
  refine wg_run rfl ?_
  unfold b__law_cells
  walk_at "vc"
  rw [cut_take, ← List.map_take]
  refine ws_for (fun _ rs e => ∃ (cs : List Int) (x y : Sl), cs.length ≤ m ∧ (rs ≠ [] → cs.length = m) ∧ (∀ d ∈ rs, ∃ i n : Int, 0 ≤ i ∧ d = .tuple [.int i, .int n]) ∧ e = [.ro (ns.map .int), .val (.int m), .own true (cs.map .int), x, y]) ?_
  walk_at "vc"
  rw [show (63 : Int) = ((63 : Nat) : Int) from rfl, cut_from, ← List.map_drop, ← List.map_take]
  refine ⟨⟨ns.take m, .no, .no, by rw [List.length_take]; omega, fun hne => ?_, fun d hd => ?_, rfl⟩, ?_, ?_⟩
  · rw [List.length_take]
    rcases Nat.lt_or_ge m ns.length with h | h
    · omega
    · rw [List.drop_eq_nil_of_le h] at hne
      exact absurd (by simp [pairs]) hne
  · obtain ⟨x, y, rfl, h1, h2⟩ := pairs_mem hd
    obtain ⟨i, rfl, h3, _⟩ := irange_zero h1
    obtain ⟨n, rfl⟩ := ints_mem h2
    exact ⟨i, n, h3, rfl⟩
  · rintro d rs e ⟨cs, x, y, h1, h2, h3, rfl⟩
    obtain ⟨i, n, hi, rfl⟩ := h3 d List.mem_cons_self
    have hl := h2 (by simp)
    have hr0 : 0 ≤ i % (m : Int) := Int.emod_nonneg _ (by omega)
    have hr1 : i % (m : Int) < m := Int.emod_lt_of_pos _ (by omega)
    walk_at "vc"
    refine wo_idxL hr0 (by rw [List.length_map, hl]; exact hr1) fun d hd _ => ?_
    obtain ⟨c, rfl⟩ := ints_get hd
    walk_at "vc"
    refine ⟨cs.set (i % (m : Int)).toNat (c * 31 + n), .val (.int i), .val (.int n), by rw [List.length_set]; omega, fun _ => by rw [List.length_set]; exact hl, fun d hd => h3 d (List.mem_cons_of_mem _ hd), ?_⟩
    rw [List.map_set]
  · rintro e ⟨cs, x, y, h1, h2, h3, rfl⟩
    walk_at "vc"
    exact q cs _ _ h1
theorem pool_w {cs : List Int} {k : Int} {Q : List D → List Sl → Prop} (h0 : 0 ≤ k) (h1 : k ≤ 63) (hl : cs.length ≤ 63) (q : ∀ (a b : Int) x y, Q [.int a, .int b] [x, y]) :
    WH g__law_pool [.val (.list (cs.map .int)), .val (.int k)] Q := by
  refine wh_new rfl ?_
  unfold b__law_pool
  walk_at "nr"
  refine ws_mid (fun e => e = [.val (.list (cs.map .int)), .val (.int k), .val (.int 0), .no]) (by walk_at "vc"; rfl) ?_
  rintro _ rfl
  refine ws_mid (fun e => ∃ c : Int, e = [.val (.list (cs.map .int)), .val (.int k), .val (.int c), .no]) ?_ ?_
  · walk_at "vc"
    · rename_i h
      rw [List.length_map] at h
      have hr0 : 0 ≤ k % ((cs.map PyData.int).length : Int) := Int.emod_nonneg _ (by rw [List.length_map]; omega)
      have hr1 : k % ((cs.map PyData.int).length : Int) < ((cs.map PyData.int).length : Int) := Int.emod_lt_of_pos _ (by rw [List.length_map]; omega)
      refine wo_idxL hr0 hr1 fun d hd _ => ?_
      obtain ⟨c, rfl⟩ := ints_get hd
      walk_at "vc"
      exact ⟨_, rfl⟩
    · exact ⟨0, rfl⟩
  · rintro _ ⟨c, rfl⟩
    refine ws_mid (fun e => e = [.val (.list (cs.map .int)), .val (.int k), .val (.int c), .val (.int 0)]) (by walk_at "vc"; rfl) ?_
    rintro _ rfl
    refine ws_mid (fun e => ∃ d : Int, e = [.val (.list (cs.map .int)), .val (.int k), .val (.int c), .val (.int d)]) ?_ ?_
    · walk_at "vc"
      · exact ⟨_, rfl⟩
      · exact ⟨_, rfl⟩
      · exact ⟨_, rfl⟩
    · rintro _ ⟨d, rfl⟩
      walk_at "vc"
      exact q _ _ _ _

theorem mark_w {a b m : Int} {Q : D → List Sl → Prop} (hm : 0 < m) (hm2 : m ≤ 10 ^ 60) (q : ∀ (r a' b' : Int) x, 0 ≤ r → r < m → Q (.int r) [.own false [.int a', .int b'], x]) :
    WG g__law_mark [.own false [.int a, .int b], .val (.int m)] Q := by
  refine wg_run rfl ?_
  unfold b__law_mark
  (repeat' first | walk_at "v1" | ((with_reducible refine take_w ?_ ?_ fun _ _ _ _ _ _ => ?_); (· walk_at "sd"); (· walk_at "sd")) | ((with_reducible refine wide_w ?_ fun _ _ _ _ _ _ => ?_); (· walk_at "sd")))
  refine pick_w (xs := [2, 3, 4, 5, 6, 7, 10, 11, 12]) (lo := 2) (hi := 12) (by omega) (by simp; omega) rfl (by decide) fun x h1 h2 _ => ?_
  (repeat' first | walk_at "v1" | ((with_reducible refine take_w ?_ ?_ fun _ _ _ _ _ _ => ?_); (· walk_at "sd"); (· walk_at "sd")) | ((with_reducible refine wide_w ?_ fun _ _ _ _ _ _ => ?_); (· walk_at "sd")))
  · exact q _ _ _ _ (Int.emod_nonneg _ (by omega)) (Int.emod_lt_of_pos _ hm)
  · rename_i r _ _ _ h3 h4
    have := Int.emod_lt_of_pos r hm
    have := Int.emod_nonneg r (show m ≠ 0 by omega)
    exact q _ _ _ _ (by omega) (by omega)
  · rename_i w _ _ _ _ _ _ _ _ _ _ r1 _ _ _ _ _ r2 _ _ _ _ _
    refine wo_idxL (by omega) (by simp; omega) fun d _ hd => ?_
    obtain ⟨z, rfl, hz, hz2⟩ : ∃ z : Int, d = .int z ∧ 0 ≤ z ∧ z < m := by
      simp only [List.mem_cons, List.not_mem_nil, or_false] at hd
      rcases hd with rfl | rfl
      · refine ⟨_, rfl, Int.mul_nonneg (Int.ediv_nonneg (by omega) (by omega)) (by assumption), ?_⟩
        have hd : x * (m / x) = m := Int.mul_ediv_cancel' (Int.dvd_of_emod_eq_zero (by assumption))
        have hp : 0 < m / x := by
          rcases Int.lt_or_le 0 (m / x) with h | h
          · exact h
          · have := Int.mul_le_mul_of_nonneg_left h (show 0 ≤ x by omega)
            omega
        rw [Int.mul_comm] at hd
        rw [← hd, Int.mul_ediv_cancel _ (show x ≠ 0 by omega)]
        exact Int.mul_lt_mul_of_pos_left (by omega) hp
      · exact ⟨_, rfl, Int.emod_nonneg _ (by omega), Int.emod_lt_of_pos _ hm⟩
    exact q _ _ _ _ hz hz2
  · exact q _ _ _ _ (by assumption) (by omega)
  · exact q _ _ _ _ (by assumption) (by omega)

theorem some_w {a b : Int} {menu : List D} {n : Nat} {Q : D → List Sl → Prop} (hn : n ≤ menu.length) (hl : menu.length ≤ 1000) (q : ∀ (rs : List D) (a' b' : Int) x y, rs.length = n → (∀ d ∈ rs, d ∈ menu) → Q (.list rs) [.own false [.int a', .int b'], x, y]) :
    WG g__law_some [.own false [.int a, .int b], .val (.list menu), .val (.int n)] Q := by
  refine wg_run rfl ?_
  unfold b__law_some
  walk_at "vc"
  refine wl_comp (fun ds rs acc e' e => ∃ (rest : List D) (a b : Int), acc.length + rs.length = n ∧ rest.length + acc.length = menu.length ∧ (∀ d ∈ acc, d ∈ menu) ∧ (∀ d ∈ rest, d ∈ menu) ∧ e' = [.own false [.int a, .int b], .val (.list menu), .val (.int n), .own true rest, .no]) ?_
  walk_at "vc"
  refine ⟨rfl, fits_of (by rw [irange_length]; omega), ⟨menu, a, b, by rw [irange_length]; simp, by simp, fun d hd => (by cases hd), fun d hd => hd, rfl⟩, ?_, ?_⟩
  · rintro d rs acc e' ⟨rest, a, b, h1, h2, h3, h4, rfl⟩
    rw [List.length_cons] at h1
    (repeat' first | walk_at "v1" | ((with_reducible refine take_w ?_ ?_ fun _ _ _ _ _ _ => ?_); (· walk_at "sd"); (· walk_at "sd")))
    rename_i r _ _ _ hr0 hr1
    refine wo_popAt hr0 (by omega) (by omega) fun d hd hm => ?_
    walk_at "vc"
    refine ⟨rest.eraseIdx r.toNat, _, _, by simp; omega, ?_, fun x hx => ?_, fun x hx => h4 x (List.mem_of_mem_eraseIdx hx), rfl⟩
    · rw [List.length_eraseIdx_of_lt (by omega)]
      simp
      omega
    · rcases List.mem_append.mp hx with hx | hx
      · exact h3 x hx
      · rw [List.mem_singleton] at hx; subst hx; exact h4 _ hm
  · rintro acc e' ⟨rest, a, b, h1, h2, h3, h4, rfl⟩
    walk_at "nb"
    exact q acc _ _ _ _ (by simpa using h1) h3

theorem hands_w {a b m : Int} {c : Nat} {mir : Bool} {Q : D → List Sl → Prop} (hm : 0 < m) (hm2 : m ≤ 10 ^ 60) (hc : c ≤ 5) (q : ∀ (hs : List Hd) (a' b' : Int) x y z, hs.length = c → HandsOk m hs → Q (.tuple (hs.map hD)) [.own false [.int a', .int b'], x, y, z]) :
    WG g__law_hands [.own false [.int a, .int b], .val (.int m), .val (.int c), .val (.bool mir)] Q := by
  refine wg_run rfl ?_
  unfold b__law_hands
  walk_at "vc"
  refine wo_letters ?_
  walk_at "vc"
  refine some_w (n := 5) (by decide) (by decide) fun ls _ _ _ _ hl1 hl2 => ?_
  walk_at "vc"
  refine wo_pick2 ?_
  have h0 : 0 < (if mir then (3 : Int) else 5) := by cases mir <;> decide
  have h5 : (if mir then (3 : Int) else 5) ≤ 5 := by cases mir <;> decide
  generalize (if mir then (3 : Int) else 5) = pm at *
  (repeat' first | walk_at "v1" | ((with_reducible refine take_w ?_ ?_ fun _ _ _ _ _ _ => ?_); (· walk_at "sd"); (· walk_at "sd")))
  rename_i r _ _ _ hr0 hr1
  refine wo_idxL hr0 (by simp; omega) fun d _ hd => ?_
  obtain ⟨ps, rfl, hp1, hp2⟩ : ∃ ps : List Int, d = .list (ps.map .int) ∧ ps.length = 5 ∧ ∀ p ∈ ps, 0 ≤ p ∧ p ≤ 4 := by
    simp only [List.mem_cons, List.not_mem_nil, or_false] at hd
    rcases hd with rfl | rfl | rfl | rfl | rfl
    · exact ⟨[0, 1, 2, 3, 4], rfl, rfl, by decide⟩
    · exact ⟨[0, 0, 1, 2, 3], rfl, rfl, by decide⟩
    · exact ⟨[0, 0, 1, 2, 3], rfl, rfl, by decide⟩
    · exact ⟨[0, 0, 0, 1, 2], rfl, rfl, by decide⟩
    · exact ⟨[0, 0, 1, 1, 2], rfl, rfl, by decide⟩
  walk_at "vc"
  rw [cut_take]
  refine ws_forN (fun ds k e => ∃ (hs : List Hd) (a b : Int) (t : Sl), hs.length = k ∧ HandsOk m hs ∧ e = [.own false [.int a, .int b], .val (.int m), .val (.int c), .val (.bool mir), .val (.list ls), .val (.list [.list [.int 0, .int 1, .int 2, .int 3, .int 4], .list [.int 0, .int 0, .int 1, .int 2, .int 3], .list [.int 0, .int 0, .int 1, .int 2, .int 3], .list [.int 0, .int 0, .int 0, .int 1, .int 2], .list [.int 0, .int 0, .int 1, .int 1, .int 2]]), .val (.list ((ps.map .int).take c)), .own true (hs.map hD), t]) ?_
  walk_at "vc"
  refine some_w (n := c) (by rw [List.length_take, List.length_map]; omega) (by rw [List.length_take, List.length_map]; omega) fun rs _ _ _ _ hr1 hr2 => ?_
  walk_at "vc"
  refine ⟨⟨[], _, _, .no, rfl, fun h hh => (by cases hh), rfl⟩, ?_, ?_⟩
  · rintro k d e hk hd ⟨hs, a, b, t, h1, h2, rfl⟩
    obtain ⟨p, rfl, hp3, hp4⟩ : ∃ p : Int, d = .int p ∧ 0 ≤ p ∧ p ≤ 4 := by
      have := List.mem_of_mem_take (hr2 d (List.mem_of_getElem? hd))
      obtain ⟨p, hp, rfl⟩ := List.mem_map.mp this
      exact ⟨p, rfl, hp2 p hp⟩
    (repeat' first | walk_at "v1" | ((with_reducible refine mark_w ?_ ?_ fun _ _ _ _ _ _ => ?_); (· walk_at "sd"); (· walk_at "sd")) | ((with_reducible refine take_w ?_ ?_ fun _ _ _ _ _ _ => ?_); (· walk_at "sd"); (· walk_at "sd")))
    rename_i g _ _ _ hg0 hg1 s _ _ _ hs0 hs1 u _ _ _ _ _
    refine wo_idxL hp3 (by omega) fun d hd1 hd2 => ?_
    obtain ⟨x, rfl, hx⟩ := lettersD_mem (hl2 d hd2)
    walk_at "vc"
    refine ⟨hs ++ [(g, s * if decide (0 < u) then 1 else 0, x)], _, _, _, by simp [h1], fun h hh => ?_, by rw [List.map_append]; rfl⟩
    rcases List.mem_append.mp hh with hh | hh
    · exact h2 h hh
    · rw [List.mem_singleton] at hh
      subst hh
      refine ⟨hg0, hg1, ?_, ?_, hx⟩
      · show 0 ≤ s * if _ then _ else _
        split <;> omega
      · show s * (if _ then _ else _) < _
        split <;> omega
  · rintro e ⟨hs, a, b, t, h1, h2, rfl⟩
    walk_at "vc"
    exact q hs _ _ _ _ _ (by omega) h2
theorem clock_w {a b m : Int} {Q : D → List Sl → Prop} (hm : 0 < m) (hm2 : m ≤ 10 ^ 60) (q : ∀ (hs : List Hd) (bl mir : Bool) (a' b' : Int) x y, 1 ≤ hs.length → hs.length ≤ 5 → HandsOk m hs → Q (clockD m hs bl mir) [.own false [.int a', .int b'], x, y]) :
    WG g__law_clock [.own false [.int a, .int b], .val (.int m), .val (.int 5)] Q := by
  refine wg_run rfl ?_
  unfold b__law_clock
  (repeat' first | walk_at "v1" | ((with_reducible refine take_w ?_ ?_ fun _ _ _ _ _ _ => ?_); (· walk_at "sd"); (· walk_at "sd")))
  rename_i u _ _ _ _ _ r a1 b1 _ hr0 hr1
  obtain ⟨n, rfl⟩ := Int.eq_ofNat_of_zero_le hr0
  have e : (1 : Int) + (n : Int) = ((1 + n : Nat) : Int) := by omega
  rw [e]
  refine hands_w (c := 1 + n) hm hm2 (by omega) fun hs _ _ _ _ _ h1 h2 => ?_
  (repeat' first | walk_at "v1" | ((with_reducible refine take_w ?_ ?_ fun _ _ _ _ _ _ => ?_); (· walk_at "sd"); (· walk_at "sd")))
  exact q hs _ _ _ _ _ _ (by omega) (by omega) h2

theorem dial2_w {a b : Int} {Q : D → List Sl → Prop} (q : ∀ r a' b' : Int, 1 < r → r ≤ 10 ^ 60 → Q (.int r) [.own false [.int a', .int b']]) :
    WG g__law_dial [.own false [.int a, .int b]] Q := by
  refine wg_run rfl ?_
  unfold b__law_dial
  (repeat' first | walk_at "v1" | ((with_reducible refine take_w ?_ ?_ fun _ _ _ _ _ _ => ?_); (· walk_at "sd"); (· walk_at "sd")) | ((with_reducible refine wide_w ?_ fun _ _ _ _ _ _ => ?_); (· walk_at "sd")))
  · exact q _ _ _ (by omega) (by omega)
  · refine pick_w (xs := [720, 5040, 1716, 1155, 46189, 97]) (lo := 2) (hi := 46189) (by omega) (by simp; omega) rfl (by decide) fun x h1 h2 _ => ?_
    walk_at "vc"
    exact q _ _ _ (by omega) (by omega)
  · rename_i r _ _ _ h1 h2
    obtain ⟨n, rfl⟩ := Int.eq_ofNat_of_zero_le h1
    refine power_w (b := 2) (n := 1 + n) (by decide) (by omega) fun x y => ?_
    walk_at "vc"
    have : (2 : Nat) ^ (1 + n) ≤ 2 ^ 199 := Nat.pow_le_pow_right (by decide) (by omega)
    have h3 : (2 : Nat) ^ 1 ≤ 2 ^ (1 + n) := Nat.pow_le_pow_right (by decide) (by omega)
    have h4 : (2 : Nat) ^ 199 ≤ 10 ^ 60 := by decide
    exact q _ _ _ (by omega) (by omega)
  · rename_i r _ _ _ h1 h2
    obtain ⟨n, rfl⟩ := Int.eq_ofNat_of_zero_le h1
    refine power_w (b := 10) (n := 1 + n) (by decide) (by omega) fun x y => ?_
    walk_at "vc"
    have : (10 : Nat) ^ (1 + n) ≤ 10 ^ 60 := Nat.pow_le_pow_right (by decide) (by omega)
    have h3 : (10 : Nat) ^ 1 ≤ 10 ^ (1 + n) := Nat.pow_le_pow_right (by decide) (by omega)
    exact q _ _ _ (by omega) (by omega)
  · refine pick_w (xs := [12, 30, 2310, 1]) (lo := 1) (hi := 2310) (by omega) (by simp; omega) rfl (by decide) fun x h1 h2 _ => ?_
    (repeat' first | walk_at "v1" | ((with_reducible refine take_w ?_ ?_ fun _ _ _ _ _ _ => ?_); (· walk_at "sd"); (· walk_at "sd")) | ((with_reducible refine wide_w ?_ fun _ _ _ _ _ _ => ?_); (· walk_at "sd")))
    rename_i r _ _ _ h3 h4
    have : 1 * (2 + r) ≤ x * (2 + r) := Int.mul_le_mul_of_nonneg_right h1 (by omega)
    have : x * (2 + r) ≤ 2310 * (2 + r) := Int.mul_le_mul_of_nonneg_right h2 (by omega)
    exact q _ _ _ (by omega) (by omega)

theorem perm_eraseIdx {α : Type} : ∀ {l : List α} {i : Nat} (h : i < l.length), (l[i] :: l.eraseIdx i).Perm l
  | _ :: _, 0, _ => List.Perm.refl _
  | a :: l, i + 1, h => (List.Perm.swap _ _ _).trans ((perm_eraseIdx (l := l) (by simpa using h)).cons a)
theorem some2_w {a b : Int} {menu : List D} {n : Nat} {Q : D → List Sl → Prop} (hn : n ≤ menu.length) (hl : menu.length ≤ 1000) (q : ∀ (rs : List D) (a' b' : Int) x y, rs.length = n → (∃ rest : List D, (rs ++ rest).Perm menu) → Q (.list rs) [.own false [.int a', .int b'], x, y]) :
    WG g__law_some [.own false [.int a, .int b], .val (.list menu), .val (.int n)] Q := by
  refine wg_run rfl ?_
  unfold b__law_some
  walk_at "vc"
  refine wl_comp (fun ds rs acc e' e => ∃ (rest : List D) (a b : Int), acc.length + rs.length = n ∧ rest.length + acc.length = menu.length ∧ (acc ++ rest).Perm menu ∧ e' = [.own false [.int a, .int b], .val (.list menu), .val (.int n), .own true rest, .no]) ?_
  walk_at "vc"
  refine ⟨rfl, fits_of (by rw [irange_length]; omega), ⟨menu, a, b, by rw [irange_length]; simp, by simp, List.Perm.refl _, rfl⟩, ?_, ?_⟩
  · rintro d rs acc e' ⟨rest, a, b, h1, h2, h3, rfl⟩
    rw [List.length_cons] at h1
    (repeat' first | walk_at "v1" | ((with_reducible refine take_w ?_ ?_ fun _ _ _ _ _ _ => ?_); (· walk_at "sd"); (· walk_at "sd")))
    rename_i r _ _ _ hr0 hr1
    refine wo_popAt hr0 (by omega) (by omega) fun d hd hm => ?_
    walk_at "vc"
    refine ⟨rest.eraseIdx r.toNat, _, _, by simp; omega, ?_, ?_, rfl⟩
    · rw [List.length_eraseIdx_of_lt (by omega)]
      simp
      omega
    · refine List.Perm.trans ?_ h3
      rw [List.append_assoc]
      refine List.Perm.append_left _ ?_
      obtain ⟨hlt, e⟩ := List.getElem?_eq_some_iff.mp hd
      rw [← e]
      exact perm_eraseIdx hlt
  · rintro acc e' ⟨rest, a, b, h1, h2, h3, rfl⟩
    walk_at "nb"
    exact q acc _ _ _ _ (by simpa using h1) ⟨rest, h3⟩

end Lw

namespace Lw
open PySem PySem.Spec PyProof.Rows L2 M
local macro_rules | `(tactic| walk_at "sd") => `(tactic| (first | (with_reducible assumption) | omega | (simp; done) | (simp; omega) | decide))
local macro_rules | `(tactic| walk_at "v1") => `(tactic| (first | ((with_reducible show WE _ _ _); first | with_reducible refine we_callN ?_ | with_reducible refine we_c ?_ | with_reducible refine we_un ?_ | with_reducible refine we_bin ?_ | with_reducible refine we_chain ?_ | with_reducible refine we_and ?_ | with_reducible refine we_or ?_ | with_reducible refine we_not ?_ | with_reducible refine we_if ?_ | with_reducible refine we_fz ?_ | with_reducible refine we_tup ?_ | with_reducible refine we_sl ?_ | with_reducible refine we_tupRg ?_ | with_reducible refine we_bor ?_ | with_reducible refine we_call ?_ | with_reducible refine we_din ?_ | with_reducible refine we_borL ?_ | ((with_reducible apply we_v); (· rfl)) | ((with_reducible show WE (eO _) _ _); first | ((with_reducible apply we_oV); (· rfl)) | ((with_reducible apply we_oW); (· rfl)) | ((with_reducible apply we_oR); (· rfl))) | ((with_reducible show WE (eBinV _ _ _) _ _); first | ((with_reducible apply we_bV); (· rfl)) | ((with_reducible apply we_bVr); (· rfl)) | ((with_reducible apply we_bVv); (· rfl))) | ((with_reducible apply we_mut); (· rfl)) | ((with_reducible apply we_mut0); (· rfl)) | ((with_reducible apply we_dget2); (· rfl)) | ((with_reducible apply we_didx); (· rfl))) | ((with_reducible show WO _ _); first | ((with_reducible show WO (gIsO _ _) _); first | with_reducible refine wo_isON ?_ | ((with_reducible refine wo_isO (b := true) ?_ ?_); (· rfl)) | ((with_reducible refine wo_isO (b := false) ?_ ?_); (· rfl))) | with_reducible refine wo_attr ?_ | ((with_reducible show WO (valsA _) _); first | with_reducible refine vals_nil ?_ | with_reducible refine vals_v ?_) | with_reducible refine wo_isB ?_ | with_reducible refine wo_ntB ?_ | ((with_reducible show WO (backAr _ _ _) _); first | with_reducible refine back_nil ?_ | with_reducible refine back_v ?_ | with_reducible refine back_o ?_ | ((with_reducible apply back_r); (· rfl))) | ((with_reducible show WO (resArs _ _) _); first | with_reducible refine res_nil ?_ | with_reducible refine res_v ?_ | ((with_reducible apply res_r); (· rfl)) | ((with_reducible apply res_oO); (· rfl)) | ((with_reducible apply res_oR); (· rfl)) | ((with_reducible apply res_oV); (· rfl))) | ((with_reducible show WO (gAdd _ _) _); first | with_reducible refine wo_add ?_ | ((with_reducible refine wo_addL ?_ ?_); (· first | rfl | (apply fits_of; first | omega | (simp; omega)))) | ((with_reducible refine wo_addT ?_ ?_); (· first | rfl | (apply fits_of; first | omega | (simp; omega))))) | with_reducible refine wo_sub ?_ | with_reducible refine wo_neg ?_ | with_reducible refine wo_lt ?_ | with_reducible refine wo_le ?_ | with_reducible refine wo_gt ?_ | with_reducible refine wo_ge ?_ | ((with_reducible show WO (gEq _ _) _); first | with_reducible refine wo_eq ?_ | with_reducible refine wo_eqB ?_ | ((with_reducible refine wo_eqT ?_ ?_); (· decide +kernel)) | ((with_reducible refine wo_eqF ?_ ?_); (· decide +kernel))) | ((with_reducible show WO (gNe _ _) _); first | with_reducible refine wo_ne ?_ | with_reducible refine wo_neB ?_ | ((with_reducible refine wo_neT ?_ ?_); (· decide +kernel)) | ((with_reducible refine wo_neF ?_ ?_); (· decide +kernel))) | with_reducible refine wo_isN ?_ | with_reducible refine wo_ntN ?_ | ((with_reducible show WO (gLen _) _); first | with_reducible refine wo_lenL ?_ | with_reducible refine wo_lenT ?_) | with_reducible refine wo_abs ?_ | ((with_reducible show WO (gInt _) _); first | with_reducible refine wo_intB ?_ | with_reducible refine wo_intI ?_) | ((with_reducible show WO (gList _) _); first | with_reducible refine wo_listL ?_ | with_reducible refine wo_listT ?_) | ((with_reducible show WO (gTuple _) _); first | with_reducible refine wo_tupL ?_ | with_reducible refine wo_tupT ?_) | with_reducible refine wo_max ?_ | with_reducible refine wo_min ?_ | ((with_reducible show WO (gIsi _ _) _); first | with_reducible refine wo_isiI ?_ | with_reducible refine wo_isiB ?_ | ((with_reducible apply wo_isiE); (· rfl))) | ((with_reducible show WO (cutOf _ _ _) _); first | with_reducible refine wo_cutL ?_ | with_reducible refine wo_cutT ?_) | ((with_reducible show WO (gPow _ _) _); first | with_reducible refine wo_p10_60 ?_ | with_reducible refine wo_p10_18 ?_ | with_reducible refine wo_p10_30 ?_ | with_reducible refine wo_p2_24 ?_ | with_reducible refine wo_p10_8 ?_ | with_reducible refine wo_p10_19 ?_ | with_reducible refine wo_p10_55 ?_ | with_reducible refine wo_p10_59 ?_ | with_reducible refine wo_p3_30 ?_ | with_reducible refine wo_p2_40 ?_ | with_reducible refine wo_p10_54 ?_ | with_reducible refine wo_p3_13 ?_ | with_reducible refine wo_p2_20 ?_ | with_reducible refine wo_p10_57 ?_ | with_reducible refine wo_p10_40 ?_ | with_reducible refine wo_p10_61 ?_ | with_reducible refine wo_p10_50 ?_) | ((with_reducible apply wo_idxE); (· rfl)) | ((with_reducible apply wo_allE); (· rfl)) | ((with_reducible apply wo_anyE); (· rfl)) | ((with_reducible show WO (ixN _ _) _); first | ((with_reducible apply wo_ixE); (· rfl)) | ((with_reducible refine wo_ix ?_ ?_ ?_); (· walk_at "sd"); (· walk_at "sd"))) | ((with_reducible refine wo_mod ?_ ?_); (· walk_at "sd")) | ((with_reducible refine wo_div ?_ ?_ ?_); (· walk_at "sd"); (· walk_at "sd")) | ((with_reducible refine wo_mul ?_ ?_); (· first | exact mul_ok1 (by walk_at "sd") | exact mul_ok2 (by walk_at "sd") | exact mul_ok3 (by omega) (by omega))) | ((with_reducible refine wo_app ?_ ?_); (· first | rfl | (apply fits_of; first | omega | (simp; omega)))) | ((with_reducible refine wo_ext ?_ ?_); (· first | rfl | (apply fits_of; first | omega | (simp; omega))))) | ((with_reducible show WS _ _ _); first | with_reducible refine ws_try ?_ | with_reducible refine ws_retT ?_ | with_reducible refine ws_seq ?_ | with_reducible refine ws_expr ?_ | with_reducible refine ws_ret ?_ | with_reducible refine ws_retL ?_ | with_reducible refine ws_if ?_ | with_reducible refine ws_set ?_ | with_reducible refine ws_setO ?_ | with_reducible refine ws_asg ?_ | with_reducible refine ws_par ?_ | with_reducible refine ws_nil ?_ | with_reducible refine ws_retN ?_ | with_reducible refine ws_dput ?_ | with_reducible refine ws_dnew ?_ | ((with_reducible show WS (sFrz _ _) _ _); first | ((with_reducible apply ws_frz); (· rfl)) | ((with_reducible apply ws_frzV); (· rfl))) | ((with_reducible apply ws_retO); (· rfl)) | ((with_reducible apply ws_putI); (· rfl))) | ((with_reducible apply nrm_); (· (try simp only [wipeE, backE, List.set_cons_zero, List.set_cons_succ, List.getElem?_cons_zero, List.getElem?_cons_succ, List.cons_append, List.nil_append, List.replicate_succ, List.replicate_zero, Nat.reduceSub, unowns_nil, unowns_cons, unown_own, unown_val, unown_no, unown_ro, unown_dct]); rfl)) | ((with_reducible show IfB _ _ _); first | with_reducible refine ifb_not ?_ | with_reducible refine ifb_t ?_ | with_reducible refine ifb_f ?_ | ((with_reducible refine ifb_decT ?_ ?_); (· first | (with_reducible assumption) | omega | (simp only [List.length_cons, List.length_nil]; omega))) | ((with_reducible refine ifb_decF ?_ ?_); (· first | (with_reducible assumption) | omega | (simp only [List.length_cons, List.length_nil]; omega))) | with_reducible refine ifb_dec (fun _ => ?_) (fun _ => ?_) | ((with_reducible apply ifb_eT); (· rfl)) | ((with_reducible apply ifb_eF); (· rfl))) | ((with_reducible show WB _ _ _); first | with_reducible refine wb_bor ?_ | with_reducible refine wb_v ?_ | with_reducible refine wb_and ?_ | with_reducible refine wb_or ?_ | with_reducible refine wb_not ?_ | with_reducible refine wb_yes ?_) | with_reducible refine isb ?_ | ((with_reducible show WL _ _ _); first | with_reducible refine wl_nil ?_ | with_reducible refine wl_cons ?_ | with_reducible refine wl_lst ?_ | with_reducible refine wl_un ?_ | with_reducible refine wl_it ?_ | with_reducible refine wl_rng1 ?_ | with_reducible refine wl_rng2 ?_ | with_reducible refine wl_enum ?_ | with_reducible refine wl_enumA ?_ | with_reducible refine wl_addE ?_ | with_reducible refine wl_rg1 ?_ | with_reducible refine wl_bor ?_ | with_reducible refine wl_call ?_ | ((with_reducible apply wl_addO); (· rfl)) | ((with_reducible show WL (lSlV _ _ _) _ _); first | ((with_reducible apply wl_slO); (· rfl)) | ((with_reducible apply wl_slR); (· rfl)))) | ((with_reducible show WA _ _ _); first | with_reducible refine wa_nil ?_ | with_reducible refine wa_v ?_ | ((with_reducible apply wa_r); (· rfl)) | ((with_reducible show WA (aO _ _) _ _); first | ((with_reducible apply wa_oR); (· rfl)) | ((with_reducible apply wa_oO); (· rfl)) | ((with_reducible apply wa_oV); (· rfl)))) | ((with_reducible show IsS _ _); first | with_reducible refine iss_l ?_ | with_reducible refine iss_t ?_) | ((with_reducible refine fit_ ?_ ?_); (· first | rfl | (apply fits_of; first | omega | (simp; omega)))) | ((with_reducible show CallG _ _ _ _); first | ((with_reducible apply cg0); (· rfl)) | ((with_reducible apply cg1); (· rfl); (· rfl))) | ((with_reducible show WT _ _ _ _); first | with_reducible refine wt_n ?_ | ((with_reducible apply wt_t); (· rfl)) | ((with_reducible apply wt_unl); (· rfl))) | ((with_reducible show WTs _ _ _ _); first | with_reducible refine wts_nil ?_ | with_reducible refine wts_cons ?_) | ((with_reducible apply own_); (· rfl)) | ((with_reducible refine sml_ ?_ ?_ ?_); (· walk_at "sd"); (· walk_at "sd")) | with_reducible refine isi_ ?_ | ((with_reducible show WSX _ _ _); first | with_reducible refine wsx_lift ?_ | with_reducible refine wsx_seq ?_ | with_reducible refine wsx_if ?_ | with_reducible refine wsx_raise0 ?_ | with_reducible refine wsx_expr ?_ | with_reducible refine wsx_ret ?_ | with_reducible refine wsx_set ?_) | with_reducible refine wex_call ?_ | ((with_reducible show WPu _ _ _ _); first | with_reducible refine wpu_nil ?_ | with_reducible refine wpu_seq ?_ | with_reducible refine wpu_ret ?_ | with_reducible refine wpu_if ?_) | ((with_reducible show WTd _ _ _ _ _); first | with_reducible refine wtd_P ?_ | with_reducible refine wtd_G ?_ | with_reducible refine wtd_If ?_ | ((with_reducible refine wtd_K ?_ ?_); (· exact ⟨rfl, by decide⟩)) | ((with_reducible refine wtd_U ?_ ?_); (· exact ⟨rfl, by decide⟩)) | ((with_reducible refine wtd_C ?_ ?_); (· rfl)) | ((with_reducible refine wtd_A ?_ ?_ ?_); (· rfl); (· first | rfl | (apply fits_of; first | omega | (simp; omega))))) | with_reducible refine two_ ?_ | ((with_reducible show WC _ _ _ _ _ _ _); first | with_reducible refine wc_nil ?_ | with_reducible refine wc_cons ?_) | ((with_reducible show WP _ _ _); first | with_reducible refine wp_no ?_ | with_reducible refine wp_e ?_) | with_reducible refine isl ?_ | ((with_reducible show RetT _ _ _); first | ((with_reducible apply retT1); (· rfl)) | ((with_reducible apply retT2); (· rfl))) | ((with_reducible show Any _ _); first | ((with_reducible apply any_o); (· rfl)) | ((with_reducible apply any_r); (· rfl))) | ((with_reducible show CallH _ _ _ _); first | ((with_reducible apply ch0); (· rfl)) | ((with_reducible apply ch1); (· rfl); (· rfl))) | ((with_reducible apply cgx0); (· rfl))))
local macro_rules | `(tactic| walk_at "v2") => `(tactic| (first | ((with_reducible show WE _ _ _); first | with_reducible refine we_callN ?_ | with_reducible refine we_c ?_ | with_reducible refine we_un ?_ | with_reducible refine we_bin ?_ | with_reducible refine we_chain ?_ | with_reducible refine we_and ?_ | with_reducible refine we_or ?_ | with_reducible refine we_not ?_ | with_reducible refine we_if ?_ | with_reducible refine we_fz ?_ | with_reducible refine we_tup ?_ | with_reducible refine we_sl ?_ | with_reducible refine we_tupRg ?_ | with_reducible refine we_bor ?_ | with_reducible refine we_call ?_ | with_reducible refine we_din ?_ | with_reducible refine we_borL ?_ | ((with_reducible apply we_v); (· rfl)) | ((with_reducible show WE (eO _) _ _); first | ((with_reducible apply we_oV); (· rfl)) | ((with_reducible apply we_oW); (· rfl)) | ((with_reducible apply we_oR); (· rfl))) | ((with_reducible show WE (eBinV _ _ _) _ _); first | ((with_reducible apply we_bV); (· rfl)) | ((with_reducible apply we_bVr); (· rfl)) | ((with_reducible apply we_bVv); (· rfl))) | ((with_reducible apply we_mut); (· rfl)) | ((with_reducible apply we_mut0); (· rfl)) | ((with_reducible apply we_dget2); (· rfl)) | ((with_reducible apply we_didx); (· rfl))) | ((with_reducible show WO _ _); first | ((with_reducible show WO (gIsO _ _) _); first | with_reducible refine wo_isON ?_ | ((with_reducible refine wo_isO (b := true) ?_ ?_); (· rfl)) | ((with_reducible refine wo_isO (b := false) ?_ ?_); (· rfl))) | with_reducible refine wo_attr ?_ | ((with_reducible show WO (valsA _) _); first | with_reducible refine vals_nil ?_ | with_reducible refine vals_v ?_) | with_reducible refine wo_isB ?_ | with_reducible refine wo_ntB ?_ | ((with_reducible show WO (backAr _ _ _) _); first | with_reducible refine back_nil ?_ | with_reducible refine back_v ?_ | with_reducible refine back_o ?_ | ((with_reducible apply back_r); (· rfl))) | ((with_reducible show WO (resArs _ _) _); first | with_reducible refine res_nil ?_ | with_reducible refine res_v ?_ | ((with_reducible apply res_r); (· rfl)) | ((with_reducible apply res_oO); (· rfl)) | ((with_reducible apply res_oR); (· rfl)) | ((with_reducible apply res_oV); (· rfl))) | ((with_reducible show WO (gAdd _ _) _); first | with_reducible refine wo_add ?_ | ((with_reducible refine wo_addL ?_ ?_); (· first | rfl | (apply fits_of; first | omega | (simp; omega)))) | ((with_reducible refine wo_addT ?_ ?_); (· first | rfl | (apply fits_of; first | omega | (simp; omega))))) | with_reducible refine wo_sub ?_ | with_reducible refine wo_neg ?_ | with_reducible refine wo_lt ?_ | with_reducible refine wo_le ?_ | with_reducible refine wo_gt ?_ | with_reducible refine wo_ge ?_ | ((with_reducible show WO (gEq _ _) _); first | with_reducible refine wo_eq ?_ | with_reducible refine wo_eqB ?_ | ((with_reducible refine wo_eqT ?_ ?_); (· decide +kernel)) | ((with_reducible refine wo_eqF ?_ ?_); (· decide +kernel))) | ((with_reducible show WO (gNe _ _) _); first | with_reducible refine wo_ne ?_ | with_reducible refine wo_neB ?_ | ((with_reducible refine wo_neT ?_ ?_); (· decide +kernel)) | ((with_reducible refine wo_neF ?_ ?_); (· decide +kernel))) | with_reducible refine wo_isN ?_ | with_reducible refine wo_ntN ?_ | ((with_reducible show WO (gLen _) _); first | with_reducible refine wo_lenL ?_ | with_reducible refine wo_lenT ?_) | with_reducible refine wo_abs ?_ | ((with_reducible show WO (gInt _) _); first | with_reducible refine wo_intB ?_ | with_reducible refine wo_intI ?_) | ((with_reducible show WO (gList _) _); first | with_reducible refine wo_listL ?_ | with_reducible refine wo_listT ?_) | ((with_reducible show WO (gTuple _) _); first | with_reducible refine wo_tupL ?_ | with_reducible refine wo_tupT ?_) | with_reducible refine wo_max ?_ | with_reducible refine wo_min ?_ | ((with_reducible show WO (gIsi _ _) _); first | with_reducible refine wo_isiI ?_ | with_reducible refine wo_isiB ?_ | ((with_reducible apply wo_isiE); (· rfl))) | ((with_reducible show WO (cutOf _ _ _) _); first | with_reducible refine wo_cutL ?_ | with_reducible refine wo_cutT ?_) | ((with_reducible show WO (gPow _ _) _); first | with_reducible refine wo_p10_60 ?_ | with_reducible refine wo_p10_18 ?_ | with_reducible refine wo_p10_30 ?_ | with_reducible refine wo_p2_24 ?_ | with_reducible refine wo_p10_8 ?_ | with_reducible refine wo_p10_19 ?_ | with_reducible refine wo_p10_55 ?_ | with_reducible refine wo_p10_59 ?_ | with_reducible refine wo_p3_30 ?_ | with_reducible refine wo_p2_40 ?_ | with_reducible refine wo_p10_54 ?_ | with_reducible refine wo_p3_13 ?_ | with_reducible refine wo_p2_20 ?_ | with_reducible refine wo_p10_57 ?_ | with_reducible refine wo_p10_40 ?_ | with_reducible refine wo_p10_61 ?_ | with_reducible refine wo_p10_50 ?_) | ((with_reducible apply wo_idxE); (· rfl)) | ((with_reducible apply wo_allE); (· rfl)) | ((with_reducible apply wo_anyE); (· rfl)) | ((with_reducible show WO (ixN _ _) _); first | ((with_reducible apply wo_ixE); (· rfl)) | ((with_reducible refine wo_ix ?_ ?_ ?_); (· walk_at "sd"); (· walk_at "sd"))) | ((with_reducible refine wo_mod ?_ ?_); (· walk_at "sd")) | ((with_reducible refine wo_div ?_ ?_ ?_); (· walk_at "sd"); (· walk_at "sd")) | ((with_reducible refine wo_mul ?_ ?_); (· first | exact mul_ok1 (by walk_at "sd") | exact mul_ok2 (by walk_at "sd") | exact mul_ok3 (by omega) (by omega))) | ((with_reducible refine wo_app ?_ ?_); (· first | rfl | (apply fits_of; first | omega | (simp; omega)))) | ((with_reducible refine wo_ext ?_ ?_); (· first | rfl | (apply fits_of; first | omega | (simp; omega))))) | ((with_reducible show WS _ _ _); first | with_reducible refine ws_try ?_ | with_reducible refine ws_retT ?_ | with_reducible refine ws_seq ?_ | with_reducible refine ws_expr ?_ | with_reducible refine ws_ret ?_ | with_reducible refine ws_retL ?_ | with_reducible refine ws_set ?_ | with_reducible refine ws_setO ?_ | with_reducible refine ws_asg ?_ | with_reducible refine ws_par ?_ | with_reducible refine ws_nil ?_ | with_reducible refine ws_retN ?_ | with_reducible refine ws_dput ?_ | with_reducible refine ws_dnew ?_ | ((with_reducible show WS (sFrz _ _) _ _); first | ((with_reducible apply ws_frz); (· rfl)) | ((with_reducible apply ws_frzV); (· rfl))) | ((with_reducible apply ws_retO); (· rfl)) | ((with_reducible apply ws_putI); (· rfl))) | ((with_reducible apply nrm_); (· (try simp only [wipeE, backE, List.set_cons_zero, List.set_cons_succ, List.getElem?_cons_zero, List.getElem?_cons_succ, List.cons_append, List.nil_append, List.replicate_succ, List.replicate_zero, Nat.reduceSub, unowns_nil, unowns_cons, unown_own, unown_val, unown_no, unown_ro, unown_dct]); rfl)) | ((with_reducible show IfB _ _ _); first | with_reducible refine ifb_not ?_ | with_reducible refine ifb_t ?_ | with_reducible refine ifb_f ?_ | ((with_reducible refine ifb_decT ?_ ?_); (· first | (with_reducible assumption) | omega | (simp only [List.length_cons, List.length_nil]; omega))) | ((with_reducible refine ifb_decF ?_ ?_); (· first | (with_reducible assumption) | omega | (simp only [List.length_cons, List.length_nil]; omega))) | with_reducible refine ifb_dec (fun _ => ?_) (fun _ => ?_) | ((with_reducible apply ifb_eT); (· rfl)) | ((with_reducible apply ifb_eF); (· rfl))) | ((with_reducible show WB _ _ _); first | with_reducible refine wb_bor ?_ | with_reducible refine wb_v ?_ | with_reducible refine wb_and ?_ | with_reducible refine wb_or ?_ | with_reducible refine wb_not ?_ | with_reducible refine wb_yes ?_) | with_reducible refine isb ?_ | ((with_reducible show WL _ _ _); first | with_reducible refine wl_nil ?_ | with_reducible refine wl_cons ?_ | with_reducible refine wl_lst ?_ | with_reducible refine wl_un ?_ | with_reducible refine wl_it ?_ | with_reducible refine wl_rng1 ?_ | with_reducible refine wl_rng2 ?_ | with_reducible refine wl_enum ?_ | with_reducible refine wl_enumA ?_ | with_reducible refine wl_addE ?_ | with_reducible refine wl_rg1 ?_ | with_reducible refine wl_bor ?_ | with_reducible refine wl_call ?_ | ((with_reducible apply wl_addO); (· rfl)) | ((with_reducible show WL (lSlV _ _ _) _ _); first | ((with_reducible apply wl_slO); (· rfl)) | ((with_reducible apply wl_slR); (· rfl)))) | ((with_reducible show WA _ _ _); first | with_reducible refine wa_nil ?_ | with_reducible refine wa_v ?_ | ((with_reducible apply wa_r); (· rfl)) | ((with_reducible show WA (aO _ _) _ _); first | ((with_reducible apply wa_oR); (· rfl)) | ((with_reducible apply wa_oO); (· rfl)) | ((with_reducible apply wa_oV); (· rfl)))) | ((with_reducible show IsS _ _); first | with_reducible refine iss_l ?_ | with_reducible refine iss_t ?_) | ((with_reducible refine fit_ ?_ ?_); (· first | rfl | (apply fits_of; first | omega | (simp; omega)))) | ((with_reducible show CallG _ _ _ _); first | ((with_reducible apply cg0); (· rfl)) | ((with_reducible apply cg1); (· rfl); (· rfl))) | ((with_reducible show WT _ _ _ _); first | with_reducible refine wt_n ?_ | ((with_reducible apply wt_t); (· rfl)) | ((with_reducible apply wt_unl); (· rfl))) | ((with_reducible show WTs _ _ _ _); first | with_reducible refine wts_nil ?_ | with_reducible refine wts_cons ?_) | ((with_reducible apply own_); (· rfl)) | ((with_reducible refine sml_ ?_ ?_ ?_); (· walk_at "sd"); (· walk_at "sd")) | with_reducible refine isi_ ?_ | ((with_reducible show WSX _ _ _); first | with_reducible refine wsx_lift ?_ | with_reducible refine wsx_seq ?_ | with_reducible refine wsx_if ?_ | with_reducible refine wsx_raise0 ?_ | with_reducible refine wsx_expr ?_ | with_reducible refine wsx_ret ?_ | with_reducible refine wsx_set ?_) | with_reducible refine wex_call ?_ | ((with_reducible show WPu _ _ _ _); first | with_reducible refine wpu_nil ?_ | with_reducible refine wpu_seq ?_ | with_reducible refine wpu_ret ?_ | with_reducible refine wpu_if ?_) | ((with_reducible show WTd _ _ _ _ _); first | with_reducible refine wtd_P ?_ | with_reducible refine wtd_G ?_ | with_reducible refine wtd_If ?_ | ((with_reducible refine wtd_K ?_ ?_); (· exact ⟨rfl, by decide⟩)) | ((with_reducible refine wtd_U ?_ ?_); (· exact ⟨rfl, by decide⟩)) | ((with_reducible refine wtd_C ?_ ?_); (· rfl)) | ((with_reducible refine wtd_A ?_ ?_ ?_); (· rfl); (· first | rfl | (apply fits_of; first | omega | (simp; omega))))) | with_reducible refine two_ ?_ | ((with_reducible show WC _ _ _ _ _ _ _); first | with_reducible refine wc_nil ?_ | with_reducible refine wc_cons ?_) | ((with_reducible show WP _ _ _); first | with_reducible refine wp_no ?_ | with_reducible refine wp_e ?_) | with_reducible refine isl ?_ | ((with_reducible show RetT _ _ _); first | ((with_reducible apply retT1); (· rfl)) | ((with_reducible apply retT2); (· rfl))) | ((with_reducible show Any _ _); first | ((with_reducible apply any_o); (· rfl)) | ((with_reducible apply any_r); (· rfl))) | ((with_reducible show CallH _ _ _ _); first | ((with_reducible apply ch0); (· rfl)) | ((with_reducible apply ch1); (· rfl); (· rfl))) | ((with_reducible apply cgx0); (· rfl))))
local macro_rules | `(tactic| walk_at "vc") => `(tactic| (repeat' first | ((with_reducible show WE _ _ _); first | with_reducible refine we_callN ?_ | with_reducible refine we_c ?_ | with_reducible refine we_un ?_ | with_reducible refine we_bin ?_ | with_reducible refine we_chain ?_ | with_reducible refine we_and ?_ | with_reducible refine we_or ?_ | with_reducible refine we_not ?_ | with_reducible refine we_if ?_ | with_reducible refine we_fz ?_ | with_reducible refine we_tup ?_ | with_reducible refine we_sl ?_ | with_reducible refine we_tupRg ?_ | with_reducible refine we_bor ?_ | with_reducible refine we_call ?_ | with_reducible refine we_din ?_ | with_reducible refine we_borL ?_ | ((with_reducible apply we_v); (· rfl)) | ((with_reducible show WE (eO _) _ _); first | ((with_reducible apply we_oV); (· rfl)) | ((with_reducible apply we_oW); (· rfl)) | ((with_reducible apply we_oR); (· rfl))) | ((with_reducible show WE (eBinV _ _ _) _ _); first | ((with_reducible apply we_bV); (· rfl)) | ((with_reducible apply we_bVr); (· rfl)) | ((with_reducible apply we_bVv); (· rfl))) | ((with_reducible apply we_mut); (· rfl)) | ((with_reducible apply we_mut0); (· rfl)) | ((with_reducible apply we_dget2); (· rfl)) | ((with_reducible apply we_didx); (· rfl))) | ((with_reducible show WO _ _); first | ((with_reducible show WO (gIsO _ _) _); first | with_reducible refine wo_isON ?_ | ((with_reducible refine wo_isO (b := true) ?_ ?_); (· rfl)) | ((with_reducible refine wo_isO (b := false) ?_ ?_); (· rfl))) | with_reducible refine wo_attr ?_ | ((with_reducible show WO (valsA _) _); first | with_reducible refine vals_nil ?_ | with_reducible refine vals_v ?_) | with_reducible refine wo_isB ?_ | with_reducible refine wo_ntB ?_ | ((with_reducible show WO (backAr _ _ _) _); first | with_reducible refine back_nil ?_ | with_reducible refine back_v ?_ | with_reducible refine back_o ?_ | ((with_reducible apply back_r); (· rfl))) | ((with_reducible show WO (resArs _ _) _); first | with_reducible refine res_nil ?_ | with_reducible refine res_v ?_ | ((with_reducible apply res_r); (· rfl)) | ((with_reducible apply res_oO); (· rfl)) | ((with_reducible apply res_oR); (· rfl)) | ((with_reducible apply res_oV); (· rfl))) | ((with_reducible show WO (gAdd _ _) _); first | with_reducible refine wo_add ?_ | ((with_reducible refine wo_addL ?_ ?_); (· first | rfl | (apply fits_of; first | omega | (simp; omega)))) | ((with_reducible refine wo_addT ?_ ?_); (· first | rfl | (apply fits_of; first | omega | (simp; omega))))) | with_reducible refine wo_sub ?_ | with_reducible refine wo_neg ?_ | with_reducible refine wo_lt ?_ | with_reducible refine wo_le ?_ | with_reducible refine wo_gt ?_ | with_reducible refine wo_ge ?_ | ((with_reducible show WO (gEq _ _) _); first | with_reducible refine wo_eq ?_ | with_reducible refine wo_eqB ?_ | ((with_reducible refine wo_eqT ?_ ?_); (· decide +kernel)) | ((with_reducible refine wo_eqF ?_ ?_); (· decide +kernel))) | ((with_reducible show WO (gNe _ _) _); first | with_reducible refine wo_ne ?_ | with_reducible refine wo_neB ?_ | ((with_reducible refine wo_neT ?_ ?_); (· decide +kernel)) | ((with_reducible refine wo_neF ?_ ?_); (· decide +kernel))) | with_reducible refine wo_isN ?_ | with_reducible refine wo_ntN ?_ | ((with_reducible show WO (gLen _) _); first | with_reducible refine wo_lenL ?_ | with_reducible refine wo_lenT ?_) | with_reducible refine wo_abs ?_ | ((with_reducible show WO (gInt _) _); first | with_reducible refine wo_intB ?_ | with_reducible refine wo_intI ?_) | ((with_reducible show WO (gList _) _); first | with_reducible refine wo_listL ?_ | with_reducible refine wo_listT ?_) | ((with_reducible show WO (gTuple _) _); first | with_reducible refine wo_tupL ?_ | with_reducible refine wo_tupT ?_) | with_reducible refine wo_max ?_ | with_reducible refine wo_min ?_ | ((with_reducible show WO (gIsi _ _) _); first | with_reducible refine wo_isiI ?_ | with_reducible refine wo_isiB ?_ | ((with_reducible apply wo_isiE); (· rfl))) | ((with_reducible show WO (cutOf _ _ _) _); first | with_reducible refine wo_cutL ?_ | with_reducible refine wo_cutT ?_) | ((with_reducible show WO (gPow _ _) _); first | with_reducible refine wo_p10_60 ?_ | with_reducible refine wo_p10_18 ?_ | with_reducible refine wo_p10_30 ?_ | with_reducible refine wo_p2_24 ?_ | with_reducible refine wo_p10_8 ?_ | with_reducible refine wo_p10_19 ?_ | with_reducible refine wo_p10_55 ?_ | with_reducible refine wo_p10_59 ?_ | with_reducible refine wo_p3_30 ?_ | with_reducible refine wo_p2_40 ?_ | with_reducible refine wo_p10_54 ?_ | with_reducible refine wo_p3_13 ?_ | with_reducible refine wo_p2_20 ?_ | with_reducible refine wo_p10_57 ?_ | with_reducible refine wo_p10_40 ?_ | with_reducible refine wo_p10_61 ?_ | with_reducible refine wo_p10_50 ?_) | ((with_reducible apply wo_idxE); (· rfl)) | ((with_reducible apply wo_allE); (· rfl)) | ((with_reducible apply wo_anyE); (· rfl)) | ((with_reducible show WO (ixN _ _) _); first | ((with_reducible apply wo_ixE); (· rfl)) | ((with_reducible refine wo_ix ?_ ?_ ?_); (· walk_at "sd"); (· walk_at "sd"))) | ((with_reducible refine wo_mod ?_ ?_); (· walk_at "sd")) | ((with_reducible refine wo_div ?_ ?_ ?_); (· walk_at "sd"); (· walk_at "sd")) | ((with_reducible refine wo_mul ?_ ?_); (· first | exact mul_ok1 (by walk_at "sd") | exact mul_ok2 (by walk_at "sd") | exact mul_ok3 (by omega) (by omega))) | ((with_reducible refine wo_app ?_ ?_); (· first | rfl | (apply fits_of; first | omega | (simp; omega)))) | ((with_reducible refine wo_ext ?_ ?_); (· first | rfl | (apply fits_of; first | omega | (simp; omega))))) | ((with_reducible show WS _ _ _); first | with_reducible refine ws_try ?_ | with_reducible refine ws_retT ?_ | with_reducible refine ws_seq ?_ | with_reducible refine ws_expr ?_ | with_reducible refine ws_ret ?_ | with_reducible refine ws_retL ?_ | with_reducible refine ws_if ?_ | with_reducible refine ws_set ?_ | with_reducible refine ws_setO ?_ | with_reducible refine ws_asg ?_ | with_reducible refine ws_par ?_ | with_reducible refine ws_nil ?_ | with_reducible refine ws_retN ?_ | with_reducible refine ws_dput ?_ | with_reducible refine ws_dnew ?_ | ((with_reducible show WS (sFrz _ _) _ _); first | ((with_reducible apply ws_frz); (· rfl)) | ((with_reducible apply ws_frzV); (· rfl))) | ((with_reducible apply ws_retO); (· rfl)) | ((with_reducible apply ws_putI); (· rfl))) | ((with_reducible apply nrm_); (· (try simp only [wipeE, backE, List.set_cons_zero, List.set_cons_succ, List.getElem?_cons_zero, List.getElem?_cons_succ, List.cons_append, List.nil_append, List.replicate_succ, List.replicate_zero, Nat.reduceSub, unowns_nil, unowns_cons, unown_own, unown_val, unown_no, unown_ro, unown_dct]); rfl)) | ((with_reducible show IfB _ _ _); first | with_reducible refine ifb_not ?_ | with_reducible refine ifb_t ?_ | with_reducible refine ifb_f ?_ | ((with_reducible refine ifb_decT ?_ ?_); (· first | (with_reducible assumption) | omega | (simp only [List.length_cons, List.length_nil]; omega))) | ((with_reducible refine ifb_decF ?_ ?_); (· first | (with_reducible assumption) | omega | (simp only [List.length_cons, List.length_nil]; omega))) | with_reducible refine ifb_dec (fun _ => ?_) (fun _ => ?_) | ((with_reducible apply ifb_eT); (· rfl)) | ((with_reducible apply ifb_eF); (· rfl))) | ((with_reducible show WB _ _ _); first | with_reducible refine wb_bor ?_ | with_reducible refine wb_v ?_ | with_reducible refine wb_and ?_ | with_reducible refine wb_or ?_ | with_reducible refine wb_not ?_ | with_reducible refine wb_yes ?_) | with_reducible refine isb ?_ | ((with_reducible show WL _ _ _); first | with_reducible refine wl_nil ?_ | with_reducible refine wl_cons ?_ | with_reducible refine wl_lst ?_ | with_reducible refine wl_un ?_ | with_reducible refine wl_it ?_ | with_reducible refine wl_rng1 ?_ | with_reducible refine wl_rng2 ?_ | with_reducible refine wl_enum ?_ | with_reducible refine wl_enumA ?_ | with_reducible refine wl_addE ?_ | with_reducible refine wl_rg1 ?_ | with_reducible refine wl_bor ?_ | with_reducible refine wl_call ?_ | ((with_reducible apply wl_addO); (· rfl)) | ((with_reducible show WL (lSlV _ _ _) _ _); first | ((with_reducible apply wl_slO); (· rfl)) | ((with_reducible apply wl_slR); (· rfl)))) | ((with_reducible show WA _ _ _); first | with_reducible refine wa_nil ?_ | with_reducible refine wa_v ?_ | ((with_reducible apply wa_r); (· rfl)) | ((with_reducible show WA (aO _ _) _ _); first | ((with_reducible apply wa_oR); (· rfl)) | ((with_reducible apply wa_oO); (· rfl)) | ((with_reducible apply wa_oV); (· rfl)))) | ((with_reducible show IsS _ _); first | with_reducible refine iss_l ?_ | with_reducible refine iss_t ?_) | ((with_reducible refine fit_ ?_ ?_); (· first | rfl | (apply fits_of; first | omega | (simp; omega)))) | ((with_reducible show CallG _ _ _ _); first | ((with_reducible apply cg0); (· rfl)) | ((with_reducible apply cg1); (· rfl); (· rfl))) | ((with_reducible show WT _ _ _ _); first | with_reducible refine wt_n ?_ | ((with_reducible apply wt_t); (· rfl)) | ((with_reducible apply wt_unl); (· rfl))) | ((with_reducible show WTs _ _ _ _); first | with_reducible refine wts_nil ?_ | with_reducible refine wts_cons ?_) | ((with_reducible apply own_); (· rfl)) | ((with_reducible refine sml_ ?_ ?_ ?_); (· walk_at "sd"); (· walk_at "sd")) | with_reducible refine isi_ ?_ | ((with_reducible show WSX _ _ _); first | with_reducible refine wsx_lift ?_ | with_reducible refine wsx_seq ?_ | with_reducible refine wsx_if ?_ | with_reducible refine wsx_raise0 ?_ | with_reducible refine wsx_expr ?_ | with_reducible refine wsx_ret ?_ | with_reducible refine wsx_set ?_) | with_reducible refine wex_call ?_ | ((with_reducible show WPu _ _ _ _); first | with_reducible refine wpu_nil ?_ | with_reducible refine wpu_seq ?_ | with_reducible refine wpu_ret ?_ | with_reducible refine wpu_if ?_) | ((with_reducible show WTd _ _ _ _ _); first | with_reducible refine wtd_P ?_ | with_reducible refine wtd_G ?_ | with_reducible refine wtd_If ?_ | ((with_reducible refine wtd_K ?_ ?_); (· exact ⟨rfl, by decide⟩)) | ((with_reducible refine wtd_U ?_ ?_); (· exact ⟨rfl, by decide⟩)) | ((with_reducible refine wtd_C ?_ ?_); (· rfl)) | ((with_reducible refine wtd_A ?_ ?_ ?_); (· rfl); (· first | rfl | (apply fits_of; first | omega | (simp; omega))))) | with_reducible refine two_ ?_ | ((with_reducible show WC _ _ _ _ _ _ _); first | with_reducible refine wc_nil ?_ | with_reducible refine wc_cons ?_) | ((with_reducible show WP _ _ _); first | with_reducible refine wp_no ?_ | with_reducible refine wp_e ?_) | with_reducible refine isl ?_ | ((with_reducible show RetT _ _ _); first | ((with_reducible apply retT1); (· rfl)) | ((with_reducible apply retT2); (· rfl))) | ((with_reducible show Any _ _); first | ((with_reducible apply any_o); (· rfl)) | ((with_reducible apply any_r); (· rfl))) | ((with_reducible show CallH _ _ _ _); first | ((with_reducible apply ch0); (· rfl)) | ((with_reducible apply ch1); (· rfl); (· rfl))) | ((with_reducible apply cgx0); (· rfl))))
local macro_rules | `(tactic| walk_at "vd") => `(tactic| (repeat' first | ((with_reducible show WE _ _ _); first | with_reducible refine we_callN ?_ | with_reducible refine we_c ?_ | with_reducible refine we_un ?_ | with_reducible refine we_bin ?_ | with_reducible refine we_chain ?_ | with_reducible refine we_and ?_ | with_reducible refine we_or ?_ | with_reducible refine we_not ?_ | with_reducible refine we_if ?_ | with_reducible refine we_fz ?_ | with_reducible refine we_tup ?_ | with_reducible refine we_sl ?_ | with_reducible refine we_tupRg ?_ | with_reducible refine we_bor ?_ | with_reducible refine we_call ?_ | with_reducible refine we_din ?_ | with_reducible refine we_borL ?_ | ((with_reducible apply we_v); (· rfl)) | ((with_reducible show WE (eO _) _ _); first | ((with_reducible apply we_oV); (· rfl)) | ((with_reducible apply we_oW); (· rfl)) | ((with_reducible apply we_oR); (· rfl))) | ((with_reducible show WE (eBinV _ _ _) _ _); first | ((with_reducible apply we_bV); (· rfl)) | ((with_reducible apply we_bVr); (· rfl)) | ((with_reducible apply we_bVv); (· rfl))) | ((with_reducible apply we_mut); (· rfl)) | ((with_reducible apply we_mut0); (· rfl)) | ((with_reducible apply we_dget2); (· rfl)) | ((with_reducible apply we_didx); (· rfl))) | ((with_reducible show WO _ _); first | ((with_reducible show WO (gIsO _ _) _); first | with_reducible refine wo_isON ?_ | ((with_reducible refine wo_isO (b := true) ?_ ?_); (· rfl)) | ((with_reducible refine wo_isO (b := false) ?_ ?_); (· rfl))) | with_reducible refine wo_attr ?_ | ((with_reducible show WO (valsA _) _); first | with_reducible refine vals_nil ?_ | with_reducible refine vals_v ?_) | with_reducible refine wo_isB ?_ | with_reducible refine wo_ntB ?_ | ((with_reducible show WO (backAr _ _ _) _); first | with_reducible refine back_nil ?_ | with_reducible refine back_v ?_ | with_reducible refine back_o ?_ | ((with_reducible apply back_r); (· rfl))) | ((with_reducible show WO (resArs _ _) _); first | with_reducible refine res_nil ?_ | with_reducible refine res_v ?_ | ((with_reducible apply res_r); (· rfl)) | ((with_reducible apply res_oO); (· rfl)) | ((with_reducible apply res_oR); (· rfl)) | ((with_reducible apply res_oV); (· rfl))) | ((with_reducible show WO (gAdd _ _) _); first | with_reducible refine wo_add ?_ | ((with_reducible refine wo_addL ?_ ?_); (· first | rfl | (apply fits_of; first | omega | (simp; omega)))) | ((with_reducible refine wo_addT ?_ ?_); (· first | rfl | (apply fits_of; first | omega | (simp; omega))))) | with_reducible refine wo_sub ?_ | with_reducible refine wo_neg ?_ | with_reducible refine wo_lt ?_ | with_reducible refine wo_le ?_ | with_reducible refine wo_gt ?_ | with_reducible refine wo_ge ?_ | ((with_reducible show WO (gEq _ _) _); first | with_reducible refine wo_eq ?_ | with_reducible refine wo_eqB ?_ | ((with_reducible refine wo_eqT ?_ ?_); (· decide +kernel)) | ((with_reducible refine wo_eqF ?_ ?_); (· decide +kernel))) | ((with_reducible show WO (gNe _ _) _); first | with_reducible refine wo_ne ?_ | with_reducible refine wo_neB ?_ | ((with_reducible refine wo_neT ?_ ?_); (· decide +kernel)) | ((with_reducible refine wo_neF ?_ ?_); (· decide +kernel))) | with_reducible refine wo_isN ?_ | with_reducible refine wo_ntN ?_ | ((with_reducible show WO (gLen _) _); first | with_reducible refine wo_lenL ?_ | with_reducible refine wo_lenT ?_) | with_reducible refine wo_abs ?_ | ((with_reducible show WO (gInt _) _); first | with_reducible refine wo_intB ?_ | with_reducible refine wo_intI ?_) | ((with_reducible show WO (gList _) _); first | with_reducible refine wo_listL ?_ | with_reducible refine wo_listT ?_) | ((with_reducible show WO (gTuple _) _); first | with_reducible refine wo_tupL ?_ | with_reducible refine wo_tupT ?_) | with_reducible refine wo_max ?_ | with_reducible refine wo_min ?_ | ((with_reducible show WO (gIsi _ _) _); first | with_reducible refine wo_isiI ?_ | with_reducible refine wo_isiB ?_ | ((with_reducible apply wo_isiE); (· rfl))) | ((with_reducible show WO (cutOf _ _ _) _); first | with_reducible refine wo_cutL ?_ | with_reducible refine wo_cutT ?_) | ((with_reducible show WO (gPow _ _) _); first | with_reducible refine wo_p10_60 ?_ | with_reducible refine wo_p10_18 ?_ | with_reducible refine wo_p10_30 ?_ | with_reducible refine wo_p2_24 ?_ | with_reducible refine wo_p10_8 ?_ | with_reducible refine wo_p10_19 ?_ | with_reducible refine wo_p10_55 ?_ | with_reducible refine wo_p10_59 ?_ | with_reducible refine wo_p3_30 ?_ | with_reducible refine wo_p2_40 ?_ | with_reducible refine wo_p10_54 ?_ | with_reducible refine wo_p3_13 ?_ | with_reducible refine wo_p2_20 ?_ | with_reducible refine wo_p10_57 ?_ | with_reducible refine wo_p10_40 ?_ | with_reducible refine wo_p10_61 ?_ | with_reducible refine wo_p10_50 ?_) | ((with_reducible apply wo_idxE); (· rfl)) | ((with_reducible apply wo_allE); (· rfl)) | ((with_reducible apply wo_anyE); (· rfl)) | ((with_reducible show WO (ixN _ _) _); first | ((with_reducible apply wo_ixE); (· rfl)) | ((with_reducible refine wo_ix ?_ ?_ ?_); (· walk_at "sd"); (· walk_at "sd"))) | ((with_reducible refine wo_mod ?_ ?_); (· walk_at "sd")) | ((with_reducible refine wo_div ?_ ?_ ?_); (· walk_at "sd"); (· walk_at "sd")) | ((with_reducible refine wo_mul ?_ ?_); (· first | exact mul_ok1 (by walk_at "sd") | exact mul_ok2 (by walk_at "sd") | exact mul_ok3 (by omega) (by omega))) | ((with_reducible refine wo_app ?_ ?_); (· first | rfl | (apply fits_of; first | omega | (simp; omega)))) | ((with_reducible refine wo_ext ?_ ?_); (· first | rfl | (apply fits_of; first | omega | (simp; omega))))) | ((with_reducible show WS _ _ _); first | with_reducible refine ws_try ?_ | with_reducible refine ws_retT ?_ | with_reducible refine ws_seq ?_ | with_reducible refine ws_expr ?_ | with_reducible refine ws_ret ?_ | with_reducible refine ws_retL ?_ | with_reducible refine ws_set ?_ | with_reducible refine ws_setO ?_ | with_reducible refine ws_asg ?_ | with_reducible refine ws_par ?_ | with_reducible refine ws_nil ?_ | with_reducible refine ws_retN ?_ | with_reducible refine ws_dput ?_ | with_reducible refine ws_dnew ?_ | ((with_reducible show WS (sFrz _ _) _ _); first | ((with_reducible apply ws_frz); (· rfl)) | ((with_reducible apply ws_frzV); (· rfl))) | ((with_reducible apply ws_retO); (· rfl)) | ((with_reducible apply ws_putI); (· rfl))) | ((with_reducible apply nrm_); (· (try simp only [wipeE, backE, List.set_cons_zero, List.set_cons_succ, List.getElem?_cons_zero, List.getElem?_cons_succ, List.cons_append, List.nil_append, List.replicate_succ, List.replicate_zero, Nat.reduceSub, unowns_nil, unowns_cons, unown_own, unown_val, unown_no, unown_ro, unown_dct]); rfl)) | ((with_reducible show IfB _ _ _); first | with_reducible refine ifb_not ?_ | with_reducible refine ifb_t ?_ | with_reducible refine ifb_f ?_ | ((with_reducible refine ifb_decT ?_ ?_); (· first | (with_reducible assumption) | omega | (simp only [List.length_cons, List.length_nil]; omega))) | ((with_reducible refine ifb_decF ?_ ?_); (· first | (with_reducible assumption) | omega | (simp only [List.length_cons, List.length_nil]; omega))) | with_reducible refine ifb_dec (fun _ => ?_) (fun _ => ?_) | ((with_reducible apply ifb_eT); (· rfl)) | ((with_reducible apply ifb_eF); (· rfl))) | ((with_reducible show WB _ _ _); first | with_reducible refine wb_bor ?_ | with_reducible refine wb_v ?_ | with_reducible refine wb_and ?_ | with_reducible refine wb_or ?_ | with_reducible refine wb_not ?_ | with_reducible refine wb_yes ?_) | with_reducible refine isb ?_ | ((with_reducible show WL _ _ _); first | with_reducible refine wl_nil ?_ | with_reducible refine wl_cons ?_ | with_reducible refine wl_lst ?_ | with_reducible refine wl_un ?_ | with_reducible refine wl_it ?_ | with_reducible refine wl_rng1 ?_ | with_reducible refine wl_rng2 ?_ | with_reducible refine wl_enum ?_ | with_reducible refine wl_enumA ?_ | with_reducible refine wl_addE ?_ | with_reducible refine wl_rg1 ?_ | with_reducible refine wl_bor ?_ | with_reducible refine wl_call ?_ | ((with_reducible apply wl_addO); (· rfl)) | ((with_reducible show WL (lSlV _ _ _) _ _); first | ((with_reducible apply wl_slO); (· rfl)) | ((with_reducible apply wl_slR); (· rfl)))) | ((with_reducible show WA _ _ _); first | with_reducible refine wa_nil ?_ | with_reducible refine wa_v ?_ | ((with_reducible apply wa_r); (· rfl)) | ((with_reducible show WA (aO _ _) _ _); first | ((with_reducible apply wa_oR); (· rfl)) | ((with_reducible apply wa_oO); (· rfl)) | ((with_reducible apply wa_oV); (· rfl)))) | ((with_reducible show IsS _ _); first | with_reducible refine iss_l ?_ | with_reducible refine iss_t ?_) | ((with_reducible refine fit_ ?_ ?_); (· first | rfl | (apply fits_of; first | omega | (simp; omega)))) | ((with_reducible show CallG _ _ _ _); first | ((with_reducible apply cg0); (· rfl)) | ((with_reducible apply cg1); (· rfl); (· rfl))) | ((with_reducible show WT _ _ _ _); first | with_reducible refine wt_n ?_ | ((with_reducible apply wt_t); (· rfl)) | ((with_reducible apply wt_unl); (· rfl))) | ((with_reducible show WTs _ _ _ _); first | with_reducible refine wts_nil ?_ | with_reducible refine wts_cons ?_) | ((with_reducible apply own_); (· rfl)) | ((with_reducible refine sml_ ?_ ?_ ?_); (· walk_at "sd"); (· walk_at "sd")) | with_reducible refine isi_ ?_ | ((with_reducible show WSX _ _ _); first | with_reducible refine wsx_lift ?_ | with_reducible refine wsx_seq ?_ | with_reducible refine wsx_if ?_ | with_reducible refine wsx_raise0 ?_ | with_reducible refine wsx_expr ?_ | with_reducible refine wsx_ret ?_ | with_reducible refine wsx_set ?_) | with_reducible refine wex_call ?_ | ((with_reducible show WPu _ _ _ _); first | with_reducible refine wpu_nil ?_ | with_reducible refine wpu_seq ?_ | with_reducible refine wpu_ret ?_ | with_reducible refine wpu_if ?_) | ((with_reducible show WTd _ _ _ _ _); first | with_reducible refine wtd_P ?_ | with_reducible refine wtd_G ?_ | with_reducible refine wtd_If ?_ | ((with_reducible refine wtd_K ?_ ?_); (· exact ⟨rfl, by decide⟩)) | ((with_reducible refine wtd_U ?_ ?_); (· exact ⟨rfl, by decide⟩)) | ((with_reducible refine wtd_C ?_ ?_); (· rfl)) | ((with_reducible refine wtd_A ?_ ?_ ?_); (· rfl); (· first | rfl | (apply fits_of; first | omega | (simp; omega))))) | with_reducible refine two_ ?_ | ((with_reducible show WC _ _ _ _ _ _ _); first | with_reducible refine wc_nil ?_ | with_reducible refine wc_cons ?_) | ((with_reducible show WP _ _ _); first | with_reducible refine wp_no ?_ | with_reducible refine wp_e ?_) | with_reducible refine isl ?_ | ((with_reducible show RetT _ _ _); first | ((with_reducible apply retT1); (· rfl)) | ((with_reducible apply retT2); (· rfl))) | ((with_reducible show Any _ _); first | ((with_reducible apply any_o); (· rfl)) | ((with_reducible apply any_r); (· rfl))) | ((with_reducible show CallH _ _ _ _); first | ((with_reducible apply ch0); (· rfl)) | ((with_reducible apply ch1); (· rfl); (· rfl))) | ((with_reducible apply cgx0); (· rfl))))
local macro_rules | `(tactic| walk_at "nr") => `(tactic| ((with_reducible apply nrm_); (· (try simp only [wipeE, backE, List.set_cons_zero, List.set_cons_succ, List.getElem?_cons_zero, List.getElem?_cons_succ, List.cons_append, List.nil_append, List.replicate_succ, List.replicate_zero, Nat.reduceSub, unowns_nil, unowns_cons, unown_own, unown_val, unown_no, unown_ro, unown_dct]); rfl)))
local macro_rules | `(tactic| walk_at "nb") => `(tactic| simp only [wipeE, backE, List.set_cons_zero, List.set_cons_succ, List.getElem?_cons_zero, List.getElem?_cons_succ])
section
variable {m : Int} {hs : List Hd} {bl mir : Bool} {Q : D → List Sl → Prop}
theorem lclear_w {S : List Nat} (hm : 1 < m) (hm2 : m ≤ 10 ^ 60) (h1 : 1 ≤ hs.length) (hn : hs.length ≤ 5) (hk : HandsOk m hs) (hS : SetOk hs.length S) (q : ∀ x y, Q (.bool (clrB m (pN hs S) bl mir)) [x, y]) :
    WG g__law_clear [.val (clockD m hs bl mir), .val (tO S)] Q := by
  have hl := pN_len hk hn hS
  refine wg_run rfl ?_
  unfold b__law_clear
  walk_at "vc"
  refine painte_w hS hn hk fun _ _ => ?_
  walk_at "vc"
  refine whole_w hm hm2 (by omega) (by omega) (pN_hk hk hn hS) fun d _ hW => ?_
  rcases hW.two (by omega) with ⟨e, rfl, hC⟩ | ⟨a, b, c, rfl, _, hC⟩
  · walk_at "vc"
    rw [show clrB m (pN hs S) bl mir = true from clrB_iff.mpr hC] at q
    exact q _ _
  · walk_at "vc"
    rw [show clrB m (pN hs S) bl mir = false from Bool.eq_false_iff.mpr fun h => hC (clrB_iff.mp h)] at q
    exact q _ _
theorem clr_false {h : List Hd} (n : ¬ Clr m h bl mir) : clrB m h bl mir = false := Bool.eq_false_iff.mpr fun h => n (clrB_iff.mp h)
theorem clr_more {S T : List Nat} (hk : HandsOk m hs) (hn : hs.length ≤ 5) (hS : SetOk hs.length S) (hT : SetOk hs.length T) (h : ∀ i ∈ S, i ∈ T) (C : Clr m (pN hs S) bl mir) : Clr m (pN hs T) bl mir :=
  (pN_of hk hn hT.r hT.b).clr (pN_of hk hn hS.r hS.b) h C
theorem lright_w {a b : Int} (hm : 1 < m) (hm2 : m ≤ 10 ^ 60) (h1 : 1 ≤ hs.length) (hn : hs.length ≤ 5) (hk : HandsOk m hs) (q : ∀ a' b' x, Q (.bool true) [.own false [.int a', .int b'], x]) :
    WG g__law_right [.own false [.int a, .int b], .val (clockD m hs bl mir)] Q := by
  have hm0 : 0 < m := by omega
  have hR := SetOk.range hs.length
  refine wg_run rfl ?_
  unfold b__law_right
  walk_at "nr"
  refine ws_mid (fun e => ∃ d : D, PewOf m hs bl mir d ∧ e = [.own false [.int a, .int b], .val (clockD m hs bl mir), .val d, .no, .no, .no, .no, .no, .no]) ?_ ?_
  · walk_at "vc"
    refine pewest_w hm hm2 h1 hn hk fun d _ hF => ?_
    walk_at "vc"
    exact ⟨d, hF, rfl⟩
  rintro e ⟨d, hF, rfl⟩
  refine ws_mid (fun e => e = [.own false [.int a, .int b], .val (clockD m hs bl mir), .val d, .val (.int (hs.length : Int)), .no, .no, .no, .no, .no]) (by walk_at "vc"; rw [List.length_map]) ?_
  rintro _ rfl
  rcases hF with ⟨S, ds, rfl, hS, hC, hN, hD0, hD⟩ | ⟨e, rfl, hD, hN⟩
  · generalize hE : (PyData.tuple [PyData.str "paint", tO S, PyData.list ds]) = pp
    refine ws_mid (fun e => e = [.own false [.int a, .int b], .val (clockD m hs bl mir), .val pp, .val (.int (hs.length : Int)), .no, .no, .no, .no, .no]) ?_ ?_
    · rw [← hE]
      walk_at "vc"
      refine prpaint_w hm hm2 h1 hn hk hS rfl hD0 hD fun _ _ => ?_
      rw [clrB_iff.mpr hC]
      walk_at "vc"
      · rw [Int.toNat_natCast, ← tO_range]
        refine lclear_w hm hm2 h1 hn hk hR fun _ _ => ?_
        rw [clrB_iff.mpr (clr_more hk hn hS hR (fun i hi => List.mem_range.mpr (hS.b i hi)) hC)]
        walk_at "vc"
        rfl
      · exact absurd rfl (by assumption)
    rintro _ rfl
    refine ws_mid (fun e => e = [.own false [.int a, .int b], .val (clockD m hs bl mir), .val pp, .val (.int (hs.length : Int)), .no, .no, .no, .no, .no]) ?_ ?_
    · rw [← hE]
      walk_at "vc"
      rfl
    rintro _ rfl
    refine ws_mid (fun e => e = [.own false [.int a, .int b], .val (clockD m hs bl mir), .val pp, .val (.int (hs.length : Int)), .no, .no, .no, .no, .no]) ?_ ?_
    · rw [← hE]
      walk_at "vc"
      refine wo_eqNil ?_
      walk_at "vc"
      refine whole_w hm hm2 h1 hn hk fun d _ hW => ?_
      have h0 : pN hs [] = hs := rfl
      rcases hW.two hm0 with ⟨e, rfl, hC0⟩ | ⟨x, y, z, rfl, _, hC0⟩
      · have hS0 : S = [] := Classical.byContradiction fun h => hN [] ⟨.nil, fun x hx => (by cases hx)⟩ (List.length_pos_iff.mpr h) hC0
        rw [decide_eq_true hS0]
        walk_at "vc"
        rfl
      · have hS0 : S ≠ [] := fun h => hC0 (by rw [h] at hC; exact hC)
        rw [decide_eq_false hS0]
        walk_at "vc"
        rfl
    rintro _ rfl
    refine ws_mid (fun e => ∃ x4 x5 : Sl, (x4 = .no ∨ ∃ d, x4 = .val d) ∧ e = [.own false [.int a, .int b], .val (clockD m hs bl mir), .val pp, .val (.int (hs.length : Int)), x4, x5, .no, .no, .no]) ?_ ?_
    · refine ws_forN (fun _ i e => ∃ x4 x5 : Sl, (x4 = .no ∨ ∃ d, x4 = .val d) ∧ e = [.own false [.int a, .int b], .val (clockD m hs bl mir), .val pp, .val (.int (hs.length : Int)), x4, x5, .no, .no, .no]) ?_
      have hSl := hS.len
      have hlS : ∀ Q : D → Prop, Q (.int (S.length : Int)) → WO (gLen (tO S)) Q := fun Q q => by
        unfold tO
        exact wo_lenT (by rw [List.length_map]; exact q)
      rw [← hE]
      walk_at "vc"
      refine hlS _ ?_
      walk_at "vc"
      refine lsets_w hn (by omega) fun _ _ => ?_
      walk_at "vc"
      refine ⟨⟨_, _, .inl rfl, rfl⟩, ?_, ?_⟩
      · rintro i d e hi hd ⟨x4, x5, _, rfl⟩
        rw [List.length_map] at hi
        rw [List.getElem?_map, List.getElem?_eq_getElem hi] at hd
        obtain rfl := Option.some.inj hd
        obtain ⟨hT, hTl⟩ := SetOk.of (List.getElem_mem hi)
        generalize (setsN hs.length S.length)[i] = T at *
        walk_at "vc"
        refine prpaint_w (U := S) hm hm2 h1 hn hk hT hTl.symm hD0 hD fun _ _ => ?_
        walk_at "vc"
        refine lclear_w hm hm2 h1 hn hk hT fun _ _ => ?_
        walk_at "vc"
        rw [show (clrB m (pN hs T) bl mir == clrB m (pN hs T) bl mir) = true from beq_self_eq_true _]
        walk_at "vc"
        exact ⟨_, _, .inr ⟨_, rfl⟩, rfl⟩
      · rintro e ⟨x4, x5, h4, rfl⟩
        exact ⟨_, _, h4, rfl⟩
    rintro e ⟨x4, x5, h4, rfl⟩
    refine ws_mid (fun e => ∃ (a b : Int) (M : List Nat) (x4 x5 : Sl), (x4 = .no ∨ ∃ d, x4 = .val d) ∧ SetOk hs.length M ∧ (∀ i ∈ S, i ∈ M) ∧ e = [.own false [.int a, .int b], .val (clockD m hs bl mir), .val pp, .val (.int (hs.length : Int)), x4, x5, .val (.list (M.map fun (j : Nat) => PyData.int (j : Int))), .no, .no]) ?_ ?_
    · rw [← hE]
      walk_at "vc"
      refine wl_comp (fun ds' rs acc e' e => ∃ (a b : Int) (M : List Nat) (k : Nat), acc = M.map (fun (j : Nat) => PyData.int (j : Int)) ∧ k + rs.length = hs.length ∧ rs = irange (k : Int) (hs.length - k) ∧ (∀ i ∈ M, i < k) ∧ M.Pairwise (· < ·) ∧ (∀ i ∈ S, i < k → i ∈ M) ∧ e' = [.own false [.int a, .int b], .val (clockD m hs bl mir), .val (.tuple [.str "paint", tO S, .list ds]), .val (.int (hs.length : Int)), x4, x5, .no, .no, .no]) ?_
      walk_at "vc"
      rw [Int.toNat_natCast]
      refine ⟨rfl, fits_of (by rw [irange_length]; omega), ⟨a, b, [], 0, rfl, by rw [irange_length]; omega, rfl, fun i hi => (by cases hi), .nil, fun i _ h => absurd h (Nat.not_lt_zero _), rfl⟩, ?_, ?_⟩
      · rintro d rs acc e' ⟨a, b, M, k, rfl, hk1, hk2, hM, hMr, hMS, rfl⟩
        rw [List.length_cons] at hk1
        obtain ⟨rfl, hrs⟩ := irange_cons hk2
        have hrs2 : rs = irange ((k + 1 : Nat) : Int) (hs.length - (k + 1)) := by
          rw [show ((k + 1 : Nat) : Int) = (k : Int) + 1 by omega, show hs.length - (k + 1) = hs.length - k - 1 by omega]
          exact hrs
        have hin : ∃ (M2 : List Nat) (k2 : Nat), M.map (fun (j : Nat) => PyData.int (j : Int)) ++ [PyData.int (k : Int)] = M2.map (fun (j : Nat) => PyData.int (j : Int)) ∧ k2 + rs.length = hs.length ∧ rs = irange (k2 : Int) (hs.length - k2) ∧ (∀ i ∈ M2, i < k2) ∧ M2.Pairwise (· < ·) ∧ (∀ i ∈ S, i < k2 → i ∈ M2) := by
          refine ⟨M ++ [k], k + 1, by rw [List.map_append]; rfl, by omega, hrs2, fun i hi => ?_, List.pairwise_append.mpr ⟨hMr, by simp, fun x hx y hy => ?_⟩, fun i hi hlt => ?_⟩
          · rcases List.mem_append.mp hi with hi | hi
            · have := hM i hi; omega
            · rw [List.mem_singleton] at hi; omega
          · rw [List.mem_singleton] at hy
            have := hM x hx
            omega
          · by_cases e : i = k
            · subst e; simp
            · exact List.mem_append_left _ (hMS i hi (by omega))
        obtain ⟨M2, k2, e1, e2, e3, e4, e5, e6⟩ := hin
        walk_at "vc"
        refine wo_inO ?_
        by_cases hkS : k ∈ S
        · rw [decide_eq_true hkS]
          walk_at "vc"
          exact ⟨a, b, M2, k2, e1, e2, e3, e4, e5, e6, rfl⟩
        · rw [decide_eq_false hkS]
          walk_at "vc"
          refine take_w (by omega) (by omega) fun r a b _ r0 r1 => ?_
          walk_at "vc"
          · exact ⟨a, b, M2, k2, e1, e2, e3, e4, e5, e6, rfl⟩
          · refine ⟨a, b, M, k + 1, rfl, by omega, hrs2, fun i hi => (by have := hM i hi; omega), hMr, fun i hi hlt => hMS i hi ?_, rfl⟩
            have : i ≠ k := fun e => hkS (e ▸ hi)
            omega
      · rintro acc e' ⟨a, b, M, k, rfl, hk1, hk2, hM, hMr, hMS, rfl⟩
        rw [List.length_nil] at hk1
        walk_at "nb"
        walk_at "vc"
        exact ⟨a, b, M, _, _, h4, ⟨hMr, fun i hi => by have := hM i hi; omega⟩, fun i hi => hMS i hi (by have := hS.b i hi; omega), rfl⟩
    rintro e ⟨a, b, M, x4, x5, h4, hM, hSM, rfl⟩
    refine ws_mid (fun e => e = [.own false [.int a, .int b], .val (clockD m hs bl mir), .val pp, .val (.int (hs.length : Int)), x4, x5, .val (.list (M.map fun (j : Nat) => PyData.int (j : Int))), .no, .no]) ?_ ?_
    · rw [← hE]
      walk_at "vc"
      refine lclear_w hm hm2 h1 hn hk hS fun _ _ => ?_
      rw [clrB_iff.mpr hC]
      walk_at "vc"
      refine lclear_w (S := M) hm hm2 h1 hn hk hM fun _ _ => ?_
      rw [clrB_iff.mpr (clr_more hk hn hS hM hSM hC)]
      walk_at "vc"
      rfl
    rintro _ rfl
    refine ws_mid (fun e => ∃ x4 x5 x6 x7 : Sl, (x4 = .no ∨ ∃ d, x4 = .val d) ∧ e = [.own false [.int a, .int b], .val (clockD m hs bl mir), .val pp, .val (.int (hs.length : Int)), x4, x5, x6, x7, .no]) ?_ ?_
    · refine ws_forN (fun _ i e => ∃ x4 x5 x6 x7 : Sl, (x4 = .no ∨ ∃ d, x4 = .val d) ∧ e = [.own false [.int a, .int b], .val (clockD m hs bl mir), .val pp, .val (.int (hs.length : Int)), x4, x5, x6, x7, .no]) ?_
      have hSl := hS.len
      have hlS : ∀ Q : D → Prop, Q (.int (S.length : Int)) → WO (gLen (tO S)) Q := fun Q q => by
        unfold tO
        exact wo_lenT (by rw [List.length_map]; exact q)
      rw [← hE]
      walk_at "vc"
      refine hlS _ ?_
      walk_at "vc"
      refine ⟨⟨_, _, _, _, h4, rfl⟩, ?_, ?_⟩
      · rintro i d e hi hd ⟨x4, x5, x6, x7, h4, rfl⟩
        obtain ⟨rfl, hi1⟩ := irange_at hd
        have hiS : i < S.length := by omega
        walk_at "vc"
        refine wl_compP (fun _ _ => true) (fun _ _ => .bool false) ?_
        walk_at "vc"
        refine lsets_w hn (by omega) fun _ _ => ?_
        have hsl := setsN_len hs.length (by omega) i (by omega)
        walk_at "vc"
        refine ⟨by rcases h4 with rfl | ⟨_, rfl⟩ <;> rfl, fits_of (by rw [List.length_map]; omega), fun d hd => ?_, ?_⟩
        · obtain ⟨T, hT, rfl⟩ := List.mem_map.mp hd
          obtain ⟨hT, hTl⟩ := SetOk.of hT
          walk_at "vc"
          refine ⟨rfl, ?_⟩
          walk_at "vc"
          refine lclear_w hm hm2 h1 hn hk hT fun _ _ => ?_
          rw [clr_false (hN T hT (by omega))]
          walk_at "vc"
          exact ⟨rfl, rfl⟩
        rw [filter_yes]
        walk_at "vc"
        refine wo_anyM (p := fun _ => false) ?_
        rw [List.any_eq_false.mpr fun _ _ => by simp]
        walk_at "vc"
        exact ⟨_, _, _, _, h4, rfl⟩
      · rintro e ⟨x4, x5, x6, x7, h4, rfl⟩
        exact ⟨_, _, _, _, h4, rfl⟩
    rintro e ⟨x4, x5, x6, x7, h4, rfl⟩
    walk_at "vc"
    exact q _ _ _
  · walk_at "vc"
    refine prnever_w hm hm2 h1 hn hk hD fun _ _ => ?_
    walk_at "vc"
    · rw [Int.toNat_natCast, ← tO_range]
      refine lclear_w hm hm2 h1 hn hk hR fun _ _ => ?_
      rw [clr_false (hN _ hR)]
      walk_at "vc"
      refine wl_compP (fun _ _ => true) (fun _ _ => .bool true) ?_
      walk_at "vc"
      rw [show ((hs.length : Nat) : Int) - 1 = ((hs.length - 1 : Nat) : Int) by omega]
      refine lsets_w hn (by omega) fun _ _ => ?_
      have hsl := setsN_len hs.length (by omega) (hs.length - 1) (by omega)
      walk_at "vc"
      refine ⟨rfl, fits_of (by rw [List.length_map]; omega), fun d hd => ?_, ?_⟩
      · obtain ⟨T, hT, rfl⟩ := List.mem_map.mp hd
        obtain ⟨hT, hTl⟩ := SetOk.of hT
        walk_at "vc"
        refine ⟨rfl, ?_⟩
        walk_at "vc"
        refine lclear_w hm hm2 h1 hn hk hT fun _ _ => ?_
        rw [clr_false (hN T hT)]
        walk_at "vc"
        exact ⟨rfl, rfl⟩
      rw [filter_yes]
      walk_at "vc"
      refine wo_allM (p := fun _ => true) ?_
      rw [List.all_eq_true.mpr fun _ _ => rfl]
      walk_at "vc"
      exact q _ _ _
    · exact absurd rfl (by assumption)
end


theorem perm_nats {rs : List D} {M : List Nat} (p : rs.Perm (M.map fun (j : Nat) => PyData.int (j : Int))) : ∃ M' : List Nat, M'.Perm M ∧ rs = M'.map fun (j : Nat) => PyData.int (j : Int) := by
  refine ⟨rs.map naD, ?_, ?_⟩
  · have := p.map naD
    rwa [naD_tO] at this
  · rw [List.map_map]
    conv => lhs; rw [← List.map_id rs]
    refine List.map_congr_left fun d hd => ?_
    obtain ⟨j, _, rfl⟩ := List.mem_map.mp (p.mem_iff.mp hd)
    rfl
section
variable {m : Int} {hs : List Hd} {bl mir : Bool} {Q : D → List Sl → Prop}
theorem lone_w {a b : Int} (hm : 1 < m) (hm2 : m ≤ 10 ^ 60) (h1 : 1 ≤ hs.length) (hn : hs.length ≤ 5) (hk : HandsOk m hs) (q : ∀ a' b' x, Q (.bool true) [.own false [.int a', .int b'], x]) :
    WG g__law_one_by_one [.own false [.int a, .int b], .val (clockD m hs bl mir)] Q := by
  have hm0 : 0 < m := by omega
  refine wg_run rfl ?_
  unfold b__law_one_by_one
  walk_at "nr"
  refine ws_mid (fun e => ∃ (a b : Int) (M : List Nat), SetOk hs.length M ∧ e = [.own false [.int a, .int b], .val (clockD m hs bl mir), .no, .val (.list (M.map fun (j : Nat) => PyData.int (j : Int))), .no, .no]) ?_ ?_
  · walk_at "vc"
    refine wl_comp (fun ds' rs acc e' e => ∃ (a b : Int) (M : List Nat) (k : Nat), acc = M.map (fun (j : Nat) => PyData.int (j : Int)) ∧ k + rs.length = hs.length ∧ rs = irange (k : Int) (hs.length - k) ∧ (∀ i ∈ M, i < k) ∧ M.Pairwise (· < ·) ∧ e' = [.own false [.int a, .int b], .val (clockD m hs bl mir), .no, .no, .no, .no]) ?_
    walk_at "vc"
    rw [List.length_map, Int.toNat_natCast]
    refine ⟨rfl, fits_of (by rw [irange_length]; omega), ⟨a, b, [], 0, rfl, by rw [irange_length]; omega, rfl, fun i hi => (by cases hi), .nil, rfl⟩, ?_, ?_⟩
    · rintro d rs acc e' ⟨a, b, M, k, rfl, hk1, hk2, hM, hMr, rfl⟩
      rw [List.length_cons] at hk1
      obtain ⟨rfl, hrs⟩ := irange_cons hk2
      have hrs2 : rs = irange ((k + 1 : Nat) : Int) (hs.length - (k + 1)) := by
        rw [show ((k + 1 : Nat) : Int) = (k : Int) + 1 by omega, show hs.length - (k + 1) = hs.length - k - 1 by omega]
        exact hrs
      walk_at "vc"
      refine take_w (by omega) (by omega) fun r a b _ r0 r1 => ?_
      walk_at "vc"
      · refine ⟨a, b, M ++ [k], k + 1, by rw [List.map_append]; rfl, by omega, hrs2, fun i hi => ?_, List.pairwise_append.mpr ⟨hMr, by simp, fun x hx y hy => ?_⟩, rfl⟩
        · rcases List.mem_append.mp hi with hi | hi
          · have := hM i hi; omega
          · rw [List.mem_singleton] at hi; omega
        · rw [List.mem_singleton] at hy
          have := hM x hx
          omega
      · exact ⟨a, b, M, k + 1, rfl, by omega, hrs2, fun i hi => (by have := hM i hi; omega), hMr, rfl⟩
    · rintro acc e' ⟨a, b, M, k, rfl, hk1, hk2, hM, hMr, rfl⟩
      rw [List.length_nil] at hk1
      walk_at "nb"
      walk_at "vc"
      exact ⟨a, b, M, ⟨hMr, fun i hi => by have := hM i hi; omega⟩, rfl⟩
  rintro e ⟨a, b, M, hM, rfl⟩
  have hMl := hM.len
  refine ws_mid (fun e => e = [.own false [.int a, .int b], .val (clockD m hs bl mir), .no, .val (.list (M.map fun (j : Nat) => PyData.int (j : Int))), .val (clockD m hs bl mir), .no]) (by walk_at "vc"; rfl) ?_
  rintro _ rfl
  refine ws_mid (fun e => ∃ (a b : Int) (h' : List Hd) (M' : List Nat) (x2 : Sl), M'.Perm M ∧ PaintOf hs h' M' ∧ e = [.own false [.int a, .int b], .val (clockD m hs bl mir), x2, .val (.list (M.map fun (j : Nat) => PyData.int (j : Int))), .val (clockD m h' bl mir), .no]) ?_ ?_
  · refine ws_forN (fun ds k e => ∃ (a b : Int) (h' : List Hd) (M' : List Nat) (x2 : Sl), ds = (M'.map fun (j : Nat) => PyData.int (j : Int)) ∧ M'.Perm M ∧ PaintOf hs h' (M'.take k) ∧ e = [.own false [.int a, .int b], .val (clockD m hs bl mir), x2, .val (.list (M.map fun (j : Nat) => PyData.int (j : Int))), .val (clockD m h' bl mir), .no]) ?_
    walk_at "vc"
    refine some2_w (by omega) (by rw [List.length_map]; omega) fun rs a b _ _ hrl hp => ?_
    obtain ⟨rest, hp⟩ := hp
    have hr : rest = [] := List.eq_nil_of_length_eq_zero (by
      have := hp.length_eq
      rw [List.length_append] at this
      omega)
    rw [hr, List.append_nil] at hp
    obtain ⟨M', p, rfl⟩ := perm_nats hp
    walk_at "vc"
    refine ⟨⟨_, _, hs, M', _, rfl, p, PaintOf.refl hk, rfl⟩, ?_, ?_⟩
    · rintro k d e hkl hd ⟨a, b, h', M2, x2, hds, _, P, rfl⟩
      obtain rfl : M' = M2 := by
        have := congrArg (List.map naD) hds
        rwa [naD_tO, naD_tO] at this
      rw [List.length_map] at hkl
      rw [List.getElem?_map, List.getElem?_eq_getElem hkl] at hd
      obtain rfl := Option.some.inj hd
      have hi : M'[k] < hs.length := hM.b _ (p.mem_iff.mp (List.getElem_mem hkl))
      have ht : M'.take (k + 1) = M'.take k ++ [M'[k]] := List.take_succ_eq_append_getElem hkl
      generalize M'[k] = i at *
      have hl' := P.len
      have hSi : SetOk h'.length [i] := ⟨by simp, fun x hx => by rw [List.mem_singleton] at hx; omega⟩
      have hk' := P.ok hk
      walk_at "vc"
      refine painte_w (S := [i]) hSi (by omega) hk' fun _ _ => ?_
      walk_at "vc"
      refine ⟨_, _, pN h' [i], M', _, rfl, p, ?_, rfl⟩
      rw [ht]
      exact P.trans (pN_of hk' (by omega) hSi.r hSi.b)
    · rintro e ⟨a, b, h', M2, x2, hds, p, P, rfl⟩
      rw [hds, List.length_map, List.take_length] at P
      exact ⟨_, _, h', M2, _, p, P, rfl⟩
  rintro e ⟨a, b, h', M', x2, p, P, rfl⟩
  have hl' := P.len
  have hk' := P.ok hk
  have R := pN_of hk hn hM.r hM.b
  have hl2 := R.len
  have hk2 := R.ok hk
  refine ws_mid (fun e => ∃ d1 d2 : D, PewOf m h' bl mir d1 ∧ PewOf m (pN hs M) bl mir d2 ∧ e = [.own false [.int a, .int b], .val (clockD m hs bl mir), x2, .val (.list (M.map fun (j : Nat) => PyData.int (j : Int))), .val (clockD m h' bl mir), .val (.list [d1, d2])]) ?_ ?_
  · walk_at "vc"
    refine pewest_w hm hm2 (by omega) (by omega) hk' fun d1 _ hd1 => ?_
    walk_at "vc"
    refine painte_w (S := M) hM hn hk fun _ _ => ?_
    walk_at "vc"
    refine pewest_w hm hm2 (by omega) (by omega) hk2 fun d2 _ hd2 => ?_
    walk_at "vc"
    exact ⟨d1, d2, hd1, hd2, rfl⟩
  rintro e ⟨d1, d2, hd1, hd2, rfl⟩
  have huq : ∀ {k k' : Option Nat}, PewK m h' bl mir k → PewK m (pN hs M) bl mir k' → k = k' := fun h g => PewK.uniq (by omega) (fun T hT => both_painted hk hn P R (fun i => p.mem_iff) (by rwa [hl'] at hT)) h g
  rcases hd1.pewk with ⟨S, ds, rfl, g1⟩ | ⟨e1, rfl, g1⟩
  · rcases hd2.pewk with ⟨S', ds', rfl, g2⟩ | ⟨e2, rfl, g2⟩
    · have e := Option.some.inj (huq g1 g2)
      walk_at "vc"
      unfold tO
      walk_at "vc"
      rw [List.length_map, List.length_map, e]
      rw [decide_eq_true rfl]
      exact q _ _ _
    · exact absurd (huq g1 g2) (by simp)
  · rcases hd2.pewk with ⟨S', ds', rfl, g2⟩ | ⟨e2, rfl, g2⟩
    · exact absurd (huq g1 g2) (by simp)
    · walk_at "vc"
      exact q _ _ _
end
theorem law_true : ∀ ns : List Int, ns.length ≤ 63 → ∃ args', g_law [.ro (ns.map .int)] = some (.bool true, args') := by
  intro ns hl
  suffices h : WG g_law [.ro (ns.map .int)] (fun d _ => d = .bool true) by
    obtain ⟨d, a, e, rfl⟩ := h
    exact ⟨a, e⟩
  refine wg_run rfl ?_
  unfold b_law
  walk_at "nr"
  refine ws_mid (fun e => ∃ cs : List Int, cs.length ≤ 3 ∧ e = [.ro (ns.map .int), .val (.list (cs.map .int)), .no, .no, .no]) ?_ ?_
  · walk_at "vc"
    refine cells_w (m := 3) (by omega) (by omega) fun cs _ _ hcs => ?_
    walk_at "vc"
    exact ⟨cs, hcs, rfl⟩
  rintro e ⟨cs, hcs, rfl⟩
  refine ws_mid (fun e => ∃ x2 x3 x4 : Sl, e = [.ro (ns.map .int), .val (.list (cs.map .int)), x2, x3, x4]) ?_ ?_
  · refine ws_forN (fun _ k e => ∃ x2 x3 x4 : Sl, e = [.ro (ns.map .int), .val (.list (cs.map .int)), x2, x3, x4]) ?_
    walk_at "vc"
    rw [List.length_map]
    refine ⟨⟨_, _, _, rfl⟩, ?_, ?_⟩
    · rintro k d e hkl hd ⟨x2, x3, x4, rfl⟩
      obtain ⟨rfl, hk1⟩ := irange_at hd
      have hk3 : k < 63 := by omega
      refine wt_n ?_
      walk_at "nr"
      refine ws_mid (fun e => ∃ a b : Int, e = [.ro (ns.map .int), .val (.list (cs.map .int)), .val (.int (k : Int)), .own true [.int a, .int b], x4]) ?_ ?_
      · walk_at "vc"
        refine pool_w (by omega) (by omega) (by omega) fun a b _ _ => ?_
        walk_at "vc"
        exact ⟨_, _, rfl⟩
      rintro e ⟨a, b, rfl⟩
      refine ws_mid (fun e => ∃ (a b m : Int) (hs : List Hd) (bl mir : Bool), 1 < m ∧ m ≤ 10 ^ 60 ∧ 1 ≤ hs.length ∧ hs.length ≤ 5 ∧ HandsOk m hs ∧ e = [.ro (ns.map .int), .val (.list (cs.map .int)), .val (.int (k : Int)), .own true [.int a, .int b], .val (clockD m hs bl mir)]) ?_ ?_
      · walk_at "vc"
        refine dial2_w fun m _ _ hm hm2 => ?_
        walk_at "vc"
        refine clock_w (by omega) hm2 fun hs bl mir _ _ _ _ h1 hn hk => ?_
        walk_at "vc"
        exact ⟨_, _, m, hs, bl, mir, hm, hm2, h1, hn, hk, rfl⟩
      rintro e ⟨a, b, m, hs, bl, mir, hm, hm2, h1, hn, hk, rfl⟩
      walk_at "vc"
      refine lright_w hm hm2 h1 hn hk fun _ _ _ => ?_
      walk_at "vc"
      refine lone_w hm hm2 h1 hn hk fun _ _ _ => ?_
      walk_at "vc"
      exact ⟨_, _, _, rfl⟩
    · rintro e ⟨x2, x3, x4, rfl⟩
      exact ⟨_, _, _, rfl⟩
  rintro e ⟨x2, x3, x4, rfl⟩
  walk_at "vc"
  rfl

end Lw

theorem PySem.Challenge.cw_dialdoubt_k48_whole_painted_beside_whole_holds : PySem.Challenge.rw_dialdoubt_k48_whole_painted_beside_whole.Holds :=
  Lw.walked Lw.law_true
