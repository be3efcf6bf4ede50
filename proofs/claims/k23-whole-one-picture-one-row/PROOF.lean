import PyProof.Rows.All
import HandS.Conv
import HandS.Deep
import HandS.ExcBuiltin
import HandS.ExcInit
import HandS.ExcIs
import HandS.ExcOwn
import HandS.ForMost
import HandS.IsInst
import HandS.More
import HandS.Replace
import HandS.SetFor
import HandS.Strs
import HandS.Style
import HandS.Text
import HandS.TupAny
import HandS.Walk
import HandS.Wide
import HandS.WordsExc
import HandS.Zip
import KE.DataFind
import KE.DataMinMax
import KE.DatumIndex
import KE.DatumOrd
import KE.GoesEnum
import KE.GoesMore
import KE.GoesZip
import KE.KDictDisplayH
import KE.KDictKeyed
import KE.KExcIs
import KE.KTurns
import KE.KeyNested
import KE.KxIndex
import KE.SortData
import OpenK.AllK
import PyProof.ListStr
import PyProof.Rows.SetFrom
import Wide.All
import Wide.FinOn
import HandS.NoneIn
import HandS.Dict
import PySem.Challenge.RW_dialdoubt_k23_whole_one_picture_one_row
set_option Elab.async false
set_option linter.all false
set_option maxRecDepth 100000
set_option maxHeartbeats 4000000
namespace Lw
open PySem PySem.W PyProof.Rows
set_option maxHeartbeats 0 in
open_top wrap for PySem.Challenge.rw_dialdoubt_k23_whole_one_picture_one_row
end Lw
namespace M
open PySem PySem.Spec PyProof.Rows L2

abbrev D := PyData
abbrev Frg := PySem.W.Frag
/-- a slot: nothing; a value that never changes; a list that this def may change (l: made here; else handed in); a list that is read only; a dict made here (w: by whose hashes) -/
inductive Sl where
  | no | val (d : D) | own (l : Bool) (ds : List D) | ro (ds : List D) | dct (w : World) (kvs : List (D × D))
abbrev En := List Sl

/-! ### values in a frozen heap -/
/-- a caught exception at a: of the class at C, its own dict at d -/
def ExV (C : Addr) (d : Option Addr) (a : Addr) : HO := .ext fun h => ∃ (oe : Obj) (vs : Array Value), h.get? a = some oe ∧ Zc (.ref C) d oe ∧ oe.data = .fields vs
mutual
inductive Dt (F : Hp) : V → D → Prop
  | non : Dt F .non .none
  | bl (b : Bool) : Dt F (.bl b) (.bool b)
  | int (i : Int) : Dt F (.int i) (.int i)
  | str (x : Str) : Dt F (.str x) (.str x)
  | lst {a : Addr} {xs : List V} {ds : List D} : F a = some (.lst xs) → Da F xs ds → Dt F (.ref a) (.list ds)
  | tup {a : Addr} {xs : List V} {ds : List D} : F a = some (.tup xs) → Da F xs ds → Dt F (.ref a) (.tuple ds)
  | xc {a C : Addr} : F a = some (ExV C none a) → Dt F (.ref a) (.dict [(.int (C : Int), .none)])
  | xf {a C dd : Addr} {f : Str} {z : Int} : F a = some (ExV C (some dd) a) → F dd = some (.xd [(f, .int z)]) → Dt F (.ref a) (.dict [(.int (C : Int), .tuple [.str f, .int z])])
inductive Da (F : Hp) : List V → List D → Prop
  | nil : Da F [] []
  | cons {v : V} {vs : List V} {d : D} {ds : List D} : Dt F v d → Da F vs ds → Da F (v :: vs) (d :: ds)
end
mutual
theorem Dt.mono {F F' : Hp} (e : Same F F') : ∀ (d : D) (v : V), Dt F v d → Dt F' v d
  | .none, _, h => by cases h; exact .non
  | .bool _, _, h => by cases h; exact .bl _
  | .int _, _, h => by cases h; exact .int _
  | .str _, _, h => by cases h; exact .str _
  | .list ds, _, h => by
    cases h with
    | lst s a => exact .lst (e _ _ s) (Da.mono e ds _ a)
  | .tuple ds, _, h => by
    cases h with
    | tup s a => exact .tup (e _ _ s) (Da.mono e ds _ a)
  | .dict _, _, h => by
    cases h with
    | xc s => exact .xc (e _ _ s)
    | xf s1 s2 => exact .xf (e _ _ s1) (e _ _ s2)
theorem Da.mono {F F' : Hp} (e : Same F F') : ∀ (ds : List D) (vs : List V), Da F vs ds → Da F' vs ds
  | [], _, h => by cases h; exact .nil
  | d :: ds, _, h => by
    cases h with
    | cons h1 h2 => exact .cons (Dt.mono e d _ h1) (Da.mono e ds _ h2)
end
mutual
def nd : D → Bool
  | .none => true
  | .bool _ => true
  | .int _ => true
  | .str _ => true
  | .list ds => ndA ds
  | .tuple ds => ndA ds
  | .dict _ => false
def ndA : List D → Bool
  | [] => true
  | d :: ds => nd d && ndA ds
end
theorem ndA_cons {d : D} {ds : List D} (h : ndA (d :: ds) = true) : nd d = true ∧ ndA ds = true := by
  unfold ndA at h
  exact Bool.and_eq_true_iff.mp h
mutual
theorem nd_can : ∀ d : D, d.canLay0 = true → nd d = true
  | .none, _ => by unfold nd; rfl
  | .bool _, _ => by unfold nd; rfl
  | .int _, _ => by unfold nd; rfl
  | .str _, _ => by unfold nd; rfl
  | .list ds, h => by unfold nd; exact ndA_can ds (by unfold PyData.canLay0 at h; exact h)
  | .tuple ds, h => by unfold nd; exact ndA_can ds (by unfold PyData.canLay0 at h; exact h)
  | .dict _, h => by unfold PyData.canLay0 at h; cases h
theorem ndA_can : ∀ ds : List D, PyData.canLayAll0 ds = true → ndA ds = true
  | [], _ => by unfold ndA; rfl
  | d :: ds, h => by
    unfold PyData.canLayAll0 at h
    obtain ⟨h1, h2⟩ := Bool.and_eq_true_iff.mp h
    unfold ndA
    rw [nd_can d h1, ndA_can ds h2]; rfl
end
theorem nd_sh {d : D} (h : SeqAt.shaped d = true) : nd d = true := nd_can d (Bool.and_eq_true_iff.mp h).1
theorem ndA_sh {ds : List D} (h : SeqAt.shaped (.list ds) = true) : ndA ds = true := by
  have := nd_sh h
  unfold nd at this
  exact this
mutual
theorem nd_alike : ∀ d : D, PySem.W.alike d d = true → nd d = true
  | .none, _ => by unfold nd; rfl
  | .bool _, _ => by unfold nd; rfl
  | .int _, _ => by unfold nd; rfl
  | .str _, _ => by unfold nd; rfl
  | .list ds, h => by unfold nd; exact ndA_alike ds (by unfold PySem.W.alike at h; exact h)
  | .tuple ds, h => by unfold nd; exact ndA_alike ds (by unfold PySem.W.alike at h; exact h)
  | .dict _, h => by unfold PySem.W.alike at h; cases h
theorem ndA_alike : ∀ ds : List D, PySem.W.alikeAll ds ds = true → ndA ds = true
  | [], _ => by unfold ndA; rfl
  | d :: ds, h => by
    unfold PySem.W.alikeAll at h
    obtain ⟨h1, h2⟩ := Bool.and_eq_true_iff.mp h
    unfold ndA
    rw [nd_alike d h1, ndA_alike ds h2]; rfl
end
theorem ndA_of {ds : List D} (h : ∀ d ∈ ds, nd d = true) : ndA ds = true := by
  induction ds with
  | nil => unfold ndA; rfl
  | cons d ds ih =>
    unfold ndA
    rw [h d (by simp), ih fun e he => h e (by simp [he])]; rfl
mutual
theorem Dt.dp {K : Frg} {F : Hp} : ∀ (d : D) (v : V), nd d = true → Dt F v d → Dp K F v d
  | .none, _, _, h => by cases h; exact .non
  | .bool _, _, _, h => by cases h; exact .bl _
  | .int _, _, _, h => by cases h; exact .int _
  | .str _, _, _, h => by cases h; exact .str _
  | .list ds, _, n, h => by
    cases h with
    | lst s a => exact .lst (SqL.of s) (Da.dp ds _ (by unfold nd at n; exact n) a)
  | .tuple ds, _, n, h => by
    cases h with
    | tup s a => exact .tup (SqT.of s) (Da.dp ds _ (by unfold nd at n; exact n) a)
  | .dict _, _, n, h => by unfold nd at n; cases n
theorem Da.dp {K : Frg} {F : Hp} : ∀ (ds : List D) (vs : List V), ndA ds = true → Da F vs ds → DpAll K F vs ds
  | [], _, _, h => by cases h; exact .nil
  | d :: ds, _, n, h => by
    cases h with
    | cons h1 h2 => exact .cons (Dt.dp d _ (ndA_cons n).1 h1) (Da.dp ds _ (ndA_cons n).2 h2)
end
theorem Da.length {F : Hp} : ∀ {ds : List D} {vs : List V}, Da F vs ds → vs.length = ds.length
  | [], _, h => by cases h; rfl
  | d :: ds, _, h => by
    cases h with
    | cons h1 h2 => simp [Da.length h2]
theorem Da.append {F : Hp} : ∀ {ds es : List D} {vs us : List V}, Da F vs ds → Da F us es → Da F (vs ++ us) (ds ++ es)
  | [], _, _, _, h, h' => by cases h; exact h'
  | d :: ds, _, _, _, h, h' => by
    cases h with
    | cons h1 h2 => exact .cons h1 (Da.append h2 h')
theorem Da.get {F : Hp} : ∀ {ds : List D} {vs : List V} {i : Nat} {d : D}, Da F vs ds → ds[i]? = some d → ∃ v, vs[i]? = some v ∧ Dt F v d
  | [], _, _, _, _, e => by simp at e
  | d :: ds, _, 0, _, h, e => by
    cases h with
    | cons h1 h2 => simp at e; subst e; exact ⟨_, rfl, h1⟩
  | d :: ds, _, i + 1, _, h, e => by
    cases h with
    | cons h1 h2 =>
      obtain ⟨v, h3, h4⟩ := Da.get (i := i) h2 (by simpa using e)
      exact ⟨v, by simpa using h3, h4⟩
theorem Da.get' {F : Hp} {ds : List D} {vs : List V} {i : Nat} {v : V} (h : Da F vs ds) (e : vs[i]? = some v) : ∃ d, ds[i]? = some d ∧ Dt F v d := by
  have hi : i < vs.length := (List.getElem?_eq_some_iff.mp e).1
  have hj : i < ds.length := by rw [← h.length]; exact hi
  obtain ⟨u, h1, h2⟩ := h.get (List.getElem?_eq_getElem hj)
  rw [e] at h1; cases h1
  exact ⟨_, List.getElem?_eq_getElem hj, h2⟩
theorem Da.of {F : Hp} : ∀ {ds : List D} {vs : List V}, vs.length = ds.length → (∀ (i : Nat) v d, vs[i]? = some v → ds[i]? = some d → Dt F v d) → Da F vs ds
  | [], [], _, _ => .nil
  | [], _ :: _, h, _ => by simp at h
  | _ :: _, [], h, _ => by simp at h
  | d :: ds, v :: vs, h, g => .cons (g 0 v d rfl rfl) (Da.of (by simpa using h) fun i u e h1 h2 => g (i + 1) u e (by simpa using h1) (by simpa using h2))
theorem Da.pick {F : Hp} {ds es : List D} {vs us : List V} (h : Da F vs ds) (hl : us.length = es.length) (g : ∀ (i : Nat) v d, us[i]? = some v → es[i]? = some d → ∃ j : Nat, vs[j]? = some v ∧ ds[j]? = some d) : Da F us es :=
  Da.of hl fun i v d h1 h2 => by
    obtain ⟨j, e1, e2⟩ := g i v d h1 h2
    obtain ⟨d', e, q⟩ := h.get' e1
    rw [e2] at e; cases e; exact q
theorem Da.take {F : Hp} {ds : List D} {vs : List V} (h : Da F vs ds) (n : Nat) : Da F (vs.take n) (ds.take n) :=
  h.pick (by simp [h.length]) fun i v d h1 h2 => by
    rw [List.getElem?_take] at h1 h2
    split at h1
    · rename_i hn
      rw [if_pos hn] at h2
      exact ⟨i, h1, h2⟩
    · cases h1
theorem Da.drop {F : Hp} {ds : List D} {vs : List V} (h : Da F vs ds) (n : Nat) : Da F (vs.drop n) (ds.drop n) :=
  h.pick (by simp [h.length]) fun i v d h1 h2 => by
    rw [List.getElem?_drop] at h1 h2
    exact ⟨n + i, h1, h2⟩
theorem Da.set {F : Hp} {ds : List D} {vs : List V} {d : D} {v : V} (h : Da F vs ds) (q : Dt F v d) (n : Nat) : Da F (vs.set n v) (ds.set n d) := by
  refine Da.of (by simp [h.length]) fun i v' d' h1 h2 => ?_
  by_cases hi : n = i
  · subst hi
    have l1 : n < vs.length := by have := (List.getElem?_eq_some_iff.mp h1).1; simpa using this
    have l2 : n < ds.length := by rw [← h.length]; exact l1
    rw [List.getElem?_set_self l1] at h1
    rw [List.getElem?_set_self l2] at h2
    cases h1; cases h2; exact q
  · rw [List.getElem?_set_ne hi] at h1 h2
    obtain ⟨d2, e, q'⟩ := h.get' h1
    rw [h2] at e; cases e; exact q'
theorem Da.erase {F : Hp} : ∀ {ds : List D} {vs : List V} (n : Nat), Da F vs ds → Da F (vs.eraseIdx n) (ds.eraseIdx n)
  | [], _, _, h => by cases h; exact .nil
  | d :: ds, _, 0, h => by cases h with | cons h1 h2 => exact h2
  | d :: ds, _, n + 1, h => by cases h with | cons h1 h2 => exact .cons h1 (Da.erase n h2)

/-- a def's frame: what is frozen and what stands at its entry; the pinned objects; the slots at entry -/
structure Gm where
  F0 : Hp
  H0 : Hp
  P : Hp
  R : Hp
  s0 : L2.St

/-! dicts: by their entries (hash, key, value) -/
def EntR (e : Int × V × V) (x : DictEntry) : Prop := x.hash = e.1 ∧ RelV e.2.1 x.key ∧ RelV e.2.2 x.val
abbrev DicO (a : Addr) (es : List (Int × V × V)) : HO := .ext fun h => ∃ (o : Obj) (xs : Array DictEntry) (ep : Nat), h.get? a = some o ∧ o.ExactDict ∧ o.data = .dict xs ep ∧ (a == sysModules) = false ∧ Paired EntR es xs.toList
mutual
def nkOf : D → Option NestedKey
  | .none => some .none
  | .bool b => some (.num (if b then 1 else 0))
  | .int i => some (.num i)
  | .str x => some (.text x)
  | .tuple ds => (nkAll ds).map .tup
  | .list _ => none
  | .dict _ => none
def nkAll : List D → Option (List NestedKey)
  | [] => some []
  | d :: ds => (nkOf d).bind fun k => (nkAll ds).map fun ks => k :: ks
end
def EntOk (F : Hp) (w : World) (e : Int × V × V) (p : D × D) : Prop := (∃ nk, nkOf p.1 = some nk ∧ e.1 = nk.hash w) ∧ Dt F e.2.1 p.1 ∧ Dt F e.2.2 p.2
structure EntsOk (F : Hp) (w : World) (es : List (Int × V × V)) (kvs : List (D × D)) : Prop where
  all : Paired (EntOk F w) es kvs
  nd : (kvs.map fun p => nkOf p.1).Nodup
  le : kvs.length ≤ sizeLine
theorem EntsOk.mono {F F' : Hp} (e : Same F F') {w : World} {es : List (Int × V × V)} {kvs : List (D × D)} (h : EntsOk F w es kvs) : EntsOk F' w es kvs where
  all := by
    have : ∀ {es : List (Int × V × V)} {kvs : List (D × D)}, Paired (EntOk F w) es kvs → Paired (EntOk F' w) es kvs := fun {es kvs} h => by
      induction h with
      | nil => exact .nil
      | cons r _ ih => exact .cons ⟨r.1, Dt.mono e _ _ r.2.1, Dt.mono e _ _ r.2.2⟩ ih
    exact this h.all
  nd := h.nd
  le := h.le
structure DcOk (G : Gm) (F : Hp) (env : En) (s : L2.St) (H : Hp) : Prop where
  at' : ∀ (i : Nat) w kvs, env[i]? = some (.dct w kvs) → ∃ a es, s[i]? = some (some (.ref a)) ∧ H a = some (DicO a es) ∧ F a = none ∧ G.P a = none ∧ G.H0 a = none ∧ EntsOk F w es kvs
  sep : ∀ (i j : Nat) w kvs w' kvs', env[i]? = some (.dct w kvs) → env[j]? = some (.dct w' kvs') → s[i]? = s[j]? → i = j
theorem DcOk.move {G G' : Gm} {F F' : Hp} {env env' : En} {s s' : L2.St} {H H' : Hp} (k : DcOk G F env s H) (hF : Same F F') (he : ∀ (i : Nat) w kvs, env'[i]? = some (.dct w kvs) → env[i]? = some (.dct w kvs) ∧ s'[i]? = s[i]?)
    (hH : ∀ a es, H a = some (DicO a es) → F a = none → G.P a = none → G.H0 a = none → (∃ (i : Nat) (w : World) (kvs : List (D × D)), env[i]? = some (.dct w kvs) ∧ s[i]? = some (some (.ref a))) → H' a = some (DicO a es) ∧ F' a = none ∧ G'.P a = none ∧ G'.H0 a = none) : DcOk G' F' env' s' H' where
  at' := fun i w kvs e => by
    obtain ⟨e1, e2⟩ := he i w kvs e
    obtain ⟨a, es, h1, h2, h3, h4, h5, h6⟩ := k.at' i w kvs e1
    obtain ⟨g2, g3, g4, g5⟩ := hH a es h2 h3 h4 h5 ⟨i, w, kvs, e1, h1⟩
    exact ⟨a, es, e2.trans h1, g2, g3, g4, g5, h6.mono hF⟩
  sep := fun i j w kvs w' kvs' e1 e2 e3 => by
    obtain ⟨f1, f2⟩ := he i w kvs e1
    obtain ⟨f3, f4⟩ := he j w' kvs' e2
    exact k.sep i j _ _ _ _ f1 f3 (f2.symm.trans (e3.trans f4))
/-- nothing but the slots changes -/
theorem DcOk.slots {G : Gm} {F : Hp} {env env' : En} {s s' : L2.St} {H : Hp} (k : DcOk G F env s H) (he : ∀ (i : Nat) w kvs, env'[i]? = some (.dct w kvs) → env[i]? = some (.dct w kvs) ∧ s'[i]? = s[i]?) : DcOk G F env' s' H :=
  k.move (fun _ _ e => e) he fun a es h1 h2 h3 h4 _ => ⟨h1, h2, h3, h4⟩
structure Ok (K : Frg) (G : Gm) (F : Hp) (env : En) (s : L2.St) (H : Hp) : Prop where
  len : s.length = env.length
  fr : Same F H
  val : ∀ (i : Nat) d, env[i]? = some (.val d) → ∃ v, s[i]? = some (some v) ∧ Dt F v d
  own : ∀ (i : Nat) l ds, env[i]? = some (.own l ds) → ∃ a vs, s[i]? = some (some (.ref a)) ∧ H a = some (.lst vs) ∧ F a = none ∧ G.P a = none ∧ Da F vs ds ∧ (l = true → G.H0 a = none) ∧ (l = false → G.s0[i]? = some (some (.ref a)))
  ro : ∀ (i : Nat) ds, env[i]? = some (.ro ds) → ∃ a vs, s[i]? = some (some (.ref a)) ∧ SqL K G.R a vs ∧ Da F vs ds
  sep : ∀ (i j : Nat) l ds m es, env[i]? = some (.own l ds) → env[j]? = some (.own m es) → s[i]? = s[j]? → i = j
  pin : Same G.P H
  dom : ∀ a, H a = none → G.H0 a = none
  grow : Same G.F0 F
  new : ∀ a o, F a = some o → G.F0 a = some o ∨ G.H0 a = none
  rin : Same G.R G.P
  dct : DcOk G F env s H

theorem same_upd {F : Hp} {p : Addr} {o : HO} (h : F p = none) : Same F (upd F p o) := fun b x e => by
  rw [upd_ne (ne_of_none e h)]
  exact e
theorem same_laid {F H : Hp} {p : Addr} {o : HO} (e : Same F H) (hp : H p = none) : Same F (upd H p o) := fun a u q => by
  have := e a u q
  rw [upd_ne (ne_of_none this hp)]; exact this

section
variable {K : Frg} {G : Gm} {F : Hp} {env : En} {s : L2.St} {H : Hp} {p : Addr} {o : HO}
/-- a new object, not frozen -/
theorem Ok.laid (k : Ok K G F env s H) (hp : H p = none) : Ok K G F env s (upd H p o) where
  len := k.len
  fr := same_laid k.fr hp
  val := k.val
  own := fun i l ds e => by
    obtain ⟨a, vs, h1, h2, h3⟩ := k.own i l ds e
    exact ⟨a, vs, h1, by rw [upd_ne (ne_of_none h2 hp)]; exact h2, h3⟩
  ro := k.ro
  sep := k.sep
  pin := same_laid k.pin hp
  dom := fun a e => by
    by_cases h : a = p
    · subst h; rw [upd_same] at e; cases e
    · rw [upd_ne h] at e; exact k.dom a e
  grow := k.grow
  new := k.new
  rin := k.rin
  dct := k.dct.move (fun _ _ e => e) (fun _ _ _ e => ⟨e, rfl⟩) fun a es h1 h2 h3 h4 _ => ⟨by rw [upd_ne (ne_of_none h1 hp)]; exact h1, h2, h3, h4⟩
theorem Ok.notdct (k : Ok K G F env s H) {q : HO} (hp : H p = some q) (hq : ∀ es, q ≠ DicO p es) : ∀ (j : Nat) w kvs, env[j]? = some (.dct w kvs) → s[j]? ≠ some (some (.ref p)) := fun j w kvs e z => by
  obtain ⟨a, es, h1, h2, _⟩ := k.dct.at' j w kvs e
  rw [z] at h1
  cases h1
  rw [hp] at h2
  exact hq es (Option.some.inj h2)
theorem Ok.notdctL (k : Ok K G F env s H) {vs : List V} (hp : H p = some (.lst vs)) : ∀ (j : Nat) w kvs, env[j]? = some (.dct w kvs) → s[j]? ≠ some (some (.ref p)) := k.notdct hp fun _ h => nomatch h
theorem Ok.notdctT (k : Ok K G F env s H) {vs : List V} (hp : H p = some (.tup vs)) : ∀ (j : Nat) w kvs, env[j]? = some (.dct w kvs) → s[j]? ≠ some (some (.ref p)) := k.notdct hp fun _ h => nomatch h
theorem Ok.notdctN (k : Ok K G F env s H) (hp : H p = none) : ∀ (j : Nat) w kvs, env[j]? = some (.dct w kvs) → s[j]? ≠ some (some (.ref p)) := fun j w kvs e z => by
  obtain ⟨a, es, h1, h2, _⟩ := k.dct.at' j w kvs e
  rw [z] at h1
  cases h1
  rw [hp] at h2; cases h2
/-- freezing -/
theorem Ok.freeze (k : Ok K G F env s H) (h1 : H p = some o) (h2 : F p = none) (h3 : G.H0 p = none) (h4 : ∀ (j : Nat) l es, env[j]? = some (.own l es) → s[j]? ≠ some (some (.ref p))) (h5 : ∀ (j : Nat) w kvs, env[j]? = some (.dct w kvs) → s[j]? ≠ some (some (.ref p))) : Ok K G (upd F p o) env s H where
  len := k.len
  fr := fun a u e => by
    by_cases h : a = p
    · subst h; rw [upd_same] at e; rw [h1]; exact e
    · rw [upd_ne h] at e; exact k.fr a u e
  val := fun i d e => by
    obtain ⟨v, q1, q2⟩ := k.val i d e
    exact ⟨v, q1, Dt.mono (same_upd h2) d v q2⟩
  own := fun i l ds e => by
    obtain ⟨a, us, q1, q2, q3, q4, q5, q6⟩ := k.own i l ds e
    have ne : a ≠ p := fun z => by subst z; exact h4 i l ds e q1
    exact ⟨a, us, q1, q2, by rw [upd_ne ne]; exact q3, q4, Da.mono (same_upd h2) ds us q5, q6⟩
  ro := fun i ds e => by
    obtain ⟨a, us, q1, q2, q3⟩ := k.ro i ds e
    exact ⟨a, us, q1, q2, Da.mono (same_upd h2) ds us q3⟩
  sep := k.sep
  pin := k.pin
  dom := k.dom
  grow := k.grow.trans (same_upd h2)
  new := fun a u e => by
    by_cases h : a = p
    · subst h; exact .inr h3
    · rw [upd_ne h] at e; exact k.new a u e
  rin := k.rin
  dct := k.dct.move (same_upd h2) (fun _ _ _ e => ⟨e, rfl⟩) fun a es g1 g2 g3 g4 ⟨i, w, kvs, g5, g6⟩ => ⟨g1, by
    have ne : a ≠ p := fun z => by subst z; exact h5 i w kvs g5 g6
    rw [upd_ne ne]; exact g2, g3, g4⟩
theorem Ok.notown (k : Ok K G F env s H) (hp : H p = none) : ∀ (j : Nat) l es, env[j]? = some (.own l es) → s[j]? ≠ some (some (.ref p)) := fun j l es e z => by
  obtain ⟨a, vs, h1, h2, _⟩ := k.own j l es e
  rw [z] at h1
  cases h1
  rw [hp] at h2; cases h2
/-- a new object, frozen at once -/
theorem Ok.alloc (k : Ok K G F env s H) (hp : H p = none) : Ok K G (upd F p o) env s (upd H p o) :=
  (k.laid hp).freeze upd_same (k.fr.free hp) (k.dom p hp) (k.notown hp) (k.notdctN hp)
end

/-- a value frozen, or a list that the def owns or may read -/
def Dq (K : Frg) (F H : Hp) (v : V) (d : D) : Prop := Dt F v d ∨ ∃ a vs ds, v = .ref a ∧ d = .list ds ∧ SqL K H a vs ∧ Da F vs ds
theorem Dq.dp {K : Frg} {F H : Hp} {v : V} {d : D} (e : Same F H) (n : nd d = true) (h : Dq K F H v d) : Dp K H v d := by
  rcases h with h | ⟨a, vs, ds, rfl, rfl, h1, h2⟩
  · exact Dt.dp d v n (Dt.mono e d v h)
  · exact .lst h1 (Da.dp ds vs (by unfold nd at n; exact n) (Da.mono e ds vs h2))
theorem Dq.list {K : Frg} {F H : Hp} {v : V} {ds : List D} (e : Same F H) (h : Dq K F H v (.list ds)) : ∃ a vs, v = .ref a ∧ SqL K H a vs ∧ Da F vs ds := by
  rcases h with h | ⟨a, vs, es, rfl, e2, h1, h2⟩
  · cases h with
    | lst s a => exact ⟨_, _, rfl, SqL.of (e _ _ s), a⟩
  · cases e2
    exact ⟨a, vs, rfl, h1, h2⟩
theorem Dq.tup {K : Frg} {F H : Hp} {v : V} {ds : List D} (e : Same F H) (h : Dq K F H v (.tuple ds)) : ∃ a vs, v = .ref a ∧ H a = some (.tup vs) ∧ F a = some (.tup vs) ∧ Da F vs ds := by
  rcases h with h | ⟨a, vs, es, rfl, e2, h1, h2⟩
  · cases h with
    | tup s a => exact ⟨_, _, rfl, e _ _ s, s, a⟩
  · cases e2
theorem Dq.int {K : Frg} {F H : Hp} {v : V} {i : Int} (h : Dq K F H v (.int i)) : v = .int i := by
  rcases h with h | ⟨a, vs, ds, rfl, e, h1, h2⟩
  · cases h; rfl
  · cases e
theorem Dq.bl {K : Frg} {F H : Hp} {v : V} {i : Bool} (h : Dq K F H v (.bool i)) : v = .bl i := by
  rcases h with h | ⟨a, vs, ds, rfl, e, h1, h2⟩
  · cases h; rfl
  · cases e
theorem Dq.str {K : Frg} {F H : Hp} {v : V} {i : Str} (h : Dq K F H v (.str i)) : v = .str i := by
  rcases h with h | ⟨a, vs, ds, rfl, e, h1, h2⟩
  · cases h; rfl
  · cases e
theorem Dq.non {K : Frg} {F H : Hp} {v : V} (h : Dq K F H v .none) : v = .non := by
  rcases h with h | ⟨a, vs, ds, rfl, e, h1, h2⟩
  · cases h; rfl
  · cases e
/-! ### judgements -/
abbrev Ef := En → Option (D × En)
abbrev Bf := En → Option (Bool × En)
abbrev Lf := En → Option (List D × En)
def RE (K : Frg) (t : TE) (f : Ef) : Prop := ∀ G F env s H d env', Ok K G F env s H → f env = some (d, env') → ∀ Q : VK, (∀ F' H' v, Ok K G F' env' s H' → Same F F' → Dt F' v d → Q v H') → t s H Q
/-- the value may be one of the def's own lists -/
def RO (K : Frg) (t : TE) (f : Ef) : Prop := ∀ G F env s H d env', Ok K G F env s H → f env = some (d, env') → ∀ Q : VK, (∀ F' H' v, Ok K G F' env' s H' → Same F F' → Dq K F' H' v d → Q v H') → t s H Q
/-- a new list, nobody's yet -/
def RN (K : Frg) (t : TE) (f : Lf) : Prop := ∀ G F env s H ds env', Ok K G F env s H → f env = some (ds, env') → ∀ Q : VK,
  (∀ F' H' p vs, Ok K G F' env' s H' → Same F F' → H' p = some (.lst vs) → F' p = none → G.H0 p = none → G.P p = none → (∀ (j : Nat) l es, env'[j]? = some (.own l es) → s[j]? ≠ some (some (.ref p))) → Da F' vs ds → Q (.ref p) H') → t s H Q
def RB (K : Frg) (t : TT) (f : Bf) : Prop := ∀ G F env s H b env', Ok K G F env s H → f env = some (b, env') → ∀ Q : Bool → Hp → Prop, (∀ F' H', Ok K G F' env' s H' → Same F F' → Q b H') → t s H Q
def RL (K : Frg) (t : TA) (f : Lf) : Prop := ∀ G F env s H ds env', Ok K G F env s H → f env = some (ds, env') → ∀ Q : List V → Hp → Prop, (∀ F' H' vs, Ok K G F' env' s H' → Same F F' → Da F' vs ds → Q vs H') → t s H Q

structure XE (X : Cx) (e : Expr) (f : Ef) : Prop where
  ex : ∃ t, PE X e t ∧ RE X.K t f
structure XO (X : Cx) (e : Expr) (f : Ef) : Prop where
  ex : ∃ t, PE X e t ∧ RO X.K t f
structure XN (X : Cx) (e : Expr) (f : Lf) : Prop where
  ex : ∃ t, PE X e t ∧ RN X.K t f
structure XB (X : Cx) (e : Expr) (f : Bf) : Prop where
  ex : ∃ t, PT X e t ∧ RB X.K t f
structure XW (X : Cx) (e : Expr) (f : Bf) : Prop where
  ex : ∃ t, PW X e t ∧ RB X.K t f
structure XL (X : Cx) (es : List Expr) (f : Lf) : Prop where
  ex : ∃ t, PA X es t ∧ RL X.K t f
theorem RE.ro {K : Frg} {t : TE} {f : Ef} (h : RE K t f) : RO K t f := fun G F env s H d env' k e Q q => h G F env s H d env' k e Q fun F' H' v k' s' p => q F' H' v k' s' (.inl p)
theorem XE.xo {X : Cx} {e : Expr} {f : Ef} (h : XE X e f) : XO X e f := let ⟨t, h1, h2⟩ := h.ex; ⟨t, h1, h2.ro⟩
def eFz (f : Lf) : Ef := fun env => (f env).map fun r => (.list r.1, r.2)
theorem RN.re {K : Frg} {t : TE} {f : Lf} (h : RN K t f) : RE K t (eFz f) := fun G F env s H d env' k e Q q => by
  unfold eFz at e
  obtain ⟨⟨ds, e1⟩, e2, e3⟩ := Option.map_eq_some_iff.mp e
  cases e3
  refine h G F env s H ds _ k e2 Q fun F' H' p vs k' s' h1 h2 h3 _ h4 h5 => ?_
  exact q (upd F' p (.lst vs)) H' (.ref p) (k'.freeze h1 h2 h3 h4 (k'.notdctL h1)) (s'.trans (same_upd h2)) (.lst upd_same (Da.mono (same_upd h2) ds vs h5))
theorem XN.xe {X : Cx} {e : Expr} {f : Lf} (h : XN X e f) : XE X e (eFz f) := let ⟨t, h1, h2⟩ := h.ex; ⟨t, h1, h2.re⟩
end M

namespace M
open PySem PySem.Spec PyProof.Rows L2

/-! ### names, constants -/
def eV (i : Nat) : Ef := fun env => match env[i]? with
  | some (.val d) => some (d, env)
  | _ => none
def eO (i : Nat) : Ef := fun env => match env[i]? with
  | some (.val d) => some (d, env)
  | some (.own _ ds) => some (.list ds, env)
  | some (.ro ds) => some (.list ds, env)
  | _ => none
def eC (d : D) : Ef := fun env => some (d, env)
section
variable {X : Cx} {a b c e : Expr} {es : List Expr} {f fa fb fc : Ef} {pos : Pos}
theorem re_var {K : Frg} (i : Nat) : RE K (tVar i) (eV i) := fun G F env s H d env' k e Q q => by
  unfold eV at e
  split at e
  · rename_i d' h
    cases e
    obtain ⟨v, h1, h2⟩ := k.val i _ h
    exact ⟨v, h1, q F H v k (Same.refl F) h2⟩
  · cases e
theorem ro_var {K : Frg} (i : Nat) : RO K (tVar i) (eO i) := fun G F env s H d env' k e Q q => by
  unfold eO at e
  split at e
  · rename_i d' h
    cases e
    obtain ⟨v, h1, h2⟩ := k.val i _ h
    exact ⟨v, h1, q F H v k (Same.refl F) (.inl h2)⟩
  · rename_i l ds h
    cases e
    obtain ⟨p, vs, h1, h2, h3, h4, h5, _⟩ := k.own i l ds h
    exact ⟨_, h1, q F H _ k (Same.refl F) (.inr ⟨p, vs, ds, rfl, rfl, SqL.of h2, h5⟩)⟩
  · rename_i ds h
    cases e
    obtain ⟨p, vs, h1, h2, h3⟩ := k.ro i ds h
    exact ⟨_, h1, q F H _ k (Same.refl F) (.inr ⟨p, vs, ds, rfl, rfl, (k.rin.trans k.pin).seq h2, h3⟩)⟩
  · cases e
theorem xv (i : Nat) {x : Str} {pos : Pos} (hN : X.N[i]? = some x := by rfl) (hv : Vis X.env.scope x := by first | exact Or.inl rfl | exact Or.inr (Or.inl rfl) | exact Or.inr (Or.inr rfl)) (hd : (x == ("__debug__" : Str)) = false := by decide)
    (hcd : (x == ("__classdict__" : Str)) = false := by decide) : XE X (.Name x pos) (eV i) := ⟨_, pe_var hN hv hd hcd, re_var i⟩
theorem xvo (i : Nat) {x : Str} {pos : Pos} (hN : X.N[i]? = some x := by rfl) (hv : Vis X.env.scope x := by first | exact Or.inl rfl | exact Or.inr (Or.inl rfl) | exact Or.inr (Or.inr rfl)) (hd : (x == ("__debug__" : Str)) = false := by decide)
    (hcd : (x == ("__classdict__" : Str)) = false := by decide) : XO X (.Name x pos) (eO i) := ⟨_, pe_var hN hv hd hcd, ro_var i⟩
theorem re_c {K : Frg} {v : V} {d : D} (h : ∀ F, Dt F v d) : RE K (tC v) (eC d) := fun G F env s H d' env' k e Q q => by
  cases e
  exact q F H v k (Same.refl F) (h F)
theorem xe_int {i j pos} : XE X (.Constant (.int i) j pos) (eC (.int i)) := ⟨_, pe_int, re_c fun _ => .int i⟩
theorem xe_bl {b j pos} : XE X (.Constant (.bool b) j pos) (eC (.bool b)) := ⟨_, pe_bl, re_c fun _ => .bl b⟩
theorem xe_non {j pos} : XE X (.Constant .none j pos) (eC .none) := ⟨_, pe_non, re_c fun _ => .non⟩
theorem xe_str {x j pos} : XE X (.Constant (.str x) j pos) (eC (.str x)) := ⟨_, pe_str, re_c fun _ => .str x⟩
/-! ### two places -/
def GO (K : Frg) (r : R2) (g : D → D → Option D) : Prop := ∀ G F env s H x y d e z, Ok K G F env s H → Dt F x d → Dt F y e → g d e = some z → ∀ Q : VK, (∀ F' H' v, Ok K G F' env s H' → Same F F' → Dt F' v z → Q v H') → r x y H Q
def GQ (K : Frg) (r : R2) (g : D → D → Option D) : Prop := ∀ G F env s H x y d e z, Ok K G F env s H → Dq K F H x d → Dq K F H y e → g d e = some z → ∀ Q : VK, (∀ F' H' v, Ok K G F' env s H' → Same F F' → Dt F' v z → Q v H') → r x y H Q
theorem GQ.go {K : Frg} {r : R2} {g : D → D → Option D} (h : GQ K r g) : GO K r g := fun G F env s H x y d e z k h1 h2 h3 Q q => h G F env s H x y d e z k (.inl h1) (.inl h2) h3 Q q
def eBin (g : D → D → Option D) (fa fb : Ef) : Ef := fun env => (fa env).bind fun r => (fb r.2).bind fun q => (g r.1 q.1).map fun d => (d, q.2)
theorem bin_some {g : D → D → Option D} {fa fb : Ef} {env env' : En} {d : D} (e : eBin g fa fb env = some (d, env')) : ∃ d1 e1 d2, fa env = some (d1, e1) ∧ fb e1 = some (d2, env') ∧ g d1 d2 = some d := by
  unfold eBin at e
  obtain ⟨⟨d1, e1⟩, h1, e⟩ := Option.bind_eq_some_iff.mp e
  obtain ⟨⟨d2, e2⟩, h2, e⟩ := Option.bind_eq_some_iff.mp e
  obtain ⟨z, h3, e⟩ := Option.map_eq_some_iff.mp e
  cases e
  exact ⟨d1, e1, d2, h1, h2, h3⟩
theorem re_bin {K : Frg} {r : R2} {g : D → D → Option D} {ta tb : TE} (ho : GO K r g) (ha : RE K ta fa) (hb : RE K tb fb) : RE K (tOp r ta tb) (eBin g fa fb) := fun G F env s H d env' k e Q q => by
  obtain ⟨d1, e1, d2, h1, h2, h3⟩ := bin_some e
  refine ha G F env s H d1 e1 k h1 _ fun F1 H1 v1 k1 s1 p1 => ?_
  refine hb G F1 e1 s H1 d2 env' k1 h2 _ fun F2 H2 v2 k2 s2 p2 => ?_
  exact ho G F2 env' s H2 v1 v2 d1 d2 d k2 (Dt.mono s2 d1 v1 p1) p2 h3 Q fun F3 H3 v3 k3 s3 p3 => q F3 H3 v3 k3 ((s1.trans s2).trans s3) p3
theorem Dq.up {K : Frg} {F F' H : Hp} {v : V} {d : D} (e : Same F F') (h : Dq K F H v d) : Dq K F' H v d := by
  rcases h with h | ⟨a, vs, ds, h1, h2, h3, h4⟩
  · exact .inl (Dt.mono e d v h)
  · exact .inr ⟨a, vs, ds, h1, h2, h3, Da.mono e ds vs h4⟩
/-- operands: the second one may be the def's own list -/
theorem re_binQ {K : Frg} {r : R2} {g : D → D → Option D} {ta tb : TE} (ho : GQ K r g) (ha : RE K ta fa) (hb : RO K tb fb) : RE K (tOp r ta tb) (eBin g fa fb) := fun G F env s H d env' k e Q q => by
  obtain ⟨d1, e1, d2, h1, h2, h3⟩ := bin_some e
  refine ha G F env s H d1 e1 k h1 _ fun F1 H1 v1 k1 s1 p1 => ?_
  refine hb G F1 e1 s H1 d2 env' k1 h2 _ fun F2 H2 v2 k2 s2 p2 => ?_
  exact ho G F2 env' s H2 v1 v2 d1 d2 d k2 (.inl (Dt.mono s2 d1 v1 p1)) p2 h3 Q fun F3 H3 v3 k3 s3 p3 => q F3 H3 v3 k3 ((s1.trans s2).trans s3) p3
/-- the first one a name -/
def eBinV (g : D → D → Option D) (i : Nat) (fb : Ef) : Ef := fun env => (eO i env).bind fun _ => (fb env).bind fun q => (eO i q.2).bind fun r => (g r.1 q.1).map fun d => (d, q.2)
theorem dq_slot {K : Frg} {G : Gm} {F : Hp} {env env' : En} {s : L2.St} {H : Hp} {i : Nat} {d : D} (k : Ok K G F env s H) (e : eO i env = some (d, env')) : ∃ v, s[i]? = some (some v) ∧ Dq K F H v d := by
  unfold eO at e
  split at e
  · rename_i d' h
    cases e
    obtain ⟨v, h1, h2⟩ := k.val i _ h
    exact ⟨v, h1, .inl h2⟩
  · rename_i l ds h
    cases e
    obtain ⟨p, vs, h1, h2, h3, h4, h5, _⟩ := k.own i l ds h
    exact ⟨_, h1, .inr ⟨p, vs, ds, rfl, rfl, SqL.of h2, h5⟩⟩
  · rename_i ds h
    cases e
    obtain ⟨p, vs, h1, h2, h3⟩ := k.ro i ds h
    exact ⟨_, h1, .inr ⟨p, vs, ds, rfl, rfl, (k.rin.trans k.pin).seq h2, h3⟩⟩
  · cases e
/-- the first operand a name whose list may be the def's own -/
theorem re_binV {K : Frg} {r : R2} {g : D → D → Option D} {tb : TE} {i : Nat} (ho : GQ K r g) (hb : RE K tb fb) : RE K (tOp r (tVar i) tb) (eBinV g i fb) := fun G F env s H d env' k e Q q => by
  unfold eBinV at e
  obtain ⟨⟨d0, e0⟩, h0, e⟩ := Option.bind_eq_some_iff.mp e
  obtain ⟨⟨d2, e2⟩, h2, e⟩ := Option.bind_eq_some_iff.mp e
  obtain ⟨⟨d1, e1⟩, h1, e⟩ := Option.bind_eq_some_iff.mp e
  obtain ⟨z, h3, e⟩ := Option.map_eq_some_iff.mp e
  cases e
  obtain ⟨v, hv, _⟩ := dq_slot k h0
  refine ⟨v, hv, ?_⟩
  refine hb G F env s H d2 e2 k h2 _ fun F2 H2 v2 k2 s2 p2 => ?_
  obtain ⟨v', hv', hd⟩ := dq_slot k2 h1
  rw [hv] at hv'
  cases hv'
  exact ho G F2 e2 s H2 v v2 d1 d2 d k2 hd (.inl p2) h3 Q fun F3 H3 v3 k3 s3 p3 => q F3 H3 v3 k3 (s2.trans s3) p3
end
end M

namespace M
open PySem PySem.Spec PyProof.Rows L2

/-! ### operators -/
def fits (n : Nat) : Bool := decide (n ≤ 16777216)
theorem fits_line {n : Nat} (h : fits n = true) : n ≤ sizeLine := by rw [sizeLine_eq]; exact of_decide_eq_true h
def gAdd : D → D → Option D
  | .int i, .int j => some (.int (i + j))
  | .str x, .str y => if fits (x.length + y.length) then some (.str (x ++ y)) else none
  | .list xs, .list ys => if fits (xs.length + ys.length) then some (.list (xs ++ ys)) else none
  | .tuple xs, .tuple ys => if fits (xs.length + ys.length) then some (.tuple (xs ++ ys)) else none
  | _, _ => none
def gSub : D → D → Option D
  | .int i, .int j => some (.int (i - j))
  | _, _ => none
/-- a product that the model surely makes -/
def mulOk (i j : Int) : Bool := decide (i.natAbs < 2 ^ 64) || decide (j.natAbs < 2 ^ 64) || (decide (i.natAbs < 10 ^ 250 * 10 ^ 250) && decide (j.natAbs < 10 ^ 250 * 10 ^ 250))
theorem mulOk.ok {i j : Int} (h : mulOk i j = true) : IntMulOk i j := by
  unfold mulOk at h
  simp only [Bool.or_eq_true, Bool.and_eq_true, decide_eq_true_eq] at h
  rcases h with (h | h) | ⟨h1, h2⟩
  · exact CMul.ok (.inl (by omega))
  · exact CMul.ok (.inr (by omega))
  · have h8 : (10 ^ 250 * 10 ^ 250 : Nat) ≤ 2 ^ 1700 := by decide +kernel
    exact CMulW.ok (wide_mul (a := 1700) (b := 1700) (Nat.lt_of_lt_of_le h1 h8) (Nat.lt_of_lt_of_le h2 h8) (by decide) (by decide) (by decide))
def gMul : D → D → Option D
  | .int i, .int j => if mulOk i j then some (.int (i * j)) else none
  | .list xs, .int k => if decide (0 ≤ k) && decide (k < 1000000) && fits (xs.length * k.toNat) then some (.list (List.replicate k.toNat xs).flatten) else none
  | _, _ => none
def divOk (j : Int) : Bool := decide (0 < j) && decide (j < 10 ^ 250 * 10 ^ 250)
def gDiv : D → D → Option D
  | .int i, .int j => if divOk j then some (.int (i / j)) else none
  | _, _ => none
def gMod : D → D → Option D
  | .int i, .int j => if decide (0 < j) then some (.int (i % j)) else none
  | _, _ => none
def gPow : D → D → Option D
  | .int i, .int j => if decide (0 ≤ j) && decide (j ≤ 1000000) && decide (i.natAbs < 2 ^ 64) then some (.int (i ^ j.toNat)) else none
  | _, _ => none
theorem GO.intro {K : Frg} {r : R2} {g : D → D → Option D} (h : ∀ G F env s H x y d e z, Ok K G F env s H → Dt F x d → Dt F y e → g d e = some z → ∀ Q : VK, (∀ F' H' v, Ok K G F' env s H' → Same F F' → Dt F' v z → Q v H') → r x y H Q) : GO K r g := h

def rMulI : R2 := fun x y H Q => ∃ i j, x = .int i ∧ y = .int j ∧ IntMulOk i j ∧ Q (.int (i * j)) H
section
variable {X : Cx}
theorem op_mulI : OpR X (binaryOp .Mult) rMulI := by
  intro pins s σ H x y v u Q I rx ry h
  obtain ⟨i, j, rfl, rfl, hc, q⟩ := h
  obtain ⟨t, rfl⟩ := rx
  obtain ⟨t', rfl⟩ := ry
  exact mul_int ⟨.int (i * j), H, I.tok _, ⟨_, rfl⟩, q⟩ hc
def rAddA (K : Frg) : R2 := fun x y H Q => (rI0 fun i j => .int (i + j)) x y H Q ∨ (∃ i j, x = .str i ∧ y = .str j ∧ i.length + j.length ≤ sizeLine ∧ Q (.str (i ++ j)) H) ∨ rCat x y H Q ∨ rCatA K x y H Q
theorem op_addA : OpR X (binaryOp .Add) (rAddA X.K) := op_add.or (op_add_str.or (op_cat.or op_catA))
theorem go_add {K : Frg} : GO K (rAddA K) gAdd := by
  intro G F env s H x y d e z k h1 h2 h3 Q q
  unfold gAdd at h3
  split at h3
  · cases h1; cases h2; cases h3
    exact .inl ⟨_, _, rfl, rfl, q F H _ k (Same.refl F) (.int _)⟩
  · split at h3
    · rename_i hf
      cases h1; cases h2; cases h3
      exact .inr (.inl ⟨_, _, rfl, rfl, fits_line hf, q F H _ k (Same.refl F) (.str _)⟩)
    · cases h3
  · split at h3
    · rename_i hf
      cases h3
      cases h1 with
      | lst a1 b1 =>
        cases h2 with
        | lst a2 b2 =>
          refine .inr (.inr (.inl ⟨_, _, _, _, rfl, rfl, k.fr _ _ a1, k.fr _ _ a2, by rw [b1.length, b2.length]; exact fits_line hf, fun p hp => ?_⟩))
          exact q _ _ _ (k.alloc hp) (same_upd (k.fr.free hp)) (.lst upd_same (Da.mono (same_upd (k.fr.free hp)) _ _ (b1.append b2)))
    · cases h3
  · split at h3
    · rename_i hf
      cases h3
      cases h1 with
      | tup a1 b1 =>
        cases h2 with
        | tup a2 b2 =>
          refine .inr (.inr (.inr ⟨_, _, _, _, rfl, rfl, SqT.of (k.fr _ _ a1), SqT.of (k.fr _ _ a2), by rw [b1.length, b2.length]; exact fits_line hf, fun e0 => ?_, fun _ e0 => ?_, fun _ _ p hp => ?_⟩))
          · subst e0; cases b1
            exact q F H _ k (Same.refl F) (.tup a2 b2)
          · subst e0; cases b2
            rw [List.append_nil] at *
            exact q F H _ k (Same.refl F) (.tup a1 b1)
          · exact q _ _ _ (k.alloc hp) (same_upd (k.fr.free hp)) (.tup upd_same (Da.mono (same_upd (k.fr.free hp)) _ _ (b1.append b2)))
    · cases h3
  · cases h3
theorem go_sub {K : Frg} : GO K (rI0 fun i j => .int (i - j)) gSub := by
  intro G F env s H x y d e z k h1 h2 h3 Q q
  unfold gSub at h3
  split at h3
  · cases h1; cases h2; cases h3
    exact ⟨_, _, rfl, rfl, q F H _ k (Same.refl F) (.int _)⟩
  · cases h3
def rMulA : R2 := fun x y H Q => rMulI x y H Q ∨ rRep x y H Q
theorem op_mulA : OpR X (binaryOp .Mult) rMulA := op_mulI.or op_rep
theorem Da.rep {F : Hp} {ds : List D} {vs : List V} (h : Da F vs ds) : ∀ n : Nat, Da F (List.replicate n vs).flatten (List.replicate n ds).flatten
  | 0 => .nil
  | n + 1 => by
    rw [List.replicate_succ, List.replicate_succ, List.flatten_cons, List.flatten_cons]
    exact h.append (Da.rep h n)
theorem go_mul {K : Frg} : GO K rMulA gMul := by
  intro G F env s H x y d e z k h1 h2 h3 Q q
  unfold gMul at h3
  split at h3
  · split at h3
    · rename_i hf
      cases h1; cases h2; cases h3
      exact .inl ⟨_, _, rfl, rfl, mulOk.ok hf, q F H _ k (Same.refl F) (.int _)⟩
    · cases h3
  · split at h3
    · rename_i hf
      cases h3
      simp only [Bool.and_eq_true, decide_eq_true_eq] at hf
      cases h2
      cases h1 with
      | lst a1 b1 =>
        refine .inr ⟨_, _, _, rfl, rfl, k.fr _ _ a1, by omega, by omega, by rw [b1.length]; exact fits_line hf.2, fun p hp => ?_⟩
        exact q _ _ _ (k.alloc hp) (same_upd (k.fr.free hp)) (.lst upd_same (Da.mono (same_upd (k.fr.free hp)) _ _ (Da.rep b1 _)))
    · cases h3
  · cases h3
theorem go_div {K : Frg} : GO K (rI CDivW fun i j => .int (i / j)) gDiv := by
  intro G F env s H x y d e z k h1 h2 h3 Q q
  unfold gDiv at h3
  split at h3
  · split at h3
    · rename_i hf
      cases h1; cases h2; cases h3
      unfold divOk at hf
      simp only [Bool.and_eq_true, decide_eq_true_eq] at hf
      refine ⟨_, _, rfl, rfl, wide_div (b := 1700) hf.1 ?_ (by decide) (by decide), q F H _ k (Same.refl F) (.int _)⟩
      have h8 : (10 ^ 250 * 10 ^ 250 : Nat) ≤ 2 ^ 1700 := by decide +kernel
      have h9 := hf.2
      omega
    · cases h3
  · cases h3
theorem go_mod {K : Frg} : GO K (rI (fun _ j => 0 < j) fun i j => .int (i % j)) gMod := by
  intro G F env s H x y d e z k h1 h2 h3 Q q
  unfold gMod at h3
  split at h3
  · split at h3
    · rename_i hf
      cases h1; cases h2; cases h3
      exact ⟨_, _, rfl, rfl, of_decide_eq_true hf, q F H _ k (Same.refl F) (.int _)⟩
    · cases h3
  · cases h3
theorem go_pow {K : Frg} : GO K (rI CPow fun i j => .int (i ^ j.toNat)) gPow := by
  intro G F env s H x y d e z k h1 h2 h3 Q q
  unfold gPow at h3
  split at h3
  · split at h3
    · rename_i hf
      cases h1; cases h2; cases h3
      simp only [Bool.and_eq_true, decide_eq_true_eq] at hf
      exact ⟨_, _, rfl, rfl, ⟨hf.1.1, hf.1.2, hf.2⟩, q F H _ k (Same.refl F) (.int _)⟩
    · cases h3
  · cases h3
variable {a b c e : Expr} {f fa fb fc : Ef} {pos : Pos}
theorem xe_op {op : Operator} {r : R2} {g : D → D → Option D} (ho : OpR X (binaryOp op) r) (hg : GO X.K r g) (ha : XE X a fa) (hb : XE X b fb) : XE X (.BinOp a op b pos) (eBin g fa fb) :=
  let ⟨_, h1, h2⟩ := ha.ex; let ⟨_, h3, h4⟩ := hb.ex; ⟨_, pe_op ho h1 h3, re_bin hg h2 h4⟩
theorem xe_add (ha : XE X a fa) (hb : XE X b fb) : XE X (.BinOp a .Add b pos) (eBin gAdd fa fb) := xe_op op_addA go_add ha hb
theorem xe_sub (ha : XE X a fa) (hb : XE X b fb) : XE X (.BinOp a .Sub b pos) (eBin gSub fa fb) := xe_op op_sub go_sub ha hb
theorem xe_mul (ha : XE X a fa) (hb : XE X b fb) : XE X (.BinOp a .Mult b pos) (eBin gMul fa fb) := xe_op op_mulA go_mul ha hb
theorem xe_div (ha : XE X a fa) (hb : XE X b fb) : XE X (.BinOp a .FloorDiv b pos) (eBin gDiv fa fb) := xe_op op_fdivW go_div ha hb
theorem xe_mod (ha : XE X a fa) (hb : XE X b fb) : XE X (.BinOp a .Mod b pos) (eBin gMod fa fb) := xe_op op_mod go_mod ha hb
theorem xe_pow (ha : XE X a fa) (hb : XE X b fb) : XE X (.BinOp a .Pow b pos) (eBin gPow fa fb) := xe_op op_pow go_pow ha hb
/-! ### one place -/
def GU (K : Frg) (r : V → Hp → VK → Prop) (g : D → Option D) : Prop := ∀ G F env s H x d z, Ok K G F env s H → Dq K F H x d → g d = some z → ∀ Q : VK, (∀ F' H' v, Ok K G F' env s H' → Same F F' → Dt F' v z → Q v H') → r x H Q
def eUn (g : D → Option D) (fa : Ef) : Ef := fun env => (fa env).bind fun r => (g r.1).map fun d => (d, r.2)
theorem un_some {g : D → Option D} {fa : Ef} {env env' : En} {d : D} (e : eUn g fa env = some (d, env')) : ∃ d1, fa env = some (d1, env') ∧ g d1 = some d := by
  unfold eUn at e
  obtain ⟨⟨d1, e1⟩, h1, e⟩ := Option.bind_eq_some_iff.mp e
  obtain ⟨z, h3, e⟩ := Option.map_eq_some_iff.mp e
  cases e
  exact ⟨d1, h1, h3⟩
theorem re_un {K : Frg} {r : V → Hp → VK → Prop} {g : D → Option D} {ta : TE} (ho : GU K r g) (ha : RO K ta fa) : RE K (tUn r ta) (eUn g fa) := fun G F env s H d env' k e Q q => by
  obtain ⟨d1, h1, h3⟩ := un_some e
  refine ha G F env s H d1 env' k h1 _ fun F1 H1 v1 k1 s1 p1 => ?_
  exact ho G F1 env' s H1 v1 d1 d k1 p1 h3 Q fun F3 H3 v3 k3 s3 p3 => q F3 H3 v3 k3 (s1.trans s3) p3
def gNeg : D → Option D
  | .int i => some (.int (-i))
  | _ => none
theorem gu_neg {K : Frg} : GU K (rU fun i => .int (-i)) gNeg := by
  intro G F env s H x d z k h1 h3 Q q
  unfold gNeg at h3
  split at h3
  · cases h3
    exact ⟨_, h1.int, q F H _ k (Same.refl F) (.int _)⟩
  · cases h3
theorem xe_neg (ha : XE X a fa) : XE X (.UnaryOp .USub a pos) (eUn gNeg fa) :=
  let ⟨_, h1, h2⟩ := ha.ex; ⟨_, pe_un un_neg h1, re_un gu_neg h2.ro⟩

/-! ### comparisons -/
def gLt : D → D → Option D
  | .int i, .int j => some (.bool (decide (i < j)))
  | _, _ => none
def gLe : D → D → Option D
  | .int i, .int j => some (.bool (decide (i ≤ j)))
  | _, _ => none
def gGt : D → D → Option D
  | .int i, .int j => some (.bool (decide (j < i)))
  | _, _ => none
def gGe : D → D → Option D
  | .int i, .int j => some (.bool (decide (j ≤ i)))
  | _, _ => none
theorem gq_lt {K : Frg} : GQ K (rI0 fun i j => .bl (decide (i < j))) gLt := by
  intro G F env s H x y d e z k h1 h2 h3 Q q
  unfold gLt at h3
  split at h3
  · cases h3; exact ⟨_, _, h1.int, h2.int, q F H _ k (Same.refl F) (.bl _)⟩
  · cases h3
theorem gq_gt {K : Frg} : GQ K (rI0 fun i j => .bl (decide (j < i))) gGt := by
  intro G F env s H x y d e z k h1 h2 h3 Q q
  unfold gGt at h3
  split at h3
  · cases h3; exact ⟨_, _, h1.int, h2.int, q F H _ k (Same.refl F) (.bl _)⟩
  · cases h3
theorem gq_ge {K : Frg} : GQ K (rI0 fun i j => .bl (decide (j ≤ i))) gGe := by
  intro G F env s H x y d e z k h1 h2 h3 Q q
  unfold gGe at h3
  split at h3
  · cases h3; exact ⟨_, _, h1.int, h2.int, q F H _ k (Same.refl F) (.bl _)⟩
  · cases h3
def shp (d : D) : Bool := SeqAt.shaped d
def gEq (d e : D) : Option D := if shp d && shp e then some (.bool (PyData.eqv d e)) else none
def gNe (d e : D) : Option D := if shp d && shp e then some (.bool (!PyData.eqv d e)) else none
theorem gq_eq {K : Frg} : GQ K (rEqD K) gEq := by
  intro G F env s H x y d e z k h1 h2 h3 Q q
  unfold gEq at h3
  split at h3
  · rename_i hf
    cases h3
    rw [Bool.and_eq_true] at hf
    exact ⟨d, e, h1.dp k.fr (nd_sh hf.1), h2.dp k.fr (nd_sh hf.2), hf.1, hf.2, q F H _ k (Same.refl F) (.bl _)⟩
  · cases h3
theorem gq_ne {K : Frg} : GQ K (rNeD K) gNe := by
  intro G F env s H x y d e z k h1 h2 h3 Q q
  unfold gNe at h3
  split at h3
  · rename_i hf
    cases h3
    rw [Bool.and_eq_true] at hf
    exact ⟨d, e, h1.dp k.fr (nd_sh hf.1), h2.dp k.fr (nd_sh hf.2), hf.1, hf.2, q F H _ k (Same.refl F) (.bl _)⟩
  · cases h3
def bV (f : Ef) : Bf := fun env => (f env).bind fun r => match r.1 with
  | .bool b => some (b, r.2)
  | _ => none
theorem bV_some {f : Ef} {env env' : En} {b : Bool} (e : bV f env = some (b, env')) : f env = some (.bool b, env') := by
  unfold bV at e
  obtain ⟨⟨d1, e1⟩, h1, e⟩ := Option.bind_eq_some_iff.mp e
  cases d1 <;> first | (cases e; exact h1) | cases e
theorem rb_test {K : Frg} {t : TE} {f : Ef} (h : RE K t f) : RB K (tTest t) (bV f) := fun G F env s H b env' k e Q q =>
  h G F env s H _ env' k (bV_some e) _ fun F' H' v k' s' p => by cases p; exact ⟨b, rfl, q F' H' k' s'⟩
theorem rb_tB {K : Frg} {t : TE} {f : Ef} (h : RE K t f) : RB K (tB t) (bV f) := fun G F env s H b env' k e Q q =>
  h G F env s H _ env' k (bV_some e) _ fun F' H' v k' s' p => by cases p; exact ⟨b, rfl, q F' H' k' s'⟩
/-- an expression that is True or False, as a test -/
theorem xb_val (h : XE X a fa) (he : ∀ whole, isTrue a X.env whole = (do let v ← whole; standAt a.pos; holding [v] (truthy v)) := by intro _; rfl) : XB X a (bV fa) :=
  let ⟨_, h1, h2⟩ := h.ex; ⟨_, pt_val h1 he, rb_tB h2⟩
section
variable {op : CmpOp} {r : R2} {g : D → D → Option D}
theorem xe_cmp (ho : OpR X (compareOp op) r) (hg : GQ X.K r g) (ha : XE X a fa) (hb : XE X b fb) (hm : behindInMarks op b = false) : XE X (.Compare a [op] [b] pos) (eBin g fa fb) :=
  let ⟨_, h1, h2⟩ := ha.ex; let ⟨_, h3, h4⟩ := hb.ex; ⟨_, pe_cmpR ho h1 h3 hm, re_bin hg.go h2 h4⟩
theorem xb_cmp (ho : OpR X (compareOp op) r) (hg : GQ X.K r g) (ha : XE X a fa) (hb : XE X b fb) (hm : behindInMarks op b = false) : XB X (.Compare a [op] [b] pos) (bV (eBin g fa fb)) :=
  let ⟨_, h1, h2⟩ := ha.ex; let ⟨_, h3, h4⟩ := hb.ex; ⟨_, pt_cmpR ho h1 h3 hm, rb_test (re_bin hg.go h2 h4)⟩
theorem xb_cmpQ (ho : OpR X (compareOp op) r) (hg : GQ X.K r g) (ha : XE X a fa) (hb : XO X b fb) (hm : behindInMarks op b = false) : XB X (.Compare a [op] [b] pos) (bV (eBin g fa fb)) :=
  let ⟨_, h1, h2⟩ := ha.ex; let ⟨_, h3, h4⟩ := hb.ex; ⟨_, pt_cmpR ho h1 h3 hm, rb_test (re_binQ hg h2 h4)⟩
/-- the first operand, a name, may be -/
theorem xb_cmpV {x : Str} {p2 : Pos} (i : Nat) (ho : OpR X (compareOp op) r) (hg : GQ X.K r g) (hb : XE X b fb) (hm : behindInMarks op b = false) (hN : X.N[i]? = some x := by rfl) (hv : Vis X.env.scope x := by first | exact Or.inl rfl | exact Or.inr (Or.inl rfl) | exact Or.inr (Or.inr rfl)) (hd : (x == ("__debug__" : Str)) = false := by decide)
    (hcd : (x == ("__classdict__" : Str)) = false := by decide) : XB X (.Compare (.Name x p2) [op] [b] pos) (bV (eBinV g i fb)) :=
  let ⟨_, h3, h4⟩ := hb.ex; ⟨_, pt_cmpR ho (pe_var hN hv hd hcd) h3 hm, rb_test (re_binV hg h4)⟩
/-- a op b op' c -/
def eChain (g g' : D → D → Option D) (fa fb fc : Ef) : Ef := fun env => (fa env).bind fun r => (fb r.2).bind fun q => (g r.1 q.1).bind fun z => match z with
  | .bool true => (fc q.2).bind fun w => (g' q.1 w.1).map fun d => (d, w.2)
  | .bool false => some (.bool false, q.2)
  | _ => none
end
/-! in, not in -/
end
end M

namespace M
open PySem PySem.Spec PyProof.Rows L2
section
variable {X : Cx} {a b c e : Expr} {es : List Expr} {f fa fb fc : Ef} {ga gb gc : Bf} {pos : Pos} {K : Frg}

/-! ### and, or, not, if-expressions -/
def bAnd (p q : Bf) : Bf := fun env => (p env).bind fun r => if r.1 then q r.2 else some (false, r.2)
def bOr (p q : Bf) : Bf := fun env => (p env).bind fun r => if r.1 then some (true, r.2) else q r.2
def bNot (p : Bf) : Bf := fun env => (p env).map fun r => (!r.1, r.2)
theorem rb_and {t u : TT} (h1 : RB K t ga) (h2 : RB K u gb) : RB K (tAnd t u) (bAnd ga gb) := fun G F env s H b env' k e Q q => by
  unfold bAnd at e
  obtain ⟨⟨c, e1⟩, h3, e⟩ := Option.bind_eq_some_iff.mp e
  refine h1 G F env s H c e1 k h3 _ fun F1 H1 k1 s1 => ?_
  cases c with
  | true =>
    rw [if_pos rfl] at e ⊢
    exact h2 G F1 e1 s H1 b env' k1 e Q fun F2 H2 k2 s2 => q F2 H2 k2 (s1.trans s2)
  | false =>
    rw [if_neg Bool.false_ne_true] at e ⊢
    cases e
    exact q F1 H1 k1 s1
theorem rb_or {t u : TT} (h1 : RB K t ga) (h2 : RB K u gb) : RB K (tOr t u) (bOr ga gb) := fun G F env s H b env' k e Q q => by
  unfold bOr at e
  obtain ⟨⟨c, e1⟩, h3, e⟩ := Option.bind_eq_some_iff.mp e
  refine h1 G F env s H c e1 k h3 _ fun F1 H1 k1 s1 => ?_
  cases c with
  | false =>
    rw [if_neg Bool.false_ne_true] at e ⊢
    exact h2 G F1 e1 s H1 b env' k1 e Q fun F2 H2 k2 s2 => q F2 H2 k2 (s1.trans s2)
  | true =>
    rw [if_pos rfl] at e ⊢
    cases e
    exact q F1 H1 k1 s1
theorem rb_not {t : TT} (h1 : RB K t ga) : RB K (tNot t) (bNot ga) := fun G F env s H b env' k e Q q => by
  unfold bNot at e
  obtain ⟨⟨c, e1⟩, h3, e⟩ := Option.map_eq_some_iff.mp e
  cases e
  exact h1 G F env s H c e1 k h3 _ fun F1 H1 k1 s1 => q F1 H1 k1 s1
theorem xw_and1 (ha : XB X a ga) : XW X (.BoolOp .And [a] pos) ga := let ⟨_, h1, h2⟩ := ha.ex; ⟨_, pw_and1 h1, h2⟩
theorem xw_or1 (ha : XB X a ga) : XW X (.BoolOp .Or [a] pos) ga := let ⟨_, h1, h2⟩ := ha.ex; ⟨_, pw_or1 h1, h2⟩
theorem xw_and {rest : List Expr} (ha : XB X a ga) (hb : XW X (.BoolOp .And (b :: rest) pos) gb) : XW X (.BoolOp .And (a :: b :: rest) pos) (bAnd ga gb) :=
  let ⟨_, h1, h2⟩ := ha.ex; let ⟨_, h3, h4⟩ := hb.ex; ⟨_, pw_and h1 h3, rb_and h2 h4⟩
theorem xw_or {rest : List Expr} (ha : XB X a ga) (hb : XW X (.BoolOp .Or (b :: rest) pos) gb) : XW X (.BoolOp .Or (a :: b :: rest) pos) (bOr ga gb) :=
  let ⟨_, h1, h2⟩ := ha.ex; let ⟨_, h3, h4⟩ := hb.ex; ⟨_, pw_or h1 h3, rb_or h2 h4⟩
theorem xb_w (h : XW X a ga) : XB X a ga := let ⟨_, h1, h2⟩ := h.ex; ⟨_, h1.pt, h2⟩
theorem xb_not (ha : XB X a ga) : XB X (.UnaryOp .Not a pos) (bNot ga) := let ⟨_, h1, h2⟩ := ha.ex; ⟨_, pt_not h1, rb_not h2⟩
def eAnd (fa fb : Ef) : Ef := fun env => (fa env).bind fun r => match r.1 with
  | .bool true => fb r.2
  | .bool false => some (.bool false, r.2)
  | _ => none
def eOr (fa fb : Ef) : Ef := fun env => (fa env).bind fun r => match r.1 with
  | .bool false => fb r.2
  | .bool true => some (.bool true, r.2)
  | _ => none
def eNot (fa : Ef) : Ef := fun env => (fa env).bind fun r => match r.1 with
  | .bool b => some (.bool !b, r.2)
  | _ => none
theorem re_and {ta tb : TE} (h1 : RE K ta fa) (h2 : RE K tb fb) : RE K (tAndV ta tb) (eAnd fa fb) := fun G F env s H d env' k e Q q => by
  unfold eAnd at e
  obtain ⟨⟨c, e1⟩, h3, e⟩ := Option.bind_eq_some_iff.mp e
  refine h1 G F env s H c e1 k h3 _ fun F1 H1 v k1 s1 p1 => ?_
  cases p1 with
  | bl b =>
    refine ⟨b, rfl, ?_⟩
    cases b with
    | true =>
      rw [if_pos rfl]
      exact h2 G F1 e1 s H1 d env' k1 e Q fun F2 H2 v2 k2 s2 p2 => q F2 H2 v2 k2 (s1.trans s2) p2
    | false =>
      rw [if_neg Bool.false_ne_true]
      cases e
      exact q F1 H1 _ k1 s1 (.bl _)
  | _ => cases e
theorem re_not {ta : TE} (h1 : RE K ta fa) : RE K (tNotV ta) (eNot fa) := fun G F env s H d env' k e Q q => by
  unfold eNot at e
  obtain ⟨⟨c, e1⟩, h3, e⟩ := Option.bind_eq_some_iff.mp e
  refine h1 G F env s H c e1 k h3 _ fun F1 H1 v k1 s1 p1 => ?_
  cases p1 with
  | bl b =>
    cases e
    exact ⟨b, rfl, q F1 H1 _ k1 s1 (.bl _)⟩
  | _ => cases e
theorem xe_one {op} (h : XE X a fa) : XE X (.BoolOp op [a] pos) fa := let ⟨_, h1, h2⟩ := h.ex; ⟨_, pe_one h1, h2⟩
theorem xe_and {rest : List Expr} (ha : XE X a fa) (hb : XE X (.BoolOp .And (b :: rest) pos) fb) : XE X (.BoolOp .And (a :: b :: rest) pos) (eAnd fa fb) :=
  let ⟨_, h1, h2⟩ := ha.ex; let ⟨_, h3, h4⟩ := hb.ex; ⟨_, pe_and h1 h3, re_and h2 h4⟩
theorem xe_not (ha : XE X a fa) : XE X (.UnaryOp .Not a pos) (eNot fa) := let ⟨_, h1, h2⟩ := ha.ex; ⟨_, pe_not h1, re_not h2⟩
def eIf (p : Bf) (fa fb : Ef) : Ef := fun env => (p env).bind fun r => if r.1 then fa r.2 else fb r.2
theorem xe_ifExp (hc : XB X c gc) (ha : XE X a fa) (hb : XE X b fb) : XE X (.IfExp c a b pos) (eIf gc fa fb) := by
  obtain ⟨t, h1, h2⟩ := hc.ex
  obtain ⟨ta, h3, h4⟩ := ha.ex
  obtain ⟨tb, h5, h6⟩ := hb.ex
  refine ⟨_, pe_ifExp h1 h3 h5, fun G F env s H d env' k e Q q => ?_⟩
  unfold eIf at e
  obtain ⟨⟨c, e1⟩, h7, e⟩ := Option.bind_eq_some_iff.mp e
  refine h2 G F env s H c e1 k h7 _ fun F1 H1 k1 s1 => ?_
  cases c with
  | true =>
    rw [if_pos rfl] at e ⊢
    exact h4 G F1 e1 s H1 d env' k1 e Q fun F2 H2 v2 k2 s2 p2 => q F2 H2 v2 k2 (s1.trans s2) p2
  | false =>
    rw [if_neg Bool.false_ne_true] at e ⊢
    exact h6 G F1 e1 s H1 d env' k1 e Q fun F2 H2 v2 k2 s2 p2 => q F2 H2 v2 k2 (s1.trans s2) p2

/-! ### argument lists, displays -/
def lNil : Lf := fun env => some ([], env)
def lCons (f : Ef) (g : Lf) : Lf := fun env => (f env).bind fun r => (g r.2).map fun q => (r.1 :: q.1, q.2)
theorem lCons_some {f : Ef} {g : Lf} {env env' : En} {ds : List D} (e : lCons f g env = some (ds, env')) : ∃ d e1 r, f env = some (d, e1) ∧ g e1 = some (r, env') ∧ ds = d :: r := by
  unfold lCons at e
  obtain ⟨⟨d, e1⟩, h1, e⟩ := Option.bind_eq_some_iff.mp e
  obtain ⟨⟨r, e2⟩, h2, e⟩ := Option.map_eq_some_iff.mp e
  cases e
  exact ⟨d, e1, r, h1, h2, rfl⟩
theorem xl_nil : XL X [] lNil := ⟨_, pa_nil, fun G F env s H d env' k e Q q => by cases e; exact q F H [] k (Same.refl F) .nil⟩
theorem xl_cons {g : Lf} (ha : XE X e f) (hr : XL X es g) (hs : starEach (e :: es) X.env = (false, eval e X.env) :: starEach es X.env := by rfl) : XL X (e :: es) (lCons f g) := by
  obtain ⟨ta, h1, h2⟩ := ha.ex
  obtain ⟨tr, h3, h4⟩ := hr.ex
  refine ⟨_, pa_cons h1 h3 hs, fun G F env s H d env' k e Q q => ?_⟩
  obtain ⟨d1, e1, r, h5, h6, rfl⟩ := lCons_some e
  refine h2 G F env s H d1 e1 k h5 _ fun F1 H1 v k1 s1 p1 => ?_
  refine h4 G F1 e1 s H1 r env' k1 h6 _ fun F2 H2 vs k2 s2 p2 => ?_
  exact q F2 H2 _ k2 (s1.trans s2) (.cons (Dt.mono s2 d1 v p1) p2)
def eTup (g : Lf) : Ef := fun env => (g env).bind fun r => if fits r.1.length then some (.tuple r.1, r.2) else none
theorem xe_tup {x1} {g : Lf} (h : XL X es g) : XE X (.Tuple es x1 pos) (eTup g) := by
  obtain ⟨t, h1, h2⟩ := h.ex
  refine ⟨_, pe_tup h1, fun G F env s H d env' k e Q q => ?_⟩
  unfold eTup at e
  obtain ⟨⟨ds, e1⟩, h3, e⟩ := Option.bind_eq_some_iff.mp e
  split at e
  · rename_i hf
    cases e
    refine h2 G F env s H ds _ k h3 _ fun F1 H1 vs k1 s1 p1 => ⟨by rw [p1.length]; exact fits_line hf, fun p hp => ?_⟩
    exact q _ _ _ (k1.alloc hp) (s1.trans (same_upd (k1.fr.free hp))) (.tup upd_same (Da.mono (same_upd (k1.fr.free hp)) _ _ p1))
  · cases e
def lLst (g : Lf) : Lf := fun env => (g env).bind fun r => if fits r.1.length then some (r.1, r.2) else none
theorem xn_lst {g : Lf} (h : XL X es g) : XN X (.List es pos) (lLst g) := by
  obtain ⟨t, h1, h2⟩ := h.ex
  refine ⟨_, pe_lst h1, fun G F env s H d env' k e Q q => ?_⟩
  unfold lLst at e
  obtain ⟨⟨ds, e1⟩, h3, e⟩ := Option.bind_eq_some_iff.mp e
  split at e
  · rename_i hf
    cases e
    refine h2 G F env s H ds _ k h3 _ fun F1 H1 vs k1 s1 p1 => ⟨by rw [p1.length]; exact fits_line hf, fun p hp => ?_⟩
    exact q F1 _ p vs (k1.laid hp) s1 upd_same (k1.fr.free hp) (k1.dom p hp) (k1.pin.free hp) (k1.notown hp) p1
  · cases e
/-! ### subscripts -/
def gIdx : D → D → Option D
  | .list ds, .int i => atI ds i
  | .tuple ds, .int i => atI ds i
  | .str x, .int i => if fits x.length then (atI x.cps.toList i).map fun c => .str ⟨#[c]⟩ else none
  | _, _ => none
theorem Da.at_ {F : Hp} {ds : List D} {vs : List V} {i : Int} {d : D} (h : Da F vs ds) (e : atI ds i = some d) : ∃ v, atI vs i = some v ∧ Dt F v d := by
  unfold atI at e ⊢
  rw [h.length]
  cases hx : ixN ds.length i with
  | none => rw [hx] at e; cases e
  | some j =>
    rw [hx] at e
    obtain ⟨v, h1, h2⟩ := h.get (show ds[j]? = some d from e)
    exact ⟨v, h1, h2⟩
theorem gq_idx : GQ K (rIx K) gIdx := by
  intro G F env s H x y d e z k h1 h2 h3 Q q
  unfold gIdx at h3
  split at h3
  · obtain ⟨p, vs, rfl, h4, h5⟩ := h1.list k.fr
    obtain ⟨v, h6, h7⟩ := h5.at_ h3
    exact .inl ⟨p, vs, _, v, rfl, h2.int, h4, h6, q F H v k (Same.refl F) h7⟩
  · obtain ⟨p, vs, rfl, h4, _, h5⟩ := h1.tup k.fr
    obtain ⟨v, h6, h7⟩ := h5.at_ h3
    exact .inr (.inl ⟨p, vs, _, v, rfl, h2.int, SqT.of h4, h6, q F H v k (Same.refl F) h7⟩)
  · split at h3
    · rename_i hf
      obtain ⟨c, h4, h5⟩ := Option.map_eq_some_iff.mp h3
      cases h5
      exact .inr (.inr ⟨_, _, c, h1.str, h2.int, fits_line hf, h4, q F H _ k (Same.refl F) (.str _)⟩)
    · cases h3
  · cases h3
theorem xe_idx (ha : XE X a fa) (hb : XE X b fb) (hs : PlainIx b := by intro _ _; rfl) : XE X (.Subscript a b pos) (eBin gIdx fa fb) :=
  let ⟨_, h1, h2⟩ := ha.ex; let ⟨_, h3, h4⟩ := hb.ex; ⟨_, pe_ix ix_seq h1 h3 hs, re_bin gq_idx.go h2 h4⟩
theorem xe_idxV {x : Str} {p2 : Pos} (i : Nat) (hb : XE X b fb) (hN : X.N[i]? = some x := by rfl) (hv : Vis X.env.scope x := by first | exact Or.inl rfl | exact Or.inr (Or.inl rfl) | exact Or.inr (Or.inr rfl)) (hd : (x == ("__debug__" : Str)) = false := by decide)
    (hcd : (x == ("__classdict__" : Str)) = false := by decide) (hs : PlainIx b := by intro _ _; rfl) : XE X (.Subscript (.Name x p2) b pos) (eBinV gIdx i fb) :=
  let ⟨_, h3, h4⟩ := hb.ex; ⟨_, pe_ix ix_seq (pe_var hN hv hd hcd) h3 hs, re_binV gq_idx h4⟩

/-! ### slices -/
abbrev Pf := En → Option (Option Int × En)
def RP (K : Frg) (t : TO) (f : Pf) : Prop := ∀ G F env s H o env', Ok K G F env s H → f env = some (o, env') → ∀ Q : Option Int → Hp → Prop, (∀ F' H', Ok K G F' env' s H' → Same F F' → Q o H') → t s H Q
structure XP (X : Cx) (e : Option Expr) (f : Pf) : Prop where
  ex : ∃ t, PO X e t ∧ RP X.K t f
def pNo : Pf := fun env => some (none, env)
def pE (f : Ef) : Pf := fun env => (f env).bind fun r => match r.1 with
  | .int i => some (some i, r.2)
  | _ => none
theorem xp_none : XP X none pNo := ⟨_, po_none, fun G F env s H d env' k e Q q => by cases e; exact q F H k (Same.refl F)⟩
theorem xp_some (h : XE X a fa) : XP X (some a) (pE fa) := by
  obtain ⟨t, h1, h2⟩ := h.ex
  refine ⟨_, po_some h1, fun G F env s H d env' k e Q q => ?_⟩
  unfold pE at e
  obtain ⟨⟨c, e1⟩, h3, e⟩ := Option.bind_eq_some_iff.mp e
  refine h2 G F env s H c e1 k h3 _ fun F1 H1 v k1 s1 p1 => ?_
  cases p1 with
  | int i => cases e; exact ⟨i, rfl, q F1 H1 k1 s1⟩
  | _ => cases e
def cutD (xs : List D) (lo hi : Option Int) : List D := (xs.drop (HT.sIx xs.length 0 lo)).take (HT.sIx xs.length xs.length hi - HT.sIx xs.length 0 lo)
theorem Da.cut {F : Hp} {ds : List D} {vs : List V} (h : Da F vs ds) (lo hi : Option Int) : Da F (cutV vs lo hi) (cutD ds lo hi) := by
  unfold cutV cutD
  rw [h.length]
  exact (h.drop _).take _
def eSl (fa : Ef) (l h : Pf) : Ef := fun env => (fa env).bind fun r => (l r.2).bind fun q => (h q.2).bind fun w => match r.1 with
  | .list ds => some (.list (cutD ds q.1 w.1), w.2)
  | .tuple ds => some (.tuple (cutD ds q.1 w.1), w.2)
  | .str x => if fits x.length then some (.str (cutS x q.1 w.1), w.2) else none
  | _ => none
theorem cutD_whole {ds : List D} {vs : List V} {F : Hp} {lo hi : Option Int} (h : Da F vs ds) (w : HT.sIx vs.length 0 lo = 0 ∧ HT.sIx vs.length vs.length hi = vs.length) : cutD ds lo hi = ds := by
  unfold cutD
  rw [← h.length, w.1, w.2, List.drop_zero, Nat.sub_zero, h.length, List.take_length]
theorem sl_any : SlR X (fun x lo hi H Q => rSlL X.K x lo hi H Q ∨ rSlA X.K x lo hi H Q ∨ rSlS x lo hi H Q) := sl_list.or (sl_tupA.or sl_str)
theorem re_slice {lo hi : Option Expr} {pl ph : Pf} {t : TE} {tl th : TO} (h2 : RE K t fa) (h4 : RP K tl pl) (h6 : RP K th ph) :
    RE K (tSl (fun x lo hi H Q => rSlL K x lo hi H Q ∨ rSlA K x lo hi H Q ∨ rSlS x lo hi H Q) t tl th) (eSl fa pl ph) := fun G F env s H d env' k e Q q => by
  unfold eSl at e
  obtain ⟨⟨c, e1⟩, h7, e⟩ := Option.bind_eq_some_iff.mp e
  obtain ⟨⟨l, e2⟩, h8, e⟩ := Option.bind_eq_some_iff.mp e
  obtain ⟨⟨u, e3⟩, h9, e⟩ := Option.bind_eq_some_iff.mp e
  refine h2 G F env s H c e1 k h7 _ fun F1 H1 v k1 s1 p1 => ?_
  refine h4 G F1 e1 s H1 l e2 k1 h8 _ fun F2 H2 k2 s2 => ?_
  refine h6 G F2 e2 s H2 u e3 k2 h9 _ fun F3 H3 k3 s3 => ?_
  have p3 := Dt.mono (s2.trans s3) c v p1
  have ss := (s1.trans s2).trans s3
  cases p3 with
  | lst a1 b1 =>
    cases e
    refine .inl ⟨_, _, rfl, SqL.of (k3.fr _ _ a1), fun p hp => ?_⟩
    exact q _ _ _ (k3.alloc hp) (ss.trans (same_upd (k3.fr.free hp))) (.lst upd_same (Da.mono (same_upd (k3.fr.free hp)) _ _ (b1.cut l u)))
  | tup a1 b1 =>
    cases e
    refine .inr (.inl ⟨_, _, rfl, SqT.of (k3.fr _ _ a1), fun w => ?_, fun w p hp => ?_⟩)
    · rw [cutD_whole b1 w] at q
      exact q F3 H3 _ k3 ss (.tup a1 b1)
    · exact q _ _ _ (k3.alloc hp) (ss.trans (same_upd (k3.fr.free hp))) (.tup upd_same (Da.mono (same_upd (k3.fr.free hp)) _ _ (b1.cut l u)))
  | str x =>
    dsimp only at e
    split at e
    · rename_i hf
      cases e
      exact .inr (.inr ⟨_, rfl, fits_line hf, q F3 H3 _ k3 ss (.str _)⟩)
    · cases e
  | _ => cases e
theorem xe_slice {p2 : Pos} {lo hi : Option Expr} {pl ph : Pf} (ha : XE X a fa) (hl : XP X lo pl) (hh : XP X hi ph) : XE X (.Subscript a (.Slice lo hi none p2) pos) (eSl fa pl ph) :=
  let ⟨_, h1, h2⟩ := ha.ex; let ⟨_, h3, h4⟩ := hl.ex; let ⟨_, h5, h6⟩ := hh.ex; ⟨_, pe_slice sl_any h1 h3 h5, re_slice (lo := lo) (hi := hi) h2 h4 h6⟩
/-- a slice of a list that is read only, or the def's own, by its name -/
def lSlV (i : Nat) (l h : Pf) : Lf := fun env => (eO i env).bind fun _ => (l env).bind fun q => (h q.2).bind fun w => (eO i w.2).bind fun r => match r.1 with
  | .list ds => some (cutD ds q.1 w.1, w.2)
  | _ => none
theorem xn_sliceV {x : Str} {p2 p3 : Pos} {lo hi : Option Expr} {pl ph : Pf} (i : Nat) (hl : XP X lo pl) (hh : XP X hi ph) (hN : X.N[i]? = some x := by rfl) (hv : Vis X.env.scope x := by first | exact Or.inl rfl | exact Or.inr (Or.inl rfl) | exact Or.inr (Or.inr rfl))
    (hd : (x == ("__debug__" : Str)) = false := by decide) (hcd : (x == ("__classdict__" : Str)) = false := by decide) : XN X (.Subscript (.Name x p3) (.Slice lo hi none p2) pos) (lSlV i pl ph) := by
  obtain ⟨tl, h3, h4⟩ := hl.ex
  obtain ⟨th, h5, h6⟩ := hh.ex
  refine ⟨_, pe_slice sl_list (pe_var hN hv hd hcd) h3 h5, fun G F env s H d env' k e Q q => ?_⟩
  unfold lSlV at e
  obtain ⟨⟨c0, e0⟩, h0, e⟩ := Option.bind_eq_some_iff.mp e
  obtain ⟨⟨l, e2⟩, h8, e⟩ := Option.bind_eq_some_iff.mp e
  obtain ⟨⟨u, e3⟩, h9, e⟩ := Option.bind_eq_some_iff.mp e
  obtain ⟨⟨c, e4⟩, h7, e⟩ := Option.bind_eq_some_iff.mp e
  obtain ⟨v, hv0, _⟩ := dq_slot k h0
  refine ⟨v, hv0, ?_⟩
  refine h4 G F env s H l e2 k h8 _ fun F2 H2 k2 s2 => ?_
  refine h6 G F2 e2 s H2 u e3 k2 h9 _ fun F3 H3 k3 s3 => ?_
  obtain ⟨v', hv', hq⟩ := dq_slot k3 h7
  rw [hv0] at hv'
  cases hv'
  dsimp only at e
  split at e
  · rename_i ds
    cases e
    obtain ⟨p, vs, rfl, h10, h11⟩ := hq.list k3.fr
    refine ⟨p, vs, rfl, h10, fun p' hp => ?_⟩
    exact q F3 _ p' _ (k3.laid hp) (s2.trans s3) upd_same (k3.fr.free hp) (k3.dom p' hp) (k3.pin.free hp) (k3.notown hp) (h11.cut l u)
  · cases e
end
end M

namespace M
open PySem PySem.Spec PyProof.Rows L2

/-! ### arguments of a def: values, or the caller's own lists by their slots (i: to be changed, or read only) -/
inductive Ar where
  | v (d : D) | r (i : Nat) | o (i : Nat)
abbrev Af := En → Option (List Ar × En)
inductive ArOk (F : Hp) (s : L2.St) : Ar → V → Prop
  | v {d : D} {v : V} (h : Dt F v d) : ArOk F s (.v d) v
  | r {i : Nat} {v : V} (h : s[i]? = some (some v)) : ArOk F s (.r i) v
  | o {i : Nat} {v : V} (h : s[i]? = some (some v)) : ArOk F s (.o i) v
inductive ArsOk (F : Hp) (s : L2.St) : List Ar → List V → Prop
  | nil : ArsOk F s [] []
  | cons {a : Ar} {as : List Ar} {v : V} {vs : List V} (h : ArOk F s a v) (t : ArsOk F s as vs) : ArsOk F s (a :: as) (v :: vs)
theorem ArOk.mono {F F' : Hp} {s : L2.St} {a : Ar} {v : V} (e : Same F F') (h : ArOk F s a v) : ArOk F' s a v := by
  cases h with
  | v h => exact .v (Dt.mono e _ _ h)
  | r h => exact .r h
  | o h => exact .o h
theorem ArsOk.length {F : Hp} {s : L2.St} : ∀ {as : List Ar} {vs : List V}, ArsOk F s as vs → vs.length = as.length
  | [], _, h => by cases h; rfl
  | a :: as, _, h => by cases h with | cons h t => simp [ArsOk.length t]
theorem ArsOk.get {F : Hp} {s : L2.St} : ∀ {as : List Ar} {vs : List V} {j : Nat} {a : Ar}, ArsOk F s as vs → as[j]? = some a → ∃ v, vs[j]? = some v ∧ ArOk F s a v
  | [], _, _, _, _, e => by simp at e
  | a :: as, _, 0, _, h, e => by cases h with | cons h t => simp at e; subst e; exact ⟨_, rfl, h⟩
  | a :: as, _, j + 1, _, h, e => by
    cases h with
    | cons h t =>
      obtain ⟨v, h1, h2⟩ := ArsOk.get (j := j) t (by simpa using e)
      exact ⟨v, by simpa using h1, h2⟩
def RA (K : Frg) (t : TA) (f : Af) : Prop := ∀ G F env s H as env', Ok K G F env s H → f env = some (as, env') → ∀ Q : List V → Hp → Prop, (∀ F' H' vs, Ok K G F' env' s H' → Same F F' → ArsOk F' s as vs → Q vs H') → t s H Q
structure XA (X : Cx) (es : List Expr) (f : Af) : Prop where
  ex : ∃ t, PA X es t ∧ RA X.K t f
def aNil : Af := fun env => some ([], env)
def aV (f : Ef) (g : Af) : Af := fun env => (f env).bind fun r => (g r.2).map fun q => (.v r.1 :: q.1, q.2)
def aR (i : Nat) (g : Af) : Af := fun env => (eO i env).bind fun _ => (g env).map fun q => (.r i :: q.1, q.2)
def aO (i : Nat) (g : Af) : Af := fun env => (eO i env).bind fun _ => (g env).map fun q => (.o i :: q.1, q.2)
section
variable {X : Cx} {e : Expr} {es : List Expr} {f : Ef} {g : Af} {pos : Pos}
theorem xa_nil : XA X [] aNil := ⟨_, pa_nil, fun G F env s H d env' k e Q q => by cases e; exact q F H [] k (Same.refl F) .nil⟩
theorem xa_v (ha : XE X e f) (hr : XA X es g) (hs : starEach (e :: es) X.env = (false, eval e X.env) :: starEach es X.env := by rfl) : XA X (e :: es) (aV f g) := by
  obtain ⟨ta, h1, h2⟩ := ha.ex
  obtain ⟨tr, h3, h4⟩ := hr.ex
  refine ⟨_, pa_cons h1 h3 hs, fun G F env s H as env' k e Q q => ?_⟩
  unfold aV at e
  obtain ⟨⟨d1, e1⟩, h5, e⟩ := Option.bind_eq_some_iff.mp e
  obtain ⟨⟨r, e2⟩, h6, e⟩ := Option.map_eq_some_iff.mp e
  cases e
  refine h2 G F env s H d1 e1 k h5 _ fun F1 H1 v k1 s1 p1 => ?_
  refine h4 G F1 e1 s H1 r _ k1 h6 _ fun F2 H2 vs k2 s2 p2 => ?_
  exact q F2 H2 _ k2 (s1.trans s2) (.cons (.v (Dt.mono s2 d1 v p1)) p2)
theorem xa_r (i : Nat) {x : Str} (hr : XA X es g) (hN : X.N[i]? = some x := by rfl) (hv : Vis X.env.scope x := by first | exact Or.inl rfl | exact Or.inr (Or.inl rfl) | exact Or.inr (Or.inr rfl)) (hd : (x == ("__debug__" : Str)) = false := by decide)
    (hcd : (x == ("__classdict__" : Str)) = false := by decide) (hs : starEach (.Name x pos :: es) X.env = (false, eval (.Name x pos) X.env) :: starEach es X.env := by rfl) : XA X (.Name x pos :: es) (aR i g) := by
  obtain ⟨tr, h3, h4⟩ := hr.ex
  refine ⟨_, pa_cons (pe_var hN hv hd hcd) h3 hs, fun G F env s H as env' k e Q q => ?_⟩
  unfold aR at e
  obtain ⟨⟨d1, e1⟩, h5, e⟩ := Option.bind_eq_some_iff.mp e
  obtain ⟨⟨r, e2⟩, h6, e⟩ := Option.map_eq_some_iff.mp e
  cases e
  obtain ⟨v, h7, _⟩ := dq_slot k h5
  refine ⟨v, h7, ?_⟩
  exact h4 G F env s H r _ k h6 _ fun F2 H2 vs k2 s2 p2 => q F2 H2 _ k2 s2 (.cons (.r h7) p2)
theorem xa_o (i : Nat) {x : Str} (hr : XA X es g) (hN : X.N[i]? = some x := by rfl) (hv : Vis X.env.scope x := by first | exact Or.inl rfl | exact Or.inr (Or.inl rfl) | exact Or.inr (Or.inr rfl)) (hd : (x == ("__debug__" : Str)) = false := by decide)
    (hcd : (x == ("__classdict__" : Str)) = false := by decide) (hs : starEach (.Name x pos :: es) X.env = (false, eval (.Name x pos) X.env) :: starEach es X.env := by rfl) : XA X (.Name x pos :: es) (aO i g) := by
  obtain ⟨tr, h3, h4⟩ := hr.ex
  refine ⟨_, pa_cons (pe_var hN hv hd hcd) h3 hs, fun G F env s H as env' k e Q q => ?_⟩
  unfold aO at e
  obtain ⟨⟨d1, e1⟩, h5, e⟩ := Option.bind_eq_some_iff.mp e
  obtain ⟨⟨r, e2⟩, h6, e⟩ := Option.map_eq_some_iff.mp e
  cases e
  obtain ⟨v, h7, _⟩ := dq_slot k h5
  refine ⟨v, h7, ?_⟩
  exact h4 G F env s H r _ k h6 _ fun F2 H2 vs k2 s2 p2 => q F2 H2 _ k2 s2 (.cons (.o h7) p2)
end

/-! ### what a def does: arguments in, a value and the lists handed in to be changed out -/
abbrev Gf := List Sl → Option (D × List Sl)
open Classical in
/-- the heap without the lists handed in to be changed -/
noncomputable def minus (H : Hp) (args : List Sl) (vs : List V) : Hp := fun a => if (∃ (j : Nat) (l : Bool) (es : List D), args[j]? = some (.own l es) ∧ vs[j]? = some (.ref a)) then none else H a
theorem minus_some {H : Hp} {args : List Sl} {vs : List V} {a : Addr} {o : HO} (h : H a = some o) (n : ∀ (j : Nat) l es, args[j]? = some (.own l es) → vs[j]? ≠ some (.ref a)) : minus H args vs a = some o := by
  unfold minus
  rw [if_neg fun ⟨j, l, es, h1, h2⟩ => n j l es h1 h2]
  exact h
theorem minus_of {H : Hp} {args : List Sl} {vs : List V} {a : Addr} {o : HO} (h : minus H args vs a = some o) : H a = some o ∧ ∀ (j : Nat) l es, args[j]? = some (.own l es) → vs[j]? ≠ some (.ref a) := by
  unfold minus at h
  split at h
  · cases h
  · rename_i n
    exact ⟨h, fun j l es h1 h2 => n ⟨j, l, es, h1, h2⟩⟩
structure ArgsOk (K : Frg) (F H : Hp) (args : List Sl) (vs : List V) : Prop where
  len : vs.length = args.length
  val : ∀ (i : Nat) d, args[i]? = some (.val d) → ∃ v, vs[i]? = some v ∧ Dt F v d
  own : ∀ (i : Nat) l ds, args[i]? = some (.own l ds) → l = false ∧ ∃ a us, vs[i]? = some (.ref a) ∧ H a = some (.lst us) ∧ F a = none ∧ Da F us ds
  ro : ∀ (i : Nat) ds, args[i]? = some (.ro ds) → ∃ a us, vs[i]? = some (.ref a) ∧ SqL K (minus H args vs) a us ∧ Da F us ds
  sep : ∀ (i j : Nat) l ds m es, args[i]? = some (.own l ds) → args[j]? = some (.own m es) → vs[i]? = vs[j]? → i = j
  dct : ∀ (i : Nat) w kvs, args[i]? ≠ some (.dct w kvs)
structure Post (F H F' H' : Hp) (args args' : List Sl) (vs : List V) (v : V) (d : D) : Prop where
  keep : Same (minus H args vs) H'
  dom : ∀ a, H' a = none → H a = none
  grow : Same F F'
  fr : Same F' H'
  new : ∀ a o, F' a = some o → F a = some o ∨ H a = none
  res : Dt F' v d
  own : ∀ (i : Nat) l ds, args[i]? = some (.own l ds) → ∀ ds', args'[i]? = some (.own false ds') → ∀ a, vs[i]? = some (.ref a) → ∃ us, H' a = some (.lst us) ∧ F' a = none ∧ Da F' us ds'
def spF (K : Frg) (g : Gf) : Sp := fun vs H Q _ => ∃ F args d args', g args = some (d, args') ∧ Same F H ∧ ArgsOk K F H args vs ∧ ∀ F' H' v, Post F H F' H' args args' vs v d → Q v H'

def resAr (env : En) : Ar → Option Sl
  | .v d => some (.val d)
  | .r i => match env[i]? with
    | some (.own _ ds) => some (.own false ds)
    | _ => none
  | .o i => match env[i]? with
    | some (.own _ ds) => some (.ro ds)
    | some (.ro ds) => some (.ro ds)
    | some (.val (.list ds)) => some (.ro ds)
    | _ => none
def resArs (env : En) : List Ar → Option (List Sl)
  | [] => some []
  | a :: as => (resAr env a).bind fun x => (resArs env as).map fun r => x :: r
/-- at most one slot is handed in to be changed, and it isn't handed in to be read besides -/
def rSlots : List Ar → List Nat
  | [] => []
  | .r i :: as => i :: rSlots as
  | .v _ :: as => rSlots as
  | .o _ :: as => rSlots as
def oSlots : List Ar → List Nat
  | [] => []
  | .o i :: as => i :: oSlots as
  | .v _ :: as => oSlots as
  | .r _ :: as => oSlots as
def backAr (env : En) : List Ar → List Sl → Option En
  | [], _ => some env
  | .r i :: as, x :: xs => match x, env[i]? with
    | .own false ds, some (.own l _) => backAr (env.set i (.own l ds)) as xs
    | _, _ => none
  | _ :: as, _ :: xs => backAr env as xs
  | _ :: _, [] => none
def eCall (g : Gf) (fa : Af) : Ef := fun env => (fa env).bind fun r =>
  match rSlots r.1 with
  | [] => (resArs r.2 r.1).bind fun args => (g args).map fun q => (q.1, r.2)
  | [i] => if (oSlots r.1).contains i then none else (resArs r.2 r.1).bind fun args => (g args).bind fun q => (backAr r.2 r.1 q.2).map fun env' => (q.1, env')
  | _ => none
theorem resArs_get {env : En} : ∀ {as : List Ar} {xs : List Sl} {j : Nat} {x : Sl}, resArs env as = some xs → xs[j]? = some x → ∃ a, as[j]? = some a ∧ resAr env a = some x
  | [], xs, j, x, h, e => by cases h; simp at e
  | a :: as, xs, j, x, h, e => by
    unfold resArs at h
    obtain ⟨y, h1, h⟩ := Option.bind_eq_some_iff.mp h
    obtain ⟨r, h2, h⟩ := Option.map_eq_some_iff.mp h
    subst h
    cases j with
    | zero => simp at e; subst e; exact ⟨a, rfl, h1⟩
    | succ j =>
      obtain ⟨b, h3, h4⟩ := resArs_get (j := j) h2 (by simpa using e)
      exact ⟨b, by simpa using h3, h4⟩
theorem resArs_length {env : En} : ∀ {as : List Ar} {xs : List Sl}, resArs env as = some xs → xs.length = as.length
  | [], xs, h => by cases h; rfl
  | a :: as, xs, h => by
    unfold resArs at h
    obtain ⟨y, h1, h⟩ := Option.bind_eq_some_iff.mp h
    obtain ⟨r, h2, h⟩ := Option.map_eq_some_iff.mp h
    subst h
    simp [resArs_length h2]
theorem resArs_get2 {env : En} : ∀ {as : List Ar} {xs : List Sl} {j : Nat} {a : Ar}, resArs env as = some xs → as[j]? = some a → ∃ x, xs[j]? = some x ∧ resAr env a = some x
  | [], xs, j, x, h, e => by simp at e
  | a :: as, xs, j, b, h, e => by
    unfold resArs at h
    obtain ⟨y, h1, h⟩ := Option.bind_eq_some_iff.mp h
    obtain ⟨r, h2, h⟩ := Option.map_eq_some_iff.mp h
    subst h
    cases j with
    | zero => simp at e; subst e; exact ⟨y, rfl, h1⟩
    | succ j =>
      obtain ⟨b, h3, h4⟩ := resArs_get2 (j := j) h2 (by simpa using e)
      exact ⟨b, by simpa using h3, h4⟩
theorem rSlots_mem : ∀ {as : List Ar} {j i : Nat}, as[j]? = some (.r i) → i ∈ rSlots as
  | [], j, i, e => by simp at e
  | a :: as, 0, i, e => by simp at e; subst e; simp [rSlots]
  | a :: as, j + 1, i, e => by
    have h := rSlots_mem (as := as) (j := j) (i := i) (by simpa using e)
    cases a <;> simp [rSlots, h]
theorem oSlots_mem : ∀ {as : List Ar} {j i : Nat}, as[j]? = some (.o i) → i ∈ oSlots as
  | [], j, i, e => by simp at e
  | a :: as, 0, i, e => by simp at e; subst e; simp [oSlots]
  | a :: as, j + 1, i, e => by
    have h := oSlots_mem (as := as) (j := j) (i := i) (by simpa using e)
    cases a <;> simp [oSlots, h]
theorem rSlots_one : ∀ {as : List Ar} {i : Nat}, rSlots as = [i] → ∀ (j j' : Nat), as[j]? = some (.r i) → as[j']? = some (.r i) → j = j'
  | [], i, h, _, _, _, _ => by cases h
  | .v d :: as, i, h, 0, _, e, _ => by simp at e
  | .o d :: as, i, h, 0, _, e, _ => by simp at e
  | .v d :: as, i, h, _ + 1, 0, _, e => by simp at e
  | .o d :: as, i, h, _ + 1, 0, _, e => by simp at e
  | .v d :: as, i, h, j + 1, j' + 1, e, e' => by rw [rSlots_one (as := as) h j j' (by simpa using e) (by simpa using e')]
  | .o d :: as, i, h, j + 1, j' + 1, e, e' => by rw [rSlots_one (as := as) h j j' (by simpa using e) (by simpa using e')]
  | .r k :: as, i, h, j, j', e, e' => by
    have h0 : rSlots as = [] := by simp [rSlots] at h; exact h.2
    cases j with
    | zero =>
      cases j' with
      | zero => rfl
      | succ j' =>
        have := rSlots_mem (as := as) (j := j') (i := i) (by simpa using e')
        rw [h0] at this; cases this
    | succ j =>
      have := rSlots_mem (as := as) (j := j) (i := i) (by simpa using e)
      rw [h0] at this; cases this
/-- writing back: only the slot handed in -/
theorem backAr_one : ∀ {as : List Ar} {xs : List Sl} {env env' : En} {i : Nat}, rSlots as = [i] → backAr env as xs = some env' → ∃ (j : Nat) (l : Bool) (ds es : List D), as[j]? = some (.r i) ∧ xs[j]? = some (.own false ds) ∧ env[i]? = some (.own l es) ∧ env' = env.set i (.own l ds)
  | [], _, _, _, _, h, _ => by cases h
  | .v d :: as, [], _, _, _, h, e => by simp [backAr] at e
  | .o d :: as, [], _, _, _, h, e => by simp [backAr] at e
  | .r d :: as, [], _, _, _, h, e => by simp [backAr] at e
  | .v d :: as, x :: xs, env, env', i, h, e => by
    obtain ⟨j, l, ds, es, h1, h2, h3, h4⟩ := backAr_one (as := as) (xs := xs) (env := env) h (by simpa [backAr] using e)
    exact ⟨j + 1, l, ds, es, by simpa using h1, by simpa using h2, h3, h4⟩
  | .o d :: as, x :: xs, env, env', i, h, e => by
    obtain ⟨j, l, ds, es, h1, h2, h3, h4⟩ := backAr_one (as := as) (xs := xs) (env := env) h (by simpa [backAr] using e)
    exact ⟨j + 1, l, ds, es, by simpa using h1, by simpa using h2, h3, h4⟩
  | .r k :: as, x :: xs, env, env', i, h, e => by
    have h0 : rSlots as = [] ∧ k = i := by simp [rSlots] at h; exact ⟨h.2, h.1⟩
    obtain ⟨h0, rfl⟩ := h0
    have key : ∀ (as : List Ar) (xs : List Sl) (env env' : En), rSlots as = [] → backAr env as xs = some env' → env' = env := by
      intro as
      induction as with
      | nil => intro xs env env' _ e; simp [backAr] at e; exact e.symm
      | cons a as ih =>
        intro xs env env' h e
        cases a with
        | v d => cases xs with
          | nil => simp [backAr] at e
          | cons x xs => exact ih xs env env' h (by simpa [backAr] using e)
        | o d => cases xs with
          | nil => simp [backAr] at e
          | cons x xs => exact ih xs env env' h (by simpa [backAr] using e)
        | r i => simp [rSlots] at h
    unfold backAr at e
    split at e
    · rename_i ds l es h1
      have e2 := key _ _ _ _ h0 e
      exact ⟨0, l, ds, es, rfl, rfl, h1, e2⟩
    · cases e

theorem resAr_val {env : En} {a : Ar} {d : D} (h : resAr env a = some (.val d)) : a = .v d := by
  cases a with
  | v d' => simp [resAr] at h; rw [h]
  | r i => simp only [resAr] at h; split at h <;> cases h
  | o i => simp only [resAr] at h; split at h <;> cases h
theorem resAr_own {env : En} {a : Ar} {l : Bool} {ds : List D} (h : resAr env a = some (.own l ds)) : l = false ∧ ∃ i m, a = .r i ∧ env[i]? = some (.own m ds) := by
  cases a with
  | v d' => simp [resAr] at h
  | r i =>
    simp only [resAr] at h
    split at h
    · rename_i m es e
      cases h
      exact ⟨rfl, i, m, rfl, e⟩
    · cases h
  | o i => simp only [resAr] at h; split at h <;> cases h
theorem resAr_ro {env : En} {a : Ar} {ds : List D} (h : resAr env a = some (.ro ds)) : ∃ i, a = .o i ∧ ((∃ m, env[i]? = some (.own m ds)) ∨ env[i]? = some (.ro ds) ∨ env[i]? = some (.val (.list ds))) := by
  cases a with
  | v d' => simp [resAr] at h
  | r i => simp only [resAr] at h; split at h <;> cases h
  | o i =>
    simp only [resAr] at h
    split at h
    · rename_i m es e
      cases h
      exact ⟨i, rfl, .inl ⟨_, e⟩⟩
    · rename_i es e
      cases h
      exact ⟨i, rfl, .inr (.inl e)⟩
    · rename_i es e
      cases h
      exact ⟨i, rfl, .inr (.inr e)⟩
    · cases h
theorem resAr_dct {env : En} {a : Ar} {w : World} {kvs : List (D × D)} : resAr env a ≠ some (.dct w kvs) := fun h => by
  cases a with
  | v d' => simp [resAr] at h
  | r i => simp only [resAr] at h; split at h <;> cases h
  | o i => simp only [resAr] at h; split at h <;> cases h
section
variable {K : Frg} {G : Gm} {F F' : Hp} {env : En} {s : L2.St} {H H' : Hp} {as : List Ar} {vs : List V} {args args' : List Sl} {v : V} {d : D}
theorem own_arg (k : Ok K G F env s H) (p : ArsOk F s as vs) (hr : resArs env as = some args) {j : Nat} {l : Bool} {ds : List D} (h : args[j]? = some (.own l ds)) :
    l = false ∧ ∃ i m, i ∈ rSlots as ∧ as[j]? = some (.r i) ∧ env[i]? = some (.own m ds) ∧ ∃ x, vs[j]? = some x ∧ s[i]? = some (some x) := by
  obtain ⟨a, h1, h2⟩ := resArs_get hr h
  obtain ⟨e, i, m, rfl, h3⟩ := resAr_own h2
  obtain ⟨x, h4, h5⟩ := p.get h1
  cases h5 with
  | r h5 => exact ⟨e, i, m, rSlots_mem h1, h1, h3, x, h4, h5⟩
/-- an object that is none of the slots handed in -/
theorem minus_slot (k : Ok K G F env s H) (p : ArsOk F s as vs) (hr : resArs env as = some args) {a : Addr} {o : HO} (h : H a = some o) (n : ∀ i ∈ rSlots as, ∀ m ds, env[i]? = some (.own m ds) → s[i]? ≠ some (some (.ref a))) : minus H args vs a = some o :=
  minus_some h fun j l es h1 h2 => by
    obtain ⟨_, i, m, hi, _, h3, x, h4, h5⟩ := own_arg k p hr h1
    rw [h2] at h4
    cases h4
    exact n i hi m es h3 h5
theorem minus_pin (k : Ok K G F env s H) (p : ArsOk F s as vs) (hr : resArs env as = some args) : Same G.P (minus H args vs) := fun a o e =>
  minus_slot k p hr (k.pin a o e) fun i _ m ds h1 h2 => by
    obtain ⟨b, us, h3, _, _, h4, _⟩ := k.own i m ds h1
    rw [h2] at h3
    cases h3
    rw [h4] at e; cases e
theorem minus_fr (k : Ok K G F env s H) (p : ArsOk F s as vs) (hr : resArs env as = some args) : Same F (minus H args vs) := fun a o e =>
  minus_slot k p hr (k.fr a o e) fun i _ m ds h1 h2 => by
    obtain ⟨b, us, h3, _, h4, _⟩ := k.own i m ds h1
    rw [h2] at h3
    cases h3
    rw [h4] at e; cases e
theorem args_ok (k : Ok K G F env s H) (p : ArsOk F s as vs) (hr : resArs env as = some args) (h1 : ∀ i ∈ rSlots as, i ∉ oSlots as) (h2 : ∀ i ∈ rSlots as, ∀ (j j' : Nat), as[j]? = some (.r i) → as[j']? = some (.r i) → j = j') : ArgsOk K F H args vs where
  len := by rw [p.length, resArs_length hr]
  val := fun i d e => by
    obtain ⟨a, h3, h4⟩ := resArs_get hr e
    have h5 := resAr_val h4
    subst h5
    obtain ⟨x, h6, h7⟩ := p.get h3
    cases h7 with
    | v h7 => exact ⟨x, h6, h7⟩
  own := fun j l ds e => by
    obtain ⟨e1, i, m, hi, h3, h4, x, h5, h6⟩ := own_arg k p hr e
    obtain ⟨a, us, h7, h8, h9, _, h10, _⟩ := k.own i m ds h4
    rw [h6] at h7
    cases h7
    exact ⟨e1, a, us, h5, h8, h9, h10⟩
  ro := fun j ds e => by
    obtain ⟨a, h3, h4⟩ := resArs_get hr e
    obtain ⟨i, rfl, h5⟩ := resAr_ro h4
    obtain ⟨x, h6, h7⟩ := p.get h3
    cases h7 with
    | o h7 =>
      rcases h5 with ⟨m, h5⟩ | h5 | h5
      · obtain ⟨a, us, h8, h9, h10, _, h11, _⟩ := k.own i m ds h5
        rw [h7] at h8
        cases h8
        refine ⟨a, us, h6, SqL.of (minus_slot k p hr h9 fun i' hi' m' ds' g1 g2 => ?_), h11⟩
        have e2 := k.sep i' i m' ds' m ds g1 h5 (g2.trans h7.symm)
        subst e2
        exact h1 i' hi' (oSlots_mem h3)
      · obtain ⟨a, us, h8, h9, h10⟩ := k.ro i ds h5
        rw [h7] at h8
        cases h8
        exact ⟨a, us, h6, (k.rin.trans (minus_pin k p hr)).seq h9, h10⟩
      · obtain ⟨y, h8, h9⟩ := k.val i _ h5
        rw [h7] at h8
        cases h8
        cases h9 with
        | lst a1 b1 => exact ⟨_, _, h6, SqL.of (minus_fr k p hr _ _ a1), b1⟩
  sep := fun i j l ds m es h3 h4 h5 => by
    obtain ⟨_, i1, m1, hi1, g1, g2, x1, g3, g4⟩ := own_arg k p hr h3
    obtain ⟨_, i2, m2, hi2, q1, q2, x2, q3, q4⟩ := own_arg k p hr h4
    rw [g3, q3] at h5
    cases h5
    have e2 := k.sep i1 i2 _ _ _ _ g2 q2 (g4.trans q4.symm)
    subst e2
    exact h2 i1 hi1 i j g1 q1
  dct := fun i w kvs e => by
    obtain ⟨a, h3, h4⟩ := resArs_get hr e
    exact resAr_dct h4
/-- behind the call -/
theorem ok_after (k : Ok K G F env s H) (p : ArsOk F s as vs) (hr : resArs env as = some args) (q : Post F H F' H' args args' vs v d) {env' : En} (hl : env'.length = env.length)
    (he : ∀ (j : Nat), env'[j]? = env[j]? ∨ (∃ (m : Nat) (l : Bool) (ds es : List D), as[m]? = some (.r j) ∧ args'[m]? = some (.own false ds) ∧ env[j]? = some (.own l es) ∧ env'[j]? = some (.own l ds))) (hn : ∀ i ∈ rSlots as, ∀ (j : Nat), env'[j]? = env[j]? → (∃ (m : Nat) (l : Bool) (ds : List D), args'[m]? = some (.own false ds) ∧ as[m]? = some (.r i) ∧ env'[i]? = some (.own l ds))) :
    Ok K G F' env' s H' := by
  have back : ∀ (j : Nat) l ds, env'[j]? = some (.own l ds) → ∃ es, env[j]? = some (.own l es) := fun j l ds e => by
    rcases he j with h | ⟨m, l', ds', es, _, _, h3, h4⟩
    · rw [h] at e; exact ⟨ds, e⟩
    · rw [h4] at e; cases e; exact ⟨es, h3⟩
  refine ⟨by rw [k.len, hl], q.fr, fun i d' e => ?_, fun i l ds e => ?_, fun i ds e => ?_, fun i j l ds m es e1 e2 e3 => ?_, fun a o e => q.keep a o (minus_pin k p hr a o e), fun a e => k.dom a (q.dom a e), k.grow.trans q.grow, fun a o e => ?_, k.rin, k.dct.move q.grow (fun i w kvs e => ⟨?_, rfl⟩) fun a es g1 g2 g3 g4 hx => ⟨?_, ?_, g3, g4⟩⟩
  · rcases he i with h | ⟨m, l', ds', es, _, _, h3, h4⟩
    · rw [h] at e
      obtain ⟨x, h1, h2⟩ := k.val i d' e
      exact ⟨x, h1, Dt.mono q.grow _ _ h2⟩
    · rw [h4] at e; cases e
  · by_cases hi : i ∈ rSlots as
    · have : ∃ (m : Nat) (ds' : List D), args'[m]? = some (.own false ds') ∧ as[m]? = some (.r i) ∧ env'[i]? = some (.own l ds') := by
        rcases he i with h | ⟨m, l', ds', es, g1, g2, g3, g4⟩
        · obtain ⟨m, l', ds', g1, g2, g3⟩ := hn i hi i h
          have : l' = l := by rw [e] at g3; cases g3; rfl
          subst this
          exact ⟨m, ds', g1, g2, g3⟩
        · have : l' = l := by rw [e] at g4; cases g4; rfl
          subst this
          exact ⟨m, ds', g2, g1, g4⟩
      obtain ⟨m, ds', g1, g2, g3⟩ := this
      rw [e] at g3
      cases g3
      obtain ⟨es, g4⟩ := back i l ds e
      obtain ⟨a, us, h1, h2, h3, h4, h5, h6⟩ := k.own i l es g4
      obtain ⟨x, g5, g6⟩ := resArs_get2 hr g2
      simp only [resAr, g4] at g6
      cases g6
      obtain ⟨y, g7, g8⟩ := p.get g2
      cases g8 with
      | r g8 =>
        rw [h1] at g8
        cases g8
        obtain ⟨us', h7, h8, h9⟩ := q.own m false es g5 ds g1 a g7
        exact ⟨a, us', h1, h7, h8, h4, h9, h6⟩
    · have e' : env[i]? = some (.own l ds) := by
        rcases he i with h | ⟨m, l', ds', es, g1, g2, g3, g4⟩
        · rw [← h]; exact e
        · exact absurd (rSlots_mem g1) hi
      obtain ⟨a, us, h1, h2, h3, h4, h5, h6⟩ := k.own i l ds e'
      refine ⟨a, us, h1, q.keep a _ (minus_slot k p hr h2 fun i' hi' m' ds' g1 g2 => ?_), ?_, h4, Da.mono q.grow _ _ h5, h6⟩
      · have e2 := k.sep i' i m' ds' l ds g1 e' (g2.trans h1.symm)
        subst e2
        exact hi hi'
      · cases hx : F' a with
        | none => rfl
        | some o =>
          rcases q.new a o hx with z | z
          · rw [h3] at z; cases z
          · rw [h2] at z; cases z
  · rcases he i with h | ⟨m, l', ds', es, _, _, h3, h4⟩
    · rw [h] at e
      obtain ⟨a, us, h1, h2, h3⟩ := k.ro i ds e
      exact ⟨a, us, h1, h2, Da.mono q.grow _ _ h3⟩
    · rw [h4] at e; cases e
  · obtain ⟨ds1, g1⟩ := back i l ds e1
    obtain ⟨ds2, g2⟩ := back j m es e2
    exact k.sep i j _ _ _ _ g1 g2 e3
  · rcases q.new a o e with z | z
    · exact k.new a o z
    · exact .inr (k.dom a z)
  · rcases he i with h | ⟨m, l', ds', es, _, _, h3, h4⟩
    · rw [← h]; exact e
    · rw [h4] at e; cases e
  · refine q.keep a _ (minus_slot k p hr g1 fun i' hi' m' ds' g5 g6 => ?_)
    obtain ⟨b, us, g7, g8, _⟩ := k.own i' m' ds' g5
    rw [g6] at g7
    cases g7
    rw [g1] at g8; cases g8
  · cases hx' : F' a with
    | none => rfl
    | some o =>
      rcases q.new a o hx' with z | z
      · rw [g2] at z; cases z
      · rw [g1] at z; cases z
theorem re_call {g : Gf} {fa : Af} {t : TA} {E : XK} (ha : RA K t fa) : RE K (tCall (spF K g) [] E t) (eCall g fa) := fun G F env s H d env' k e Q q => by
  unfold eCall at e
  obtain ⟨⟨as, e1⟩, h1, e⟩ := Option.bind_eq_some_iff.mp e
  refine ha G F env s H as e1 k h1 _ fun F1 H1 vs k1 s1 p1 => ?_
  rw [List.append_nil]
  dsimp only at e
  split at e
  · rename_i hrs
    obtain ⟨args, h2, e⟩ := Option.bind_eq_some_iff.mp e
    obtain ⟨⟨d', args'⟩, h3, e⟩ := Option.map_eq_some_iff.mp e
    cases e
    refine ⟨F1, args, d', args', h3, k1.fr, args_ok k1 p1 h2 (by rw [hrs]; intro i hi; cases hi) (by rw [hrs]; intro i hi; cases hi), fun F' H' v po => ?_⟩
    exact q F' H' v (ok_after k1 p1 h2 po rfl (fun j => .inl rfl) (by rw [hrs]; intro i hi; cases hi)) (s1.trans po.grow) po.res
  · rename_i i hrs
    split at e
    · cases e
    · rename_i hc
      obtain ⟨args, h2, e⟩ := Option.bind_eq_some_iff.mp e
      obtain ⟨⟨d', args'⟩, h3, e⟩ := Option.bind_eq_some_iff.mp e
      obtain ⟨env2, h4, e⟩ := Option.map_eq_some_iff.mp e
      cases e
      obtain ⟨j, l, ds, es, g1, g2, g3, g4⟩ := backAr_one hrs h4
      subst g4
      have hil : i < e1.length := (List.getElem?_eq_some_iff.mp g3).1
      refine ⟨F1, args, d', args', h3, k1.fr, args_ok k1 p1 h2 (by rw [hrs]; intro i' hi'; simp at hi'; subst hi'; intro hm; apply hc; simp [hm]) (by rw [hrs]; intro i' hi' j1 j2 q1 q2; simp at hi'; subst hi'; exact rSlots_one hrs j1 j2 q1 q2), fun F' H' v po => ?_⟩
      refine q F' H' v (ok_after k1 p1 h2 po (by simp) (fun j' => ?_) ?_) (s1.trans po.grow) po.res
      · by_cases hj : i = j'
        · subst hj
          exact .inr ⟨j, l, ds, es, g1, g2, g3, by rw [List.getElem?_set_self hil]⟩
        · exact .inl (List.getElem?_set_ne hj)
      · rw [hrs]
        intro i' hi' j' _
        simp at hi'
        subst hi'
        exact ⟨j, l, ds, g2, g1, by rw [List.getElem?_set_self hil]⟩
  · cases e
end
section
variable {X : Cx} {k : Nat} {fx : Addr} {fd : FuncData} {ps : List Str} {x : Str} {p pos : Pos} {e : Expr} {es : List Expr} {fa : Af} {g : Gf}
theorem xe_call (FF : FnOk X.prog X.w X.K X.mg X.base CX0 k fx fd ps (spF X.K g)) (hr : Room k X.A) (hm : X.mg x = some (.ref fx)) (hk : PySem.W.keepIn X.K (.ref fx) = true) (hb : Binds X.K fd ps []) (ha : XA X (e :: es) fa) (hg : Gl X x := by rfl)
    (hdb : (x == ("__debug__" : Str)) = false := by decide) (he : starEach (e :: es) X.env = (false, eval e X.env) :: starEach es X.env := by rfl) (hpl : (backTo pos (starEach es X.env)).any (·.1) = false := by rfl) :
    XE X (.Call (.Name x p) (e :: es) [] pos) (eCall g fa) :=
  let ⟨_, h1, h2⟩ := ha.ex; ⟨_, pe_call FF hr hg hm hk hb .nil pass0 h1 hdb he hpl, re_call h2⟩
/-! ### a built-in of one argument -/
def GC (K : Frg) (r : List V → Hp → VK → Prop) (g : D → Option D) : Prop := ∀ G F env s H x d z, Ok K G F env s H → Dq K F H x d → g d = some z → ∀ Q : VK, (∀ F' H' v, Ok K G F' env s H' → Same F F' → Dt F' v z → Q v H') → r [x] H Q
def GCN (K : Frg) (r : List V → Hp → VK → Prop) (g : D → Option (List D)) : Prop := ∀ G F env s H x d z, Ok K G F env s H → Dq K F H x d → g d = some z → ∀ Q : VK,
  (∀ F' H' p vs, Ok K G F' env s H' → Same F F' → H' p = some (.lst vs) → F' p = none → G.H0 p = none → G.P p = none → (∀ (j : Nat) l es, env[j]? = some (.own l es) → s[j]? ≠ some (some (.ref p))) → Da F' vs z → Q (.ref p) H') → r [x] H Q
def lUn (g : D → Option (List D)) (fa : Ef) : Lf := fun env => (fa env).bind fun r => (g r.1).map fun d => (d, r.2)
variable {f fb : Ef} {K : Frg}
theorem re_cb {r : List V → Hp → VK → Prop} {g : D → Option D} {ta : TE} (ho : GC K r g) (ha : RO K ta f) : RE K (tCB r (tCons ta tNil)) (eUn g f) := fun G F env s H d env' k e Q q => by
  obtain ⟨d1, h1, h3⟩ := un_some e
  refine ha G F env s H d1 env' k h1 _ fun F1 H1 v1 k1 s1 p1 => ?_
  exact ho G F1 env' s H1 v1 d1 d k1 p1 h3 Q fun F3 H3 v3 k3 s3 p3 => q F3 H3 v3 k3 (s1.trans s3) p3
theorem rn_cb {r : List V → Hp → VK → Prop} {g : D → Option (List D)} {ta : TE} (ho : GCN K r g) (ha : RO K ta f) : RN K (tCB r (tCons ta tNil)) (lUn g f) := fun G F env s H d env' k e Q q => by
  unfold lUn at e
  obtain ⟨⟨d1, e1⟩, h1, e⟩ := Option.bind_eq_some_iff.mp e
  obtain ⟨z, h3, e⟩ := Option.map_eq_some_iff.mp e
  cases e
  refine ha G F env s H d1 e1 k h1 _ fun F1 H1 v1 k1 s1 p1 => ?_
  exact ho G F1 e1 s H1 v1 d1 d k1 p1 h3 Q fun F3 H3 p vs k3 s3 p3 => q F3 H3 p vs k3 (s1.trans s3) p3
section
variable {id T : String} {r : List V → Hp → VK → Prop}
theorem xe_cbB {g : D → Option D} (hc : CallR X (.builtin id) r) (hv : bootBuiltins x = some (.builtin id)) (ho : GC X.K r g) (hm : X.mg x = none) (ha : XO X e f) (hg : Gl X x := by rfl) (hn : x ≠ "__name__" := by decide) (hdb : (x == ("__debug__" : Str)) = false := by decide)
    (he : starEach [e] X.env = (false, eval e X.env) :: starEach [] X.env := by rfl) (hpl : (backTo pos (starEach [] X.env)).any (·.1) = false := by rfl) : XE X (.Call (.Name x p) [e] [] pos) (eUn g f) :=
  let ⟨_, h1, h2⟩ := ha.ex; ⟨_, pe_callB hc hg hm hv (pa_cons h1 pa_nil he) hn hdb he hpl, re_cb ho h2⟩
theorem xe_cbT {g : D → Option D} (hc : CallR X (.type T) r) (hv : bootBuiltins x = some (.type T)) (ho : GC X.K r g) (hm : X.mg x = none) (ha : XO X e f) (hg : Gl X x := by rfl) (hn : x ≠ "__name__" := by decide) (hdb : (x == ("__debug__" : Str)) = false := by decide)
    (he : starEach [e] X.env = (false, eval e X.env) :: starEach [] X.env := by rfl) (hpl : (backTo pos (starEach [] X.env)).any (·.1) = false := by rfl) : XE X (.Call (.Name x p) [e] [] pos) (eUn g f) :=
  let ⟨_, h1, h2⟩ := ha.ex; ⟨_, pe_callTy hc hg hm hv (pa_cons h1 pa_nil he) hn hdb he hpl, re_cb ho h2⟩
theorem xn_cbB {g : D → Option (List D)} (hc : CallR X (.builtin id) r) (hv : bootBuiltins x = some (.builtin id)) (ho : GCN X.K r g) (hm : X.mg x = none) (ha : XO X e f) (hg : Gl X x := by rfl) (hn : x ≠ "__name__" := by decide) (hdb : (x == ("__debug__" : Str)) = false := by decide)
    (he : starEach [e] X.env = (false, eval e X.env) :: starEach [] X.env := by rfl) (hpl : (backTo pos (starEach [] X.env)).any (·.1) = false := by rfl) : XN X (.Call (.Name x p) [e] [] pos) (lUn g f) :=
  let ⟨_, h1, h2⟩ := ha.ex; ⟨_, pe_callB hc hg hm hv (pa_cons h1 pa_nil he) hn hdb he hpl, rn_cb ho h2⟩
end
end
end M

namespace M
open PySem PySem.Spec PyProof.Rows L2

inductive Out where
  | nx (env : En) | rt (d : D) (env : En) | rn (ds : List D) (env : En) | rp (as ds : List D) (env : En)
/-- a new tuple that ends in a new list, both nobody's yet -/
structure NewT (G : Gm) (F H : Hp) (env : En) (s : L2.St) (t p : Addr) (vs us : List V) (as ds : List D) : Prop where
  ht : H t = some (.tup (vs ++ [.ref p]))
  ft : F t = none
  t0 : G.H0 t = none
  tP : G.P t = none
  hp : H p = some (.lst us)
  fp : F p = none
  p0 : G.H0 p = none
  pP : G.P p = none
  pn : ∀ (j : Nat) l es, env[j]? = some (.own l es) → s[j]? ≠ some (some (.ref p))
  da : Da F vs as
  du : Da F us ds
/-- both frozen -/
theorem NewT.frz {K : Frg} {G : Gm} {F H : Hp} {env : En} {s : L2.St} {t p : Addr} {vs us : List V} {as ds : List D} (n : NewT G F H env s t p vs us as ds) (k : Ok K G F env s H) : ∃ F', Ok K G F' env s H ∧ Same F F' ∧ Dt F' (.ref t) (.tuple (as ++ [.list ds])) ∧ F' t = some (.tup (vs ++ [.ref p])) ∧ F' p = some (.lst us) := by
  have k1 := k.freeze n.hp n.fp n.p0 n.pn (k.notdctL n.hp)
  have ne : t ≠ p := fun e => by have := n.ht; rw [e, n.hp] at this; cases this
  have f1 : upd F p (.lst us) t = none := by rw [upd_ne ne]; exact n.ft
  have k2 := k1.freeze n.ht f1 n.t0 (fun j l es e z => by
    obtain ⟨a, ws, h1, h2, _⟩ := k.own j l es e
    rw [z] at h1; cases h1
    rw [n.ht] at h2; cases h2) (k1.notdctT n.ht)
  have s1 : Same F (upd F p (.lst us)) := same_upd n.fp
  have s2 : Same (upd F p (.lst us)) (upd (upd F p (.lst us)) t (.tup (vs ++ [.ref p]))) := same_upd f1
  exact ⟨_, k2, s1.trans s2, .tup upd_same ((Da.mono (s1.trans s2) _ _ n.da).append (.cons (.lst (s2 _ _ upd_same) (Da.mono (s1.trans s2) _ _ n.du)) .nil)), upd_same, s2 _ _ upd_same⟩
abbrev Sf := En → Option Out
def RSx (K : Frg) (G : Gm) (F : Hp) (E : Ends) : Out → Prop
  | .nx env => ∀ F' s' H', Ok K G F' env s' H' → Same F F' → E.nx s' H'
  | .rt d env => ∀ F' s' H' v, Ok K G F' env s' H' → Same F F' → Dt F' v d → E.rt v H'
  | .rn ds env => ∀ F' s' H' p vs, Ok K G F' env s' H' → Same F F' → H' p = some (.lst vs) → F' p = none → G.H0 p = none → G.P p = none → (∀ (j : Nat) l es, env[j]? = some (.own l es) → s'[j]? ≠ some (some (.ref p))) → Da F' vs ds → E.rt (.ref p) H'
  | .rp as ds env => ∀ F' s' H' t p vs us, Ok K G F' env s' H' → Same F F' → NewT G F' H' env s' t p vs us as ds → E.rt (.ref t) H'
def RS (K : Frg) (t : TS) (f : Sf) : Prop := ∀ G F env s H o, Ok K G F env s H → f env = some o → ∀ E : Ends, RSx K G F E o → t E s H
structure XS (X : Cx) (st : Stmt) (f : Sf) : Prop where
  ex : ∃ t, PS X st t ∧ RS X.K t f
structure XSs (X : Cx) (sts : List Stmt) (f : Sf) : Prop where
  ex : ∃ t, PSs X sts t ∧ RS X.K t f
theorem RSx.up {K : Frg} {G : Gm} {F F' : Hp} {E : Ends} {o : Out} (s : Same F F') (h : RSx K G F E o) : RSx K G F' E o := by
  cases o with
  | nx env => exact fun F2 s2 H2 k e => h F2 s2 H2 k (s.trans e)
  | rt d env => exact fun F2 s2 H2 v k e p => h F2 s2 H2 v k (s.trans e) p
  | rn ds env => exact fun F2 s2 H2 p vs k e h1 h2 h3 h4 h5 h6 => h F2 s2 H2 p vs k (s.trans e) h1 h2 h3 h4 h5 h6
  | rp as ds env => exact fun F2 s2 H2 t p vs us k e n => h F2 s2 H2 t p vs us k (s.trans e) n
/-- what isn't the next statement hangs on the return alone -/
theorem RSx.same_rt {K : Frg} {G : Gm} {F : Hp} {E E' : Ends} {o : Out} (he : E'.rt = E.rt) (ho : ∀ env, o ≠ .nx env) (h : RSx K G F E o) : RSx K G F E' o := by
  cases o with
  | nx env => exact absurd rfl (ho env)
  | rt d env => exact fun F2 s2 H2 v k e p => by rw [he]; exact h F2 s2 H2 v k e p
  | rn ds env => exact fun F2 s2 H2 p vs k e h1 h2 h3 h4 h5 h6 => by rw [he]; exact h F2 s2 H2 p vs k e h1 h2 h3 h4 h5 h6
  | rp as ds env => exact fun F2 s2 H2 t p vs us k e n => by rw [he]; exact h F2 s2 H2 t p vs us k e n
def sNil : Sf := fun env => some (.nx env)
def sSeq (f g : Sf) : Sf := fun env => (f env).bind fun o => match o with
  | .nx env1 => g env1
  | o => some o
section
variable {X : Cx} {K : Frg} {st : Stmt} {rest : List Stmt} {e a b : Expr} {f g : Sf} {fe fa fb : Ef} {pos : Pos}
theorem rs_seq {t u : TS} (h1 : RS K t f) (h2 : RS K u g) : RS K (tSeq t u) (sSeq f g) := fun G F env s H o k e E q => by
  unfold sSeq at e
  obtain ⟨o1, h3, e⟩ := Option.bind_eq_some_iff.mp e
  cases o1 with
  | nx env1 =>
    refine h1 G F env s H _ k h3 _ ?_
    exact fun F1 s1 H1 k1 e1 => h2 G F1 env1 s1 H1 o k1 e E (q.up e1)
  | rt d env1 =>
    cases e
    exact h1 G F env s H _ k h3 _ q
  | rn ds env1 =>
    cases e
    exact h1 G F env s H _ k h3 _ q
  | rp as ds env1 =>
    cases e
    exact h1 G F env s H _ k h3 _ q
theorem xss_nil : XSs X [] sNil := ⟨_, pss_nil, fun G F env s H o k e E q => by cases e; exact q F s H k (Same.refl F)⟩
theorem xss_cons (h1 : XS X st f) (h2 : XSs X rest g) : XSs X (st :: rest) (sSeq f g) :=
  let ⟨_, p1, q1⟩ := h1.ex; let ⟨_, p2, q2⟩ := h2.ex; ⟨_, pss_cons p1 p2, rs_seq q1 q2⟩
theorem xss_one (h1 : XS X st f) : XSs X [st] f := let ⟨_, p1, q1⟩ := h1.ex; ⟨_, pss_one p1, q1⟩
def sNo : Sf := fun _ => none
theorem xs_never : XS X st sNo := ⟨_, ps_never, fun G F env s H o k e E q => by cases e⟩
def sExpr (f : Ef) : Sf := fun env => (f env).map fun r => .nx r.2
theorem xs_expr (he : XE X e fe) (hs : swapsWith e none pos.line X.env = pure false := by rfl) : XS X (.Expr e pos) (sExpr fe) := by
  obtain ⟨t, h1, h2⟩ := he.ex
  refine ⟨_, ps_expr h1 hs, fun G F env s H o k e E q => ?_⟩
  unfold sExpr at e
  obtain ⟨⟨d, e1⟩, h3, e⟩ := Option.map_eq_some_iff.mp e
  cases e
  exact h2 G F env s H d e1 k h3 _ fun F1 H1 v k1 s1 p1 => q F1 s H1 k1 s1
def sRet (f : Ef) : Sf := fun env => (f env).map fun r => .rt r.1 r.2
theorem xs_ret (he : XE X e fe) : XS X (.Return (some e) pos) (sRet fe) := by
  obtain ⟨t, h1, h2⟩ := he.ex
  refine ⟨_, ps_ret h1, fun G F env s H o k e E q => ?_⟩
  unfold sRet at e
  obtain ⟨⟨d, e1⟩, h3, e⟩ := Option.map_eq_some_iff.mp e
  cases e
  exact h2 G F env s H d e1 k h3 _ fun F1 H1 v k1 s1 p1 => q F1 s H1 v k1 s1 p1
/-- a new list is handed back -/
def sRetL (f : Lf) : Sf := fun env => (f env).map fun r => .rn r.1 r.2
theorem xs_retL {fl : Lf} (he : XN X e fl) : XS X (.Return (some e) pos) (sRetL fl) := by
  obtain ⟨t, h1, h2⟩ := he.ex
  refine ⟨_, ps_ret h1, fun G F env s H o k e E q => ?_⟩
  unfold sRetL at e
  obtain ⟨⟨d, e1⟩, h3, e⟩ := Option.map_eq_some_iff.mp e
  cases e
  exact h2 G F env s H d e1 k h3 _ fun F1 H1 p vs k1 s1 g1 g2 g3 g4 g5 g6 => q F1 s H1 p vs k1 s1 g1 g2 g3 g4 g5 g6
def sRetN : Sf := fun env => some (.rt .none env)
/-- a list that the def made, frozen -/
def frz (i : Nat) : En → Option En := fun env => match env[i]? with
  | some (.own true ds) => some (env.set i (.val (.list ds)))
  | some (.val d) => some env
  | _ => none
theorem set_get {α : Type} {l : List α} {i j : Nat} {x y : α} (h : (l.set i x)[j]? = some y) : (i = j ∧ i < l.length ∧ x = y) ∨ (i ≠ j ∧ l[j]? = some y) := by
  by_cases hj : i = j
  · subst hj
    have hl : i < l.length := by have := (List.getElem?_eq_some_iff.mp h).1; simpa using this
    rw [List.getElem?_set_self hl] at h
    cases h
    exact .inl ⟨rfl, hl, rfl⟩
  · rw [List.getElem?_set_ne hj] at h
    exact .inr ⟨hj, h⟩
/-- a slot's own list becomes a value -/
theorem frz_ok {G : Gm} {F : Hp} {env env' : En} {s : L2.St} {H : Hp} {i : Nat} (k : Ok K G F env s H) (e : frz i env = some env') : ∃ F', Ok K G F' env' s H ∧ Same F F' := by
  unfold frz at e
  split at e
  · rename_i ds h
    cases e
    obtain ⟨a, vs, h1, h2, h3, h4, h5, h6, _⟩ := k.own i true ds h
    have hi : i < env.length := (List.getElem?_eq_some_iff.mp h).1
    have k0 : Ok K G F (env.set i .no) s H := by
      refine ⟨by rw [k.len]; simp, k.fr, fun j d e => ?_, fun j l es e => ?_, fun j es e => ?_, fun j j' l es m fs e1 e2 e3 => ?_, k.pin, k.dom, k.grow, k.new, k.rin, k.dct.slots fun j w kvs e => ?_⟩
      · rcases set_get e with ⟨_, _, z⟩ | ⟨_, z⟩
        · cases z
        · exact k.val j d z
      · rcases set_get e with ⟨_, _, z⟩ | ⟨_, z⟩
        · cases z
        · exact k.own j l es z
      · rcases set_get e with ⟨_, _, z⟩ | ⟨_, z⟩
        · cases z
        · exact k.ro j es z
      · rcases set_get e1 with ⟨_, _, z⟩ | ⟨_, z⟩
        · cases z
        · rcases set_get e2 with ⟨_, _, z2⟩ | ⟨_, z2⟩
          · cases z2
          · exact k.sep j j' _ _ _ _ z z2 e3
      · rcases set_get e with ⟨_, _, z⟩ | ⟨_, z⟩
        · cases z
        · exact ⟨z, rfl⟩
    have k1 := k0.freeze h2 h3 (h6 rfl) (fun j l es e z => by
      rcases set_get e with ⟨_, _, z2⟩ | ⟨hj, z2⟩
      · cases z2
      · exact hj (k.sep i j _ _ _ _ h z2 (h1.trans z.symm))) (k0.notdctL h2)
    refine ⟨_, ⟨by rw [k.len]; simp, k1.fr, fun j d e => ?_, fun j l es e => ?_, fun j es e => ?_, fun j j' l es m fs e1 e2 e3 => ?_, k1.pin, k1.dom, k1.grow, k1.new, k1.rin, k1.dct.slots fun j w kvs e => ?_⟩, same_upd h3⟩
    · rcases set_get e with ⟨rfl, _, z⟩ | ⟨hj, z⟩
      · cases z
        exact ⟨_, h1, .lst upd_same (Da.mono (same_upd h3) _ _ h5)⟩
      · exact k1.val j d (by rw [List.getElem?_set_ne hj]; exact z)
    · rcases set_get e with ⟨rfl, _, z⟩ | ⟨hj, z⟩
      · cases z
      · exact k1.own j l es (by rw [List.getElem?_set_ne hj]; exact z)
    · rcases set_get e with ⟨rfl, _, z⟩ | ⟨hj, z⟩
      · cases z
      · exact k1.ro j es (by rw [List.getElem?_set_ne hj]; exact z)
    · rcases set_get e1 with ⟨_, _, z⟩ | ⟨hj1, z⟩
      · cases z
      · rcases set_get e2 with ⟨_, _, z2⟩ | ⟨hj2, z2⟩
        · cases z2
        · exact k1.sep j j' _ _ _ _ (by rw [List.getElem?_set_ne hj1]; exact z) (by rw [List.getElem?_set_ne hj2]; exact z2) e3
    · rcases set_get e with ⟨rfl, _, z⟩ | ⟨hj, z⟩
      · cases z
      · exact ⟨by rw [List.getElem?_set_ne hj]; exact z, rfl⟩
  · cases e
    exact ⟨F, k, Same.refl F⟩
  · cases e
theorem ok_drop {G : Gm} {F : Hp} {env : En} {s : L2.St} {H : Hp} (i : Nat) (k : Ok K G F env s H) : Ok K G F (env.set i .no) s H := by
  refine ⟨by rw [k.len]; simp, k.fr, fun j d e => ?_, fun j l es e => ?_, fun j es e => ?_, fun j j' l es m fs e1 e2 e3 => ?_, k.pin, k.dom, k.grow, k.new, k.rin, k.dct.slots fun j w kvs e => ?_⟩
  · rcases set_get e with ⟨_, _, z⟩ | ⟨_, z⟩
    · cases z
    · exact k.val j d z
  · rcases set_get e with ⟨_, _, z⟩ | ⟨_, z⟩
    · cases z
    · exact k.own j l es z
  · rcases set_get e with ⟨_, _, z⟩ | ⟨_, z⟩
    · cases z
    · exact k.ro j es z
  · rcases set_get e1 with ⟨_, _, z⟩ | ⟨_, z⟩
    · cases z
    · rcases set_get e2 with ⟨_, _, z2⟩ | ⟨_, z2⟩
      · cases z2
      · exact k.sep j j' _ _ _ _ z z2 e3
  · rcases set_get e with ⟨_, _, z⟩ | ⟨hj, z⟩
    · cases z
    · exact ⟨z, rfl⟩
/-- the def's own list is handed back -/
def sRetO (i : Nat) : Sf := fun env => match env[i]? with
  | some (.own true ds) => some (.rn ds (env.set i .no))
  | _ => none
def sFrz (i : Nat) (f : Sf) : Sf := fun env => (frz i env).bind f
theorem rs_frz {t : TS} (i : Nat) (h : RS K t f) : RS K t (sFrz i f) := fun G F env s H o k e E q => by
  unfold sFrz at e
  obtain ⟨env1, h1, e⟩ := Option.bind_eq_some_iff.mp e
  obtain ⟨F1, k1, s1⟩ := frz_ok k h1
  exact h G F1 env1 s H o k1 e E (q.up s1)
/-- ahead of a statement a list is frozen -/
theorem xs_frz (i : Nat) (h : XS X st f) : XS X st (sFrz i f) := let ⟨_, p, q⟩ := h.ex; ⟨_, p, rs_frz i q⟩
def sIf (c : Bf) (f g : Sf) : Sf := fun env => (c env).bind fun r => if r.1 then f r.2 else g r.2
theorem xs_if {c : Expr} {p1 p2 : List Stmt} {gc : Bf} (hc : XB X c gc) (ha : XSs X p1 f) (hb : XSs X p2 g) : XS X (.If c p1 p2 pos) (sIf gc f g) := by
  obtain ⟨t, h1, h2⟩ := hc.ex
  obtain ⟨ta, h3, h4⟩ := ha.ex
  obtain ⟨tb, h5, h6⟩ := hb.ex
  refine ⟨_, ps_if h1 h3 h5, fun G F env s H o k e E q => ?_⟩
  unfold sIf at e
  obtain ⟨⟨c, e1⟩, h7, e⟩ := Option.bind_eq_some_iff.mp e
  refine h2 G F env s H c e1 k h7 _ fun F1 H1 k1 s1 => ?_
  cases c with
  | true =>
    rw [if_pos rfl] at e ⊢
    exact h4 G F1 e1 s H1 o k1 e E (q.up s1)
  | false =>
    rw [if_neg Bool.false_ne_true] at e ⊢
    exact h6 G F1 e1 s H1 o k1 e E (q.up s1)

/-! ### assignment -/
theorem ok_set {G : Gm} {F : Hp} {env : En} {s : L2.St} {H : Hp} {i : Nat} {d : D} {v : V} (k : Ok K G F env s H) (p : Dt F v d) : Ok K G F (env.set i (.val d)) (s.set i (some v)) H := by
  refine ⟨by simp [k.len], k.fr, fun j d' e => ?_, fun j l es e => ?_, fun j es e => ?_, fun j j' l es m fs e1 e2 e3 => ?_, k.pin, k.dom, k.grow, k.new, k.rin, k.dct.slots fun j w kvs e => ?_⟩
  · rcases set_get e with ⟨rfl, hl, z⟩ | ⟨hj, z⟩
    · cases z
      exact ⟨v, by rw [List.getElem?_set_self (by rw [k.len]; exact hl)], p⟩
    · rw [List.getElem?_set_ne hj]
      exact k.val j d' z
  · rcases set_get e with ⟨rfl, hl, z⟩ | ⟨hj, z⟩
    · cases z
    · rw [List.getElem?_set_ne hj]
      exact k.own j l es z
  · rcases set_get e with ⟨rfl, hl, z⟩ | ⟨hj, z⟩
    · cases z
    · rw [List.getElem?_set_ne hj]
      exact k.ro j es z
  · rcases set_get e1 with ⟨rfl, hl, z⟩ | ⟨hj, z⟩
    · cases z
    · rcases set_get e2 with ⟨rfl, hl, z2⟩ | ⟨hj2, z2⟩
      · cases z2
      · rw [List.getElem?_set_ne hj, List.getElem?_set_ne hj2] at e3
        exact k.sep j j' _ _ _ _ z z2 e3
  · rcases set_get e with ⟨_, _, z⟩ | ⟨hj, z⟩
    · cases z
    · exact ⟨z, List.getElem?_set_ne hj⟩
theorem ok_setO {G : Gm} {F : Hp} {env : En} {s : L2.St} {H : Hp} {i : Nat} {ds : List D} {p : Addr} {vs : List V} (k : Ok K G F env s H) (h1 : H p = some (.lst vs)) (h2 : F p = none) (h3 : G.H0 p = none) (h4 : G.P p = none)
    (h5 : ∀ (j : Nat) l es, env[j]? = some (.own l es) → s[j]? ≠ some (some (.ref p))) (h6 : Da F vs ds) : Ok K G F (env.set i (.own true ds)) (s.set i (some (.ref p))) H := by
  refine ⟨by simp [k.len], k.fr, fun j d' e => ?_, fun j l es e => ?_, fun j es e => ?_, fun j j' l es m fs e1 e2 e3 => ?_, k.pin, k.dom, k.grow, k.new, k.rin, k.dct.slots fun j w kvs e => ?_⟩
  · rcases set_get e with ⟨rfl, hl, z⟩ | ⟨hj, z⟩
    · cases z
    · rw [List.getElem?_set_ne hj]
      exact k.val j d' z
  · rcases set_get e with ⟨rfl, hl, z⟩ | ⟨hj, z⟩
    · cases z
      exact ⟨p, vs, by rw [List.getElem?_set_self (by rw [k.len]; exact hl)], h1, h2, h4, h6, fun _ => h3, fun z => by cases z⟩
    · rw [List.getElem?_set_ne hj]
      exact k.own j l es z
  · rcases set_get e with ⟨rfl, hl, z⟩ | ⟨hj, z⟩
    · cases z
    · rw [List.getElem?_set_ne hj]
      exact k.ro j es z
  · rcases set_get e1 with ⟨rfl, hl, z⟩ | ⟨hj, z⟩
    · rcases set_get e2 with ⟨rfl, hl2, z2⟩ | ⟨hj2, z2⟩
      · rfl
      · rw [List.getElem?_set_self (by rw [k.len]; exact hl), List.getElem?_set_ne hj2] at e3
        exact absurd e3.symm (h5 j' _ _ z2)
    · rcases set_get e2 with ⟨rfl, hl, z2⟩ | ⟨hj2, z2⟩
      · rw [List.getElem?_set_self (by rw [k.len]; exact hl), List.getElem?_set_ne hj] at e3
        exact absurd e3 (h5 j _ _ z)
      · rw [List.getElem?_set_ne hj, List.getElem?_set_ne hj2] at e3
        exact k.sep j j' _ _ _ _ z z2 e3
  · rcases set_get e with ⟨_, _, z⟩ | ⟨hj, z⟩
    · cases z
    · exact ⟨z, List.getElem?_set_ne hj⟩
def sSet (i : Nat) (f : Ef) : Sf := fun env => (f env).map fun r => .nx (r.2.set i (.val r.1))
def sSetO (i : Nat) (f : Lf) : Sf := fun env => (f env).map fun r => .nx (r.2.set i (.own true r.1))
theorem rs_set {t : TE} (i : Nat) (h2 : RE K t fe) : RS K (tAsg t (gName i)) (sSet i fe) := fun G F env s H o k e E q => by
  unfold sSet at e
  obtain ⟨⟨d, e1⟩, h3, e⟩ := Option.map_eq_some_iff.mp e
  cases e
  exact h2 G F env s H d e1 k h3 _ fun F1 H1 v k1 s1 p1 => q F1 _ H1 (ok_set k1 p1) s1
theorem rs_setO {t : TE} {fl : Lf} (i : Nat) (h2 : RN K t fl) : RS K (tAsg t (gName i)) (sSetO i fl) := fun G F env s H o k e E q => by
  unfold sSetO at e
  obtain ⟨⟨d, e1⟩, h3, e⟩ := Option.map_eq_some_iff.mp e
  cases e
  exact h2 G F env s H d e1 k h3 _ fun F1 H1 p vs k1 s1 h1 h2 h3 h4 h5 h6 => q F1 _ H1 (ok_setO k1 h1 h2 h3 h4 h5 h6) s1
theorem xs_set (i : Nat) {x : Str} {pos' : Pos} (he : XE X e fe) (hN : X.N.Nodup) (hi : X.N[i]? = some x := by rfl) (hx : Loc X.env.scope x := by first | exact Or.inl rfl | exact Or.inr rfl) (hs : swapsWith e (some (.Name x pos')) pos.line X.env = pure false := by rfl)
    (hf : X.fn x = true ∨ X.env.scope.names.lookup x = some .local := by first | exact .inl rfl | exact .inr rfl | assumption) : XS X (.Assign [.Name x pos'] e pos) (sSet i fe) :=
  let ⟨_, h1, h2⟩ := he.ex; ⟨_, ps_set hN hi hx h1 hs hf, rs_set i h2⟩
theorem xs_setO (i : Nat) {x : Str} {pos' : Pos} {fl : Lf} (he : XN X e fl) (hN : X.N.Nodup) (hi : X.N[i]? = some x := by rfl) (hx : Loc X.env.scope x := by first | exact Or.inl rfl | exact Or.inr rfl) (hs : swapsWith e (some (.Name x pos')) pos.line X.env = pure false := by rfl)
    (hf : X.fn x = true ∨ X.env.scope.names.lookup x = some .local := by first | exact .inl rfl | exact .inr rfl | assumption) : XS X (.Assign [.Name x pos'] e pos) (sSetO i fl) :=
  let ⟨_, h1, h2⟩ := he.ex; ⟨_, ps_set hN hi hx h1 hs hf, rs_setO i h2⟩

/-! ### targets -/
abbrev Tf := D → En → Option En
def RG (K : Frg) (t : TG) (g : Tf) (sl : List Nat) : Prop := ∀ G F env s H v d env', Ok K G F env s H → Dt F v d → g d env = some env' → ∀ Q : L2.St → Hp → Prop,
  (∀ s', Ok K G F env' s' H → (∀ vs : List Nat, (∀ i ∈ sl, i ∈ vs) → wipe s' vs = wipe s vs) → Q s' H) → t v s H Q
def RGs (K : Frg) (t : TGs) (g : List D → En → Option En) (sl : List Nat) : Prop := ∀ G F env s H vs ds env', Ok K G F env s H → Da F vs ds → g ds env = some env' → ∀ Q : L2.St → Hp → Prop,
  (∀ s', Ok K G F env' s' H → (∀ vs : List Nat, (∀ i ∈ sl, i ∈ vs) → wipe s' vs = wipe s vs) → Q s' H) → t vs s H Q
structure XG (X : Cx) (tg : Expr) (g : Tf) (sl : List Nat) : Prop where
  ex : ∃ t, PG X tg t ∧ RG X.K t g sl
structure XGs (X : Cx) (tgs : List Expr) (g : List D → En → Option En) (sl : List Nat) : Prop where
  ex : ∃ t, PGs X tgs t ∧ RGs X.K t g sl
theorem wipe_get (s : L2.St) : ∀ (vs : List Nat) (j : Nat), (wipe s vs)[j]? = if j ∈ vs ∧ j < s.length then some none else s[j]?
  | [], j => by simp [wipe]
  | v :: vs, j => by
    unfold wipe
    by_cases hj : v = j
    · subst hj
      by_cases hl : v < s.length
      · rw [List.getElem?_set_self (by rw [wipe_length]; exact hl)]
        simp [hl]
      · rw [List.getElem?_eq_none (by rw [List.length_set, wipe_length]; omega), List.getElem?_eq_none (by omega)]
        simp [hl]
    · rw [List.getElem?_set_ne hj, wipe_get s vs j]
      have : ¬ j = v := fun e => hj e.symm
      simp [this]
theorem wipe_set {s : L2.St} {i : Nat} {x : Option V} {vs : List Nat} (h : i ∈ vs) : wipe (s.set i x) vs = wipe s vs := by
  refine List.ext_getElem? fun j => ?_
  rw [wipe_get, wipe_get, List.length_set]
  by_cases hj : j ∈ vs ∧ j < s.length
  · rw [if_pos hj, if_pos hj]
  · rw [if_neg hj, if_neg hj]
    by_cases hi : i = j
    · subst hi
      have : ¬ i < s.length := fun z => hj ⟨h, z⟩
      rw [List.getElem?_eq_none (by simp; omega), List.getElem?_eq_none (by omega)]
    · rw [List.getElem?_set_ne hi]
def tN (i : Nat) : Tf := fun d env => some (env.set i (.val d))
theorem xg_name (i : Nat) {x : Str} (hN : X.N.Nodup) (hi : X.N[i]? = some x := by rfl) (hx : Loc X.env.scope x := by first | exact Or.inl rfl | exact Or.inr rfl) (hf : X.fn x = true ∨ X.env.scope.names.lookup x = some .local := by first | exact .inl rfl | exact .inr rfl | assumption) : XG X (.Name x pos) (tN i) [i] :=
  ⟨_, pg_name hN hi hx hf, fun G F env s H v d env' k p e Q q => by
    cases e
    exact q _ (ok_set k p) fun vs h => wipe_set (h i (by simp))⟩
def gsN : List D → En → Option En := fun ds env => match ds with
  | [] => some env
  | _ => none
def gsC (g : Tf) (r : List D → En → Option En) : List D → En → Option En := fun ds env => match ds with
  | d :: ds => (g d env).bind (r ds)
  | [] => none
theorem xgs_nil : XGs X [] gsN [] := ⟨_, pgs_nil, fun G F env s H vs ds env' k p e Q q => by
  unfold gsN at e
  split at e
  · cases p; cases e; exact ⟨rfl, q s k fun _ _ => rfl⟩
  · cases e⟩
theorem xgs_cons {es : List Expr} {g : Tf} {r : List D → En → Option En} {s1 s2 : List Nat} (h1 : XG X e g s1) (h2 : XGs X es r s2) (hs : (assignEach (e :: es) X.env).map (·.2) = assign e X.env :: (assignEach es X.env).map (·.2) := by rfl) : XGs X (e :: es) (gsC g r) (s1 ++ s2) := by
  obtain ⟨t, p1, q1⟩ := h1.ex
  obtain ⟨u, p2, q2⟩ := h2.ex
  refine ⟨_, pgs_cons p1 p2 hs, fun G F env s H vs ds env' k p e Q q => ?_⟩
  cases p with
  | nil => cases e
  | cons pa pb =>
    obtain ⟨env1, h3, h4⟩ := Option.bind_eq_some_iff.mp (show (g _ env).bind (r _) = some env' from e)
    refine ⟨_, _, rfl, q1 G F env s H _ _ env1 k pa h3 _ fun s1' k1 w1 => ?_⟩
    exact q2 G F env1 s1' H _ _ env' k1 pb h4 Q fun s2' k2 w2 => q s2' k2 fun vs hv => (w2 vs fun i hi => hv i (List.mem_append_right _ hi)).trans (w1 vs fun i hi => hv i (List.mem_append_left _ hi))
def tT (n : Nat) (r : List D → En → Option En) : Tf := fun d env => match d with
  | .tuple ds => if ds.length = n then r ds env else none
  | _ => none
theorem xg_tup {es : List Expr} {k : Nat} {r : List D → En → Option En} {sl : List Nat} {n : Nat} (h : XGs X es r sl) (hc : X.calm = true := by rfl) (hn : (assignEach es X.env).length = n := by rfl) (hst : (assignEach es X.env).findIdx? (·.1) = none := by rfl) : XG X (.Tuple es k pos) (tT n r) sl := by
  obtain ⟨t, p1, q1⟩ := h.ex
  refine ⟨_, pg_tup hc p1 hn hst, fun G F env s H v d env' k p e Q q => ?_⟩
  cases p with
  | tup a b =>
    unfold tT at e
    dsimp only at e
    split at e
    · rename_i hl
      exact ⟨_, _, rfl, SqT.of (k.fr _ _ a), by rw [b.length]; exact hl, q1 G F env s H _ _ env' k b e Q q⟩
    · cases e
  | _ => cases e
def sAsg (f : Ef) (g : Tf) : Sf := fun env => (f env).bind fun r => (g r.1 r.2).map .nx
theorem xs_asg {tg : Expr} {g : Tf} {sl : List Nat} (he : XE X e fe) (hg : XG X tg g sl) (hs : swapsWithSole [tg] e pos.line X.env = pure false := by rfl) (hw : swappedStores [tg] e X.env = pure none := by rfl)
    (h1 : (assignEach [tg] X.env).map (·.2) = [assign tg X.env] := by rfl) : XS X (.Assign [tg] e pos) (sAsg fe g) := by
  obtain ⟨t, p1, q1⟩ := he.ex
  obtain ⟨u, p2, q2⟩ := hg.ex
  refine ⟨_, ps_asg p1 p2 hs hw h1, fun G F env s H o k e E q => ?_⟩
  unfold sAsg at e
  obtain ⟨⟨d, e1⟩, h3, e⟩ := Option.bind_eq_some_iff.mp e
  obtain ⟨e2, h4, e⟩ := Option.map_eq_some_iff.mp e
  cases e
  refine q1 G F env s H d e1 k h3 _ fun F1 H1 v k1 s1 pd => ?_
  exact q2 G F1 e1 s H1 v d e2 k1 pd h4 _ fun s' k2 _ => q F1 s' H1 k2 s1
/-- a, b = x, y -/
def sPar (i j : Nat) (g : Lf) : Sf := fun env => (g env).bind fun r => match r.1 with
  | [d, e] => some (.nx ((r.2.set i (.val d)).set j (.val e)))
  | _ => none
theorem xs_par (i j : Nat) {x y : Str} {px py pt : Pos} {kt k2 pt2} {g : Lf} (ha : XL X [a, b] g) (hN : X.N.Nodup) (hw : swappedStores [.Tuple [.Name x px, .Name y py] kt pt] (.Tuple [a, b] k2 pt2) X.env = pure (some [x, y]) := by rfl) (hc : X.calm = true := by rfl) (hi : X.N[i]? = some x := by rfl) (hj : X.N[j]? = some y := by rfl) (hij : i ≠ j := by decide)
    (hx : X.env.scope.names.lookup x = some .local := by rfl) (hy : X.env.scope.names.lookup y = some .local := by rfl)
    (hs : swapsWithSole [.Tuple [.Name x px, .Name y py] kt pt] (.Tuple [a, b] k2 pt2) pos.line X.env = pure false := by rfl) :
    XS X (.Assign [.Tuple [.Name x px, .Name y py] kt pt] (.Tuple [a, b] k2 pt2) pos) (sPar i j g) := by
  obtain ⟨t, p1, q1⟩ := ha.ex
  refine ⟨_, ps_par hc hN hi hj hij hx hy p1 hw hs, fun G F env s H o k e E q => ?_⟩
  unfold sPar at e
  obtain ⟨⟨ds, e1⟩, h3, e⟩ := Option.bind_eq_some_iff.mp e
  refine q1 G F env s H ds e1 k h3 _ fun F1 H1 vs k1 s1 pd => ?_
  dsimp only at e
  split at e
  · cases e
    cases pd with
    | cons pa pb =>
      cases pb with
      | cons pb pc =>
        cases pc
        exact ⟨_, _, rfl, q F1 _ H1 (ok_set (ok_set k1 pa) pb) s1⟩
  · cases e

/-! ### lists that the def owns: changed in place -/
theorem ok_mut {G : Gm} {F : Hp} {env : En} {s : L2.St} {H : Hp} {i : Nat} {l : Bool} {ds es : List D} {a : Addr} {us : List V} (k : Ok K G F env s H) (h : env[i]? = some (.own l ds)) (ha : s[i]? = some (some (.ref a))) (q : Da F us es) :
    Ok K G F (env.set i (.own l es)) s (upd H a (.lst us)) := by
  obtain ⟨b, vs, h1, h2, h3, h4, h5, h6⟩ := k.own i l ds h
  rw [ha] at h1
  cases h1
  have hi : i < env.length := (List.getElem?_eq_some_iff.mp h).1
  have nf : ∀ c o, F c = some o → c ≠ a := fun c o e z => by subst z; rw [h3] at e; cases e
  refine ⟨by simp [k.len], fun c o e => by rw [upd_ne (nf c o e)]; exact k.fr c o e, fun j d e => ?_, fun j m fs e => ?_, fun j fs e => ?_, fun j j' m fs n gs e1 e2 e3 => ?_, fun c o e => ?_, fun c e => ?_, k.grow, k.new, k.rin, k.dct.move (fun _ _ e => e) (fun j w kvs e => ?_) fun c es' g1 g2 g3 g4 _ => ⟨?_, g2, g3, g4⟩⟩
  · rcases set_get e with ⟨_, _, z⟩ | ⟨hj, z⟩
    · cases z
    · exact k.val j d z
  · rcases set_get e with ⟨rfl, _, z⟩ | ⟨hj, z⟩
    · cases z
      exact ⟨a, us, ha, upd_same, h3, h4, q, h6⟩
    · obtain ⟨c, ws, g1, g2, g3⟩ := k.own j m fs z
      have ne : c ≠ a := fun w => by subst w; exact hj (k.sep i j _ _ _ _ h z (ha.trans g1.symm))
      exact ⟨c, ws, g1, by rw [upd_ne ne]; exact g2, g3⟩
  · rcases set_get e with ⟨_, _, z⟩ | ⟨hj, z⟩
    · cases z
    · exact k.ro j fs z
  · have bk : ∀ (j : Nat) m fs, (env.set i (.own l es))[j]? = some (.own m fs) → ∃ gs, env[j]? = some (.own m gs) := fun j m fs e => by
      rcases set_get e with ⟨rfl, _, z⟩ | ⟨hj, z⟩
      · cases z; exact ⟨_, h⟩
      · exact ⟨_, z⟩
    obtain ⟨f1, g1⟩ := bk j m fs e1
    obtain ⟨f2, g2⟩ := bk j' n gs e2
    exact k.sep j j' _ _ _ _ g1 g2 e3
  · have ne : c ≠ a := fun z => by subst z; rw [h4] at e; cases e
    rw [upd_ne ne]; exact k.pin c o e
  · by_cases hc : c = a
    · subst hc; rw [upd_same] at e; cases e
    · rw [upd_ne hc] at e; exact k.dom c e
  · rcases set_get e with ⟨_, _, z⟩ | ⟨hj, z⟩
    · cases z
    · exact ⟨z, rfl⟩
  · have ne : c ≠ a := fun z => by subst z; rw [h2] at g1; cases g1
    rw [upd_ne ne]; exact g1
/-- xs.m(e), xs the def's own list: what it becomes and what is told -/
def isOwn (env : En) (i : Nat) : Bool := match env[i]? with
  | some (.own _ _) => true
  | _ => false
def isDct (env : En) (i : Nat) : Bool := match env[i]? with
  | some (.dct _ _) => true
  | _ => false
theorem isOwn_some {env : En} {i : Nat} (h : isOwn env i = true) : ∃ l ds, env[i]? = some (.own l ds) := by
  unfold isOwn at h
  split at h
  · rename_i l ds e; exact ⟨l, ds, e⟩
  · cases h
def eMut (g : List D → D → Option (List D × D)) (i : Nat) (f : Ef) : Ef := fun env => if isOwn env i then (f env).bind fun r => match r.2[i]? with
  | some (.own l ds) => (g ds r.1).map fun q => (q.2, r.2.set i (.own l q.1))
  | _ => none
  else none
def eMut0 (g : List D → Option (List D × D)) (i : Nat) : Ef := fun env => match env[i]? with
  | some (.own l ds) => (g ds).map fun q => (q.2, env.set i (.own l q.1))
  | _ => none
def GM (r : V → List V → Hp → VK → Prop) (g : List D → D → Option (List D × D)) : Prop := ∀ F a vs ds y d es z H, Same F H → H a = some (.lst vs) → Da F vs ds → Dt F y d → g ds d = some (es, z) → ∀ Q : VK,
  (∀ us v, Da F us es → Dt F v z → Q v (upd H a (.lst us))) → r (.ref a) [y] H Q
theorem re_mut {i : Nat} {r : V → List V → Hp → VK → Prop} {g : List D → D → Option (List D × D)} {tb : TE} (hg : GM r g) (h2 : RE K tb fb) : RE K (tBM K "list" r (tVar i) (tCons tb tNil)) (eMut g i fb) := fun G F env s H d env' k e Q q => by
  unfold eMut at e
  split at e
  · rename_i h0
    obtain ⟨l0, ds0, h0⟩ := isOwn_some h0
    obtain ⟨a, vs0, hv, hH, _⟩ := k.own i l0 ds0 h0
    obtain ⟨⟨d1, e1⟩, h1, e⟩ := Option.bind_eq_some_iff.mp e
    dsimp only at e
    split at e
    · rename_i l ds h3
      obtain ⟨⟨es, z⟩, h4, e⟩ := Option.map_eq_some_iff.mp e
      cases e
      refine ⟨_, hv, .inl ⟨rfl, _, SqL.of hH⟩, ?_⟩
      refine h2 G F env s H d1 e1 k h1 _ fun F1 H1 v1 k1 s1 p1 => ?_
      obtain ⟨b, vs, g1, g2, g3, g4, g5, g6⟩ := k1.own i l ds h3
      rw [hv] at g1
      cases g1
      exact hg F1 a vs ds v1 d1 es z H1 k1.fr g2 g5 p1 h4 Q fun us v pu pv => q F1 _ v (ok_mut k1 h3 hv pu) s1 pv
    · cases e
  · cases e
def mAppend : List D → D → Option (List D × D) := fun ds d => if fits (ds.length + 1) then some (ds ++ [d], .none) else none
theorem gm_append : GM rAppend mAppend := fun F a vs ds y d es z H _ h p py e Q q => by
  unfold mAppend at e
  split at e
  · rename_i hf
    cases e
    have := fits_line hf
    exact ⟨a, vs, y, rfl, rfl, h, by rw [p.length]; omega, q _ _ (p.append (.cons py .nil)) .non⟩
  · cases e
def mExtend : List D → D → Option (List D × D) := fun ds d => match d with
  | .list es => if fits (ds.length + es.length) then some (ds ++ es, .none) else none
  | _ => none
theorem Da.dropLast {F : Hp} {ds : List D} {vs : List V} (h : Da F vs ds) : Da F vs.dropLast ds.dropLast := by
  rw [List.dropLast_eq_take, List.dropLast_eq_take, h.length]
  exact h.take _
def mPopAt : List D → D → Option (List D × D) := fun ds d => match d with
  | .int i => if decide (-(2 ^ 63) ≤ i) && decide (i < 2 ^ 63) then (seqIndex? i ds.length).bind fun k => (ds[k]?).map fun z => (ds.eraseIdx k, z) else none
  | _ => none
theorem gm_popAt : GM rPopAt mPopAt := fun F a vs ds y d es z H _ h p py e Q q => by
  unfold mPopAt at e
  split at e
  · split at e
    · rename_i hf
      simp only [Bool.and_eq_true, decide_eq_true_eq] at hf
      obtain ⟨k, h1, e⟩ := Option.bind_eq_some_iff.mp e
      obtain ⟨w, h2, e⟩ := Option.map_eq_some_iff.mp e
      cases e
      cases py
      obtain ⟨v, h3, h4⟩ := p.get h2
      exact ⟨a, vs, _, k, v, rfl, rfl, h, hf.1, hf.2, by rw [p.length]; exact h1, h3, q _ _ (p.erase k) h4⟩
    · cases e
  · cases e
section
variable {x : Str} {p2 : Pos} {pos apos : Pos} {name : Str} {id : String}
theorem xe_mut (i : Nat) {r : V → List V → Hp → VK → Prop} {g : List D → D → Option (List D × D)} (slot : Slot "list" name id) (hty : typeOf (.builtin id) = pure (.type "method_descriptor")) (hm : MtR X id r) (hg : GM r g) (ha : XE X e fe) (hN : X.N[i]? = some x := by rfl) (hv : Vis X.env.scope x := by first | exact Or.inl rfl | exact Or.inr (Or.inl rfl) | exact Or.inr (Or.inr rfl))
    (hd : (x == ("__debug__" : Str)) = false := by decide) (hcd : (x == ("__classdict__" : Str)) = false := by decide)
    (hbase : attributeBase (.Name x p2) name X.env (eval (.Name x p2) X.env) = eval (.Name x p2) X.env := by rfl)
    (hfew : ((backTo pos (starEach [e] X.env)).all (fun x => !x.1) && (backToKw pos (keywordEach [] X.env)).all (fun x => x.1.isSome)
      && decide (([e] : List Expr).length + ([] : List Keyword).length + (if ([] : List Keyword).isEmpty then 0 else 1) < 30)) = true := by rfl)
    (hline : (apos.endLine == pos.line) = true := by rfl) (hs : starEach [e] X.env = (false, eval e X.env) :: starEach [] X.env := by rfl) (hplain : (backTo pos (starEach [] X.env)).any (·.1) = false := by rfl) :
    XE X (.Call (.Attribute (.Name x p2) name apos) [e] [] pos) (eMut g i fe) :=
  let ⟨_, h1, h2⟩ := ha.ex; ⟨_, pe_bm PySem.F.plainAttrs_list slot hty hm (pe_var hN hv hd hcd) (pa_cons h1 pa_nil hs) hbase hfew hline hs hplain, re_mut hg h2⟩
end
/-- xs[k] = e -/
def sPut (i : Nat) (fk fe : Ef) : Sf := fun env => (fe env).bind fun r => (fk r.2).bind fun q => match q.1, q.2[i]? with
  | .int k, some (.own l ds) => (ixN ds.length k).map fun j => .nx (q.2.set i (.own l (ds.set j r.1)))
  | _, _ => none
theorem rs_put {i : Nat} {te tk : TE} (h1 : RE K te fe) (h2 : RE K tk fa) : RS K (tAsg te (L2.gSub (tVar i) tk rSetL)) (fun env => if isOwn env i then sPut i fa fe env else none) := fun G F env s H o k e E q => by
  dsimp only at e
  split at e
  · rename_i h0
    obtain ⟨l0, ds0, h0⟩ := isOwn_some h0
    obtain ⟨a, vs0, hv, hH, _⟩ := k.own i l0 ds0 h0
    unfold sPut at e
    obtain ⟨⟨d1, e1⟩, h3, e⟩ := Option.bind_eq_some_iff.mp e
    obtain ⟨⟨d2, e2⟩, h4, e⟩ := Option.bind_eq_some_iff.mp e
    dsimp only at e
    split at e
    · rename_i _ _ kk l ds h5
      obtain ⟨j, h6, e⟩ := Option.map_eq_some_iff.mp e
      cases e
      refine h1 G F env s H d1 e1 k h3 _ fun F1 H1 v1 k1 s1 p1 => ?_
      refine ⟨_, hv, ?_⟩
      refine h2 G F1 e1 s H1 _ e2 k1 h4 _ fun F2 H2 v2 k2 s2 p2 => ?_
      obtain ⟨b, vs, g1, g2, g3, g4, g5, g6⟩ := k2.own i l ds h5
      rw [hv] at g1
      cases g1
      cases p2
      refine ⟨a, vs, kk, j, rfl, rfl, g2, by rw [g5.length]; exact h6, ?_⟩
      exact q F2 s _ (ok_mut k2 h5 hv (g5.set (Dt.mono s2 d1 v1 p1) j)) (s1.trans s2)
    · cases e
  · cases e
def sPutI (i : Nat) (fk fe : Ef) : Sf := fun env => if isOwn env i then sPut i fk fe env else none
theorem xs_put (i : Nat) {x : Str} {p2 p3 : Pos} {ke : Expr} (he : XE X e fe) (hk : XE X ke fa) (hN : X.N[i]? = some x := by rfl) (hv : Vis X.env.scope x := by first | exact Or.inl rfl | exact Or.inr (Or.inl rfl) | exact Or.inr (Or.inr rfl))
    (hd : (x == ("__debug__" : Str)) = false := by decide) (hcd : (x == ("__classdict__" : Str)) = false := by decide) (hs : swapsWithSole [.Subscript (.Name x p2) ke p3] e pos.line X.env = pure false := by rfl) (hw : swappedStores [.Subscript (.Name x p2) ke p3] e X.env = pure none := by rfl)
    (h1 : (assignEach [.Subscript (.Name x p2) ke p3] X.env).map (·.2) = [assign (.Subscript (.Name x p2) ke p3) X.env] := by rfl)
    (ha : ∀ v, assign (.Subscript (.Name x p2) ke p3) X.env v = (do
      let ov ← holding [v] (eval (.Name x p2) X.env)
      let iv ← holding [v, ov] (eval ke X.env)
      standAt p3
      holding [v, ov, iv] (setItem ov iv v)
      release [v, ov, iv] []) := by intro _; rfl) : XS X (.Assign [.Subscript (.Name x p2) ke p3] e pos) (sPutI i fa fe) :=
  let ⟨_, g1, g2⟩ := he.ex; let ⟨_, g3, g4⟩ := hk.ex
  ⟨_, ps_asg g1 (pg_sub (pe_var hN hv hd hcd) g3 set_list ha) hs hw h1, rs_put g2 g4⟩
end
end M

namespace M
open PySem PySem.Spec PyProof.Rows L2

/-! ### what is walked -/
def Wk (K : Frg) (P : Hp) (J : It) (F0 : Hp) (ds : List D) : Prop := ∃ (Gp : Hp → Prop) (Y : Nat → Hp → V → Hp → Prop), Walk J ds.length Gp Y ∧
  (∀ G F env s H, Same P G.R → Ok K G F env s H → Same F0 F → Gp H) ∧
  (∀ i H x H' G F env s, i < ds.length → Same P G.R → Ok K G F env s H → Same F0 F → Y i H x H' → ∃ F', Ok K G F' env s H' ∧ Same F F' ∧ (∀ a o, H a = some o → H' a = some o) ∧ ∃ d, ds[i]? = some d ∧ Dt F' x d)
def RI (K : Frg) (wi : TI) (f : Lf) : Prop := ∀ G F env s H ds env', Ok K G F env s H → f env = some (ds, env') → ∀ R : It → Hp → Prop, (∀ F' H' J, Ok K G F' env' s H' → Same F F' → Wk K G.R J F' ds → R J H') → wi s H R
structure XI (X : Cx) (tg iter : Expr) (f : Lf) : Prop where
  ex : ∃ wi, PI X tg iter wi ∧ RI X.K wi f
theorem wk_list {K : Frg} {P F0 : Hp} {a : Addr} {vs : List V} {ds : List D} (h1 : ∀ G F env s H, Same P G.R → Ok K G F env s H → Same F0 F → SqL K H a vs) (h2 : Da F0 vs ds) : Wk K P (Itl K a) F0 ds :=
  ⟨_, _, by rw [← h2.length]; exact walk_list, h1, fun i H x H' G F env s hi hp k e y => by
    obtain ⟨rfl, hx⟩ := y
    obtain ⟨d, h3, h4⟩ := h2.get' hx
    exact ⟨F, k, Same.refl F, fun _ _ h => h, d, h3, Dt.mono e _ _ h4⟩⟩
theorem wk_tup {K : Frg} {P F0 : Hp} {a : Addr} {vs : List V} {ds : List D} (h1 : F0 a = some (.tup vs)) (h2 : Da F0 vs ds) : Wk K P (Itt K a) F0 ds :=
  ⟨_, _, by rw [← h2.length]; exact walk_tup, fun G F env s H _ k e => SqT.of (k.fr _ _ (e _ _ h1)), fun i H x H' G F env s hi hp k e y => by
    obtain ⟨rfl, hx⟩ := y
    obtain ⟨d, h3, h4⟩ := h2.get' hx
    exact ⟨F, k, Same.refl F, fun _ _ h => h, d, h3, Dt.mono e _ _ h4⟩⟩
def signs (x : Str) : List D := x.cps.toList.map fun c => .str ⟨#[c]⟩
theorem wk_str {K : Frg} {P F0 : Hp} {x : Str} : Wk K P (Its x) F0 (signs x) :=
  ⟨_, _, by
    have : (signs x).length = x.cps.size := by simp [signs]
    rw [this]; exact walk_str, fun _ _ _ _ _ _ _ _ => trivial, fun i H y H' G F env s hi hp k e q => by
    obtain ⟨rfl, c, h1, rfl⟩ := q
    refine ⟨F, k, Same.refl F, fun _ _ h => h, .str ⟨#[c]⟩, ?_, .str _⟩
    unfold signs
    rw [List.getElem?_map, Array.getElem?_toList, h1]
    rfl⟩
def irange (lo : Int) (n : Nat) : List D := (List.range n).map fun (i : Nat) => PyData.int (lo + (i : Int))
theorem wk_range {K : Frg} {P F0 : Hp} {lo : Int} {n : Nat} : Wk K P (Itr lo n) F0 (irange lo n) :=
  ⟨_, _, by
    have : (irange lo n).length = n := by simp [irange]
    rw [this]; exact walk_range, fun _ _ _ _ _ _ _ _ => trivial, fun i H y H' G F env s hi hp k e q => by
    obtain ⟨rfl, rfl⟩ := q
    refine ⟨F, k, Same.refl F, fun _ _ h => h, .int (lo + (i : Int)), ?_, .int _⟩
    have hi' : i < n := by simpa [irange] using hi
    unfold irange
    rw [List.getElem?_map, List.getElem?_range hi']
    rfl⟩
/-- pairs, each a new tuple -/
def pairs (xs ys : List D) : List D := (xs.zip ys).map fun p => .tuple [p.1, p.2]
theorem wk_pair {K : Frg} {P F0 : Hp} {J : It} {n : Nat} {Gp : Hp → Prop} {f g : Nat → Option V} {xs ys : List D} (w : Walk J n Gp (YPair f g)) (hn : n = min xs.length ys.length) (hG : ∀ G F env s H, Same P G.R → Ok K G F env s H → Same F0 F → Gp H)
    (hx : ∀ i v, i < n → f i = some v → ∃ d, xs[i]? = some d ∧ Dt F0 v d) (hy : ∀ i v, i < n → g i = some v → ∃ d, ys[i]? = some d ∧ Dt F0 v d) : Wk K P J F0 (pairs xs ys) :=
  ⟨_, _, by
    have : (pairs xs ys).length = n := by simp [pairs, hn]
    rw [this]; exact w, hG, fun i H v H' G F env s hi hp k e q => by
    have hi' : i < n := by simp [pairs] at hi; omega
    obtain ⟨T, x, y, rfl, hT, rfl, h1, h2⟩ := q
    obtain ⟨d1, h3, h4⟩ := hx i x hi' h1
    obtain ⟨d2, h5, h6⟩ := hy i y hi' h2
    have se : Same F (upd F T (.tup [x, y])) := same_upd (k.fr.free hT)
    refine ⟨_, k.alloc hT, se, fun a o h => same_upd hT a o h, .tuple [d1, d2], ?_, .tup upd_same (.cons (Dt.mono (e.trans se) _ _ h4) (.cons (Dt.mono (e.trans se) _ _ h6) .nil))⟩
    unfold pairs
    rw [List.getElem?_map, (List.getElem?_zip_eq_some (z := (d1, d2))).mpr ⟨h3, h5⟩]
    rfl⟩
section
variable {X : Cx} {tg e a b : Expr} {fe fa fb : Ef} {f g : Sf} {pos : Pos} {K : Frg}
/-- a list, a tuple, a text -/
def iSeq (K : Frg) (tl : TE) : TI := fun s H R => tl s H fun x H1 => (∃ a, x = .ref a ∧ (∃ xs, SqL K H1 a xs) ∧ R (Itl K a) H1) ∨ (∃ a, x = .ref a ∧ (∃ xs, SqT K H1 a xs) ∧ R (Itt K a) H1) ∨ ∃ z, x = .str z ∧ R (Its z) H1
theorem pi_seq {l : Expr} {tl : TE} (hl : PE X l tl) : PI X tg l (iSeq X.K tl) := by
  refine ⟨fun pins s σ H R I h => ?_⟩
  refine thn (hl.run pins s σ H _ I h) fun v s1 ⟨x, H1, I1, r1, q1⟩ => ?_
  rcases q1 with ⟨a, e, ⟨xs, hq⟩, q⟩ | ⟨a, e, ⟨xs, hq⟩, q⟩ | ⟨z, e, q⟩
  · subst e
    cases r1
    obtain ⟨its, rv, p, hz⟩ := I1.list hq
    refine wpAny_pyIter_list p.isList ?_
    refine ⟨s1.heap.objs.size, [s1.heap.objs.size], _, _, H1, rfl, I1.kept (t' := s1.toks) fun b o e => Heap.get?_push_of_some _ e, turn_list a _, ⟨_, Heap.get?_push_size _ rfl, rfl, rfl⟩, fun b hb => ?_, q⟩
    have e : b = s1.heap.objs.size := by simpa using hb
    subst e
    exact I1.fpOk (Nat.le_refl _) (I1.hok.fresh (Nat.le_refl _))
  · subst e
    cases r1
    obtain ⟨its, rv, p, hz⟩ := I1.tuple hq
    refine wpAny_pyIter_tuple (show s1.heap.IsTuple a its.toArray from p) ?_
    refine ⟨s1.heap.objs.size, [s1.heap.objs.size], _, _, H1, rfl, I1.kept (t' := s1.toks) fun b o e => Heap.get?_push_of_some _ e, turn_tuple a _, ⟨_, Heap.get?_push_size _ rfl, rfl, rfl⟩, fun b hb => ?_, q⟩
    have e : b = s1.heap.objs.size := by simpa using hb
    subst e
    exact I1.fpOk (Nat.le_refl _) (I1.hok.fresh (Nat.le_refl _))
  · subst e
    obtain ⟨t, rfl⟩ := r1
    cases ha : z.cps.all (· < 128)
    · exact wpAny_pyIter_wide ha (pi_one (tk := s1.toks) I1 _ (turn_str _ z t "str_iterator" (.inr rfl)) ⟨_, Heap.get?_push_size _ rfl, rfl, rfl⟩ q)
    · exact wpAny_pyIter_ascii ha (pi_one (tk := s1.toks) I1 _ (turn_str _ z t "str_ascii_iterator" (.inl rfl)) ⟨_, Heap.get?_push_size _ rfl, rfl, rfl⟩ q)
def lIt (f : Ef) : Lf := fun env => (f env).bind fun r => match r.1 with
  | .list ds => some (ds, r.2)
  | .tuple ds => some (ds, r.2)
  | .str x => some (signs x, r.2)
  | _ => none
theorem xi_seq (ha : XE X e fe) : XI X tg e (lIt fe) := by
  obtain ⟨t, h1, h2⟩ := ha.ex
  refine ⟨_, pi_seq h1, fun G F env s H ds env' k e R q => ?_⟩
  unfold lIt at e
  obtain ⟨⟨d, e1⟩, h3, e⟩ := Option.bind_eq_some_iff.mp e
  refine h2 G F env s H d e1 k h3 _ fun F1 H1 v k1 s1 p1 => ?_
  cases p1 with
  | lst a1 b1 =>
    cases e
    exact .inl ⟨_, rfl, ⟨_, SqL.of (k1.fr _ _ a1)⟩, q F1 H1 _ k1 s1 (wk_list (fun G F env s H _ k e => SqL.of (k.fr _ _ (e _ _ a1))) b1)⟩
  | tup a1 b1 =>
    cases e
    exact .inr (.inl ⟨_, rfl, ⟨_, SqT.of (k1.fr _ _ a1)⟩, q F1 H1 _ k1 s1 (wk_tup a1 b1)⟩)
  | str x =>
    cases e
    exact .inr (.inr ⟨_, rfl, q F1 H1 _ k1 s1 wk_str⟩)
  | _ => cases e
def smallI (i : Int) : Bool := decide (-1000000000 ≤ i) && decide (i ≤ 1000000000)
def lRng1 (f : Ef) : Lf := fun env => (f env).bind fun r => match r.1 with
  | .int n => if smallI n then some (irange 0 n.toNat, r.2) else none
  | _ => none
def lRng2 (f g : Ef) : Lf := fun env => (f env).bind fun r => (g r.2).bind fun q => match r.1, q.1 with
  | .int m, .int n => if smallI m && smallI n then some (irange m (n - m).toNat, q.2) else none
  | _, _ => none
theorem xi_rng1 {p : Pos} (ha : XE X a fa) (hm : X.mg "range" = none) (hg : Gl X "range" := by rfl) (hs : starEach [a] X.env = [(false, eval a X.env)] := by rfl) : XI X tg (.Call (.Name "range" p) [a] [] pos) (lRng1 fa) := by
  obtain ⟨t, h1, h2⟩ := ha.ex
  refine ⟨_, pi_range1 hg hm (pa_cons h1 pa_nil (by rw [hs]; rfl)) hs, fun G F env s H ds env' k e R q => ?_⟩
  unfold lRng1 at e
  obtain ⟨⟨d, e1⟩, h3, e⟩ := Option.bind_eq_some_iff.mp e
  refine h2 G F env s H d e1 k h3 _ fun F1 H1 v k1 s1 p1 => ?_
  cases p1 with
  | int n =>
    dsimp only at e
    split at e
    · rename_i hf
      cases e
      unfold smallI at hf
      simp only [Bool.and_eq_true, decide_eq_true_eq] at hf
      exact ⟨n, rfl, by omega, by omega, q F1 H1 _ k1 s1 wk_range⟩
    · cases e
  | _ => cases e
def lEnum (f : Ef) : Lf := fun env => (f env).bind fun r => match r.1 with
  | .list ds => some (pairs (irange 0 ds.length) ds, r.2)
  | _ => none
theorem xi_enum {p tpos : Pos} {elts : List Expr} {kk : Nat} (ha : XE X a fa) (hm : X.mg "enumerate" = none) (hg : Gl X "enumerate" := by rfl) (hs : starEach [a] X.env = [(false, eval a X.env)] := by rfl) : XI X (.Tuple elts kk tpos) (.Call (.Name "enumerate" p) [a] [] pos) (lEnum fa) := by
  obtain ⟨t, h1, h2⟩ := ha.ex
  refine ⟨_, pi_enum hg hm (pa_cons h1 pa_nil (by rw [hs]; rfl)) hs, fun G F env s H ds env' k e R q => ?_⟩
  unfold lEnum at e
  obtain ⟨⟨d, e1⟩, h3, e⟩ := Option.bind_eq_some_iff.mp e
  refine h2 G F env s H d e1 k h3 _ fun F1 H1 v k1 s1 p1 => ?_
  cases p1 with
  | lst a1 b1 =>
    cases e
    refine ⟨_, _, rfl, SqL.of (k1.fr _ _ a1), q F1 H1 _ k1 s1 (wk_pair walk_enum (by simp [irange, b1.length]) (fun G F env s H _ k e => SqL.of (k.fr _ _ (e _ _ a1))) (fun i v hi hv => ?_) fun i v _ hv => b1.get' hv)⟩
    cases hv
    refine ⟨.int (i : Int), ?_, .int _⟩
    unfold irange
    rw [List.getElem?_map, List.getElem?_range (by rw [← b1.length]; exact hi)]
    simp
  | _ => cases e
def lZip (f g : Ef) : Lf := fun env => (f env).bind fun r => (g r.2).bind fun q => match r.1, q.1 with
  | .list ds, .list es => some (pairs ds es, q.2)
  | .tuple ds, .tuple es => some (pairs ds es, q.2)
  | _, _ => none
theorem walk_zipT {K : Frg} {a b : Addr} {xs ys : List V} {n : Nat} (hn : n = min xs.length ys.length) : Walk (RZ.ItzT K a b) n (fun H => SqT K H a xs ∧ SqT K H b ys) (YPair (fun i => xs[i]?) (fun i => ys[i]?)) := by
  subst hn
  refine ⟨fun i _ hi q => ?_, fun _ q => ⟨xs, ys, q.1, q.2, by omega⟩, fun i H v H' _ q y => ?_⟩
  · have h1 : i < xs.length := by omega
    have h2 : i < ys.length := by omega
    exact ⟨xs, ys, xs[i], ys[i], q.1, q.2, by simp [h1], by simp [h2]⟩
  · obtain ⟨T, x, z, h1, h2, h3, h4, h5⟩ := y
    exact ⟨T, x, z, h1, h2, h3, h4 xs q.1, h5 ys q.2⟩
theorem xi_zip {p tpos : Pos} {elts : List Expr} {kk : Nat} (ha : XE X a fa) (hb : XE X b fb) (hm : X.mg "zip" = none) (hg : Gl X "zip" := by rfl) (hs : starEach [a, b] X.env = (false, eval a X.env) :: starEach [b] X.env := by rfl) (hs2 : starEach [b] X.env = (false, eval b X.env) :: starEach [] X.env := by rfl)
    (hpl : (backTo pos (starEach [b] X.env)).any (·.1) = false := by rfl) : XI X (.Tuple elts kk tpos) (.Call (.Name "zip" p) [a, b] [] pos) (lZip fa fb) := by
  obtain ⟨t, h1, h2⟩ := ha.ex
  obtain ⟨u, h3, h4⟩ := hb.ex
  refine ⟨_, RZ.pi_zipA hg hm (pa_cons h1 (pa_cons h3 pa_nil hs2) hs) hs hpl, fun G F env s H ds env' k e R q => ?_⟩
  unfold lZip at e
  obtain ⟨⟨d, e1⟩, h5, e⟩ := Option.bind_eq_some_iff.mp e
  obtain ⟨⟨d2, e2⟩, h6, e⟩ := Option.bind_eq_some_iff.mp e
  refine h2 G F env s H d e1 k h5 _ fun F1 H1 v k1 s1 p1 => ?_
  refine h4 G F1 e1 s H1 d2 e2 k1 h6 _ fun F2 H2 v2 k2 s2 p2 => ?_
  have p3 := Dt.mono s2 _ _ p1
  cases p3 with
  | lst a1 b1 =>
    cases p2 with
    | lst a2 b2 =>
      cases e
      exact ⟨_, _, _, _, rfl, .inl ⟨SqL.of (k2.fr _ _ a1), SqL.of (k2.fr _ _ a2), q F2 H2 _ k2 (s1.trans s2) (wk_pair (walk_zip rfl) (by rw [b1.length, b2.length]) (fun G F env s H _ k e => ⟨SqL.of (k.fr _ _ (e _ _ a1)), SqL.of (k.fr _ _ (e _ _ a2))⟩) (fun i v _ hv => b1.get' hv) fun i v _ hv => b2.get' hv)⟩⟩
    | _ => cases e
  | tup a1 b1 =>
    cases p2 with
    | tup a2 b2 =>
      cases e
      exact ⟨_, _, _, _, rfl, .inr ⟨SqT.of (k2.fr _ _ a1), SqT.of (k2.fr _ _ a2), q F2 H2 _ k2 (s1.trans s2) (wk_pair (walk_zipT rfl) (by rw [b1.length, b2.length]) (fun G F env s H _ k e => ⟨SqT.of (k.fr _ _ (e _ _ a1)), SqT.of (k.fr _ _ (e _ _ a2))⟩) (fun i v _ hv => b1.get' hv) fun i v _ hv => b2.get' hv)⟩⟩
    | _ => cases e
  | _ => cases e

/-! ### for -/
def forGo (g : Tf) (body : Sf) : List D → En → Option Out
  | [], env => some (.nx env)
  | d :: ds, env => (g d env).bind fun env1 => (body env1).bind fun o => match o with
    | .nx env2 => forGo g body ds env2
    | o => some o
def sFor (src : Lf) (g : Tf) (body : Sf) : Sf := fun env => (src env).bind fun r => forGo g body r.1 r.2
theorem xs_for {iter : Expr} {body : List Stmt} {src : Lf} {gt : Tf} {sl : List Nat} {fb : Sf} (hp : PassesOwn (model X.prog X.w) X.A X.env X.xe) (hi : XI X tg iter src) (hg : XG X tg gt sl) (hb : XSs X body fb) (hc : X.calm = true := by rfl)
    (hs : ∀ x, foldedSetIterable iter X.env x = pure x := by intro _; rfl) : XS X (.For tg iter body [] pos) (sFor src gt fb) := by
  obtain ⟨wi, p1, q1⟩ := hi.ex
  obtain ⟨tg', p2, q2⟩ := hg.ex
  obtain ⟨tb, p3, q3⟩ := hb.ex
  refine ⟨_, ps_for hp hc p1 p2 p3 hs, fun G F env s H o k e E q => ?_⟩
  unfold sFor at e
  obtain ⟨⟨ds, e1⟩, h1, e⟩ := Option.bind_eq_some_iff.mp e
  refine q1 G F env s H ds e1 k h1 _ fun F1 H1 J k1 s1 w => ?_
  obtain ⟨Gp, Y, w1, w2, w3⟩ := w
  refine for_it w1 (fun i s' H' => ∃ F' env', Ok X.K G F' env' s' H' ∧ Same F1 F' ∧ forGo gt fb (ds.drop i) env' = some o) ⟨F1, e1, k1, Same.refl F1, e⟩ (fun i s' H' hi ⟨F', env', k', s'', _⟩ => w2 G F' env' s' H' (Same.refl _) k' s'') (fun i x s' H' H'' hi ⟨F', env', k', s'', e'⟩ y => ?_) fun s' H' ⟨F', env', k', s'', e'⟩ => ?_
  · obtain ⟨F2, k2, s2, _, d, hd, pd⟩ := w3 i H' x H'' G F' env' s' hi (Same.refl _) k' s'' y
    have hdr : ds.drop i = d :: ds.drop (i + 1) := by
      obtain ⟨hl, hx⟩ := List.getElem?_eq_some_iff.mp hd
      rw [List.drop_eq_getElem_cons hl, hx]
    rw [hdr] at e'
    unfold forGo at e'
    obtain ⟨env2, h2, e'⟩ := Option.bind_eq_some_iff.mp e'
    obtain ⟨o2, h3, e'⟩ := Option.bind_eq_some_iff.mp e'
    refine q2 G F2 env' s' H'' x d env2 k2 pd h2 _ fun s3 k3 _ => ?_
    refine q3 G F2 env2 s3 H'' o2 k3 h3 _ ?_
    cases o2 with
    | nx env3 => exact fun F4 s4 H4 k4 s5 => ⟨F4, env3, k4, (s''.trans s2).trans s5, e'⟩
    | rt v ee =>
      cases e'
      exact (q.up (s1.trans (s''.trans s2))).same_rt rfl (by simp)
    | rn v ee =>
      cases e'
      exact (q.up (s1.trans (s''.trans s2))).same_rt rfl (by simp)
    | rp v w ee =>
      cases e'
      exact (q.up (s1.trans (s''.trans s2))).same_rt rfl (by simp)
  · rw [List.drop_length] at e'
    cases e'
    exact q F' s' H' k' (s1.trans s'')

/-! ### while -/
def whGo (c : Bf) (body : Sf) : Nat → En → Option Out
  | 0, _ => none
  | n + 1, env => (c env).bind fun r => if r.1 then (body r.2).bind fun o => match o with
    | .nx env2 => whGo c body n env2
    | o => some o
    else some (.nx r.2)
def sWh (n : Nat) (c : Bf) (body : Sf) : Sf := whGo c body n
theorem xs_while (n : Nat) {c : Expr} {body : List Stmt} {gc : Bf} {fb : Sf} (hp : PassesOwn (model X.prog X.w) X.A X.env X.xe) (hc : XB X c gc) (hb : XSs X body fb) : XS X (.While c body [] pos) (sWh n gc fb) := by
  obtain ⟨tc, p1, q1⟩ := hc.ex
  obtain ⟨tb, p2, q2⟩ := hb.ex
  refine ⟨_, ps_while hp p1 p2, fun G F env s H o k e E q => ?_⟩
  refine ⟨fun m s' H' => ∃ F' env', Ok X.K G F' env' s' H' ∧ Same F F' ∧ whGo gc fb m env' = some o, ⟨n, F, env, k, Same.refl F, e⟩, ?_⟩
  rintro m s' H' ⟨F', env', k', s'', e'⟩
  cases m with
  | zero => cases e'
  | succ m =>
    unfold whGo at e'
    obtain ⟨⟨b, e1⟩, h1, e'⟩ := Option.bind_eq_some_iff.mp e'
    refine q1 G F' env' s' H' b e1 k' h1 _ fun F1 H1 k1 s1 => ?_
    cases b with
    | true =>
      rw [if_pos rfl] at e' ⊢
      obtain ⟨o2, h3, e'⟩ := Option.bind_eq_some_iff.mp e'
      refine ⟨fun s2 H2 => ∃ F2 env2, Ok X.K G F2 env2 s2 H2 ∧ Same F F2 ∧ whGo gc fb m env2 = some o, fun s2 H2 h => ⟨m, Nat.lt_succ_self m, h⟩, ?_⟩
      refine q2 G F1 e1 s' H1 o2 k1 h3 _ ?_
      cases o2 with
      | nx env3 => exact fun F4 s4 H4 k4 s5 => ⟨F4, env3, k4, (s''.trans s1).trans s5, e'⟩
      | rt v ee =>
        cases e'
        exact (q.up (s''.trans s1)).same_rt rfl (by simp)
      | rn v ee =>
        cases e'
        exact (q.up (s''.trans s1)).same_rt rfl (by simp)
      | rp v w ee =>
        cases e'
        exact (q.up (s''.trans s1)).same_rt rfl (by simp)
    | false =>
      rw [if_neg Bool.false_ne_true] at e' ⊢
      cases e'
      exact q F1 s' H1 k1 (s''.trans s1)

/-! ### list comprehensions -/
def wipeE (env : En) : List Nat → En
  | [] => env
  | v :: vs => (wipeE env vs).set v .no
def backE (old env : En) : List Nat → En
  | [] => env
  | v :: vs => match old[v]? with
    | some x => (backE old env vs).set v x
    | none => backE old env vs
def noOwn (env : En) : List Nat → Bool
  | [] => true
  | v :: vs => (!isOwn env v && !isDct env v) && noOwn env vs
def lcGo (vs : List Nat) (g : Tf) (c : Bf) (f : Ef) : List D → En → Option (List D × En)
  | [], env => some ([], env)
  | d :: ds, env => (g d env).bind fun env1 => (c env1).bind fun r => if r.1 then (f r.2).bind fun q => (lcGo vs g c f ds (wipeE q.2 vs)).map fun w => (q.1 :: w.1, w.2)
    else lcGo vs g c f ds (wipeE r.2 vs)
def lComp (src : Lf) (vs : List Nat) (g : Tf) (c : Bf) (f : Ef) : Lf := fun env => (src env).bind fun r => if noOwn r.2 vs && fits r.1.length then (lcGo vs g c f r.1 (wipeE r.2 vs)).map fun w => (w.1, backE r.2 w.2 vs) else none
theorem wipeE_length (env : En) : ∀ vs : List Nat, (wipeE env vs).length = env.length
  | [] => rfl
  | v :: vs => by unfold wipeE; rw [List.length_set, wipeE_length env vs]
theorem wipeE_get (env : En) : ∀ (vs : List Nat) (j : Nat), (wipeE env vs)[j]? = if j ∈ vs ∧ j < env.length then some .no else env[j]?
  | [], j => by simp [wipeE]
  | v :: vs, j => by
    unfold wipeE
    by_cases hj : v = j
    · subst hj
      by_cases hl : v < env.length
      · rw [List.getElem?_set_self (by rw [wipeE_length]; exact hl)]
        simp [hl]
      · rw [List.getElem?_eq_none (by rw [List.length_set, wipeE_length]; omega), List.getElem?_eq_none (by omega)]
        simp [hl]
    · rw [List.getElem?_set_ne hj, wipeE_get env vs j]
      have : ¬ j = v := fun e => hj e.symm
      simp [this]
theorem backE_length (old env : En) : ∀ vs : List Nat, (backE old env vs).length = env.length
  | [] => rfl
  | v :: vs => by
    unfold backE
    split
    · rw [List.length_set, backE_length old env vs]
    · exact backE_length old env vs
theorem backE_get (old env : En) (hl : old.length = env.length) : ∀ (vs : List Nat) (j : Nat), (backE old env vs)[j]? = if j ∈ vs then old[j]? else env[j]?
  | [], j => by simp [backE]
  | v :: vs, j => by
    unfold backE
    by_cases hj : v = j
    · subst hj
      cases hx : old[v]? with
      | some x =>
        have hv : v < old.length := (List.getElem?_eq_some_iff.mp hx).1
        simp only
        rw [List.getElem?_set_self (by rw [backE_length, ← hl]; exact hv)]
        simp
      | none =>
        simp only
        rw [backE_get old env hl vs v, hx]
        have : env[v]? = none := by rw [List.getElem?_eq_none_iff] at hx ⊢; omega
        simp [this]
    · have hn : ¬ j = v := fun e => hj e.symm
      cases hx : old[v]? with
      | some x => simp only; rw [List.getElem?_set_ne hj, backE_get old env hl vs j]; simp [hn]
      | none => simp only; rw [backE_get old env hl vs j]; simp [hn]
theorem noOwn_get {env : En} : ∀ {vs : List Nat} {j : Nat}, noOwn env vs = true → j ∈ vs → ∀ l ds, env[j]? ≠ some (.own l ds)
  | v :: vs, j, h, hj, l, ds => fun e => by
    unfold noOwn at h
    simp only [Bool.and_eq_true, Bool.not_eq_true'] at h
    rcases List.mem_cons.mp hj with rfl | hj
    · have := h.1.1
      unfold isOwn at this
      rw [e] at this; cases this
    · exact noOwn_get h.2 hj l ds e
theorem noOwn_dct {env : En} : ∀ {vs : List Nat} {j : Nat}, noOwn env vs = true → j ∈ vs → ∀ w kvs, env[j]? ≠ some (.dct w kvs)
  | v :: vs, j, h, hj, w, kvs => fun e => by
    unfold noOwn at h
    simp only [Bool.and_eq_true, Bool.not_eq_true'] at h
    rcases List.mem_cons.mp hj with rfl | hj
    · have := h.1.2
      unfold isDct at this
      rw [e] at this; cases this
    · exact noOwn_dct h.2 hj w kvs e
theorem ok_wipe {G : Gm} {F : Hp} {env : En} {s : L2.St} {H : Hp} (vs : List Nat) (k : Ok K G F env s H) : Ok K G F (wipeE env vs) (wipe s vs) H := by
  have key : ∀ {j : Nat} {x : Sl}, (wipeE env vs)[j]? = some x → x ≠ .no → env[j]? = some x ∧ (wipe s vs)[j]? = s[j]? := fun {j x} e hx => by
    rw [wipeE_get] at e
    rw [wipe_get]
    split at e
    · cases e; exact absurd rfl hx
    · rename_i hn
      exact ⟨e, by rw [k.len]; rw [if_neg hn]⟩
  refine ⟨by rw [wipe_length, wipeE_length, k.len], k.fr, fun j d e => ?_, fun j l ds e => ?_, fun j ds e => ?_, fun i j l ds m es e1 e2 e3 => ?_, k.pin, k.dom, k.grow, k.new, k.rin, k.dct.slots fun j w kvs e => key e (by simp)⟩
  · obtain ⟨h1, h2⟩ := key e (by simp)
    rw [h2]; exact k.val j d h1
  · obtain ⟨h1, h2⟩ := key e (by simp)
    rw [h2]; exact k.own j l ds h1
  · obtain ⟨h1, h2⟩ := key e (by simp)
    rw [h2]; exact k.ro j ds h1
  · obtain ⟨h1, h2⟩ := key e1 (by simp)
    obtain ⟨h3, h4⟩ := key e2 (by simp)
    rw [h2, h4] at e3
    exact k.sep i j _ _ _ _ h1 h3 e3
/-- slots that know less -/
theorem ok_weak {G : Gm} {F : Hp} {env : En} {s s' : L2.St} {H : Hp} (k : Ok K G F env s H) (hl : s'.length = s.length) (h : ∀ (j : Nat) x, env[j]? = some x → x ≠ .no → s'[j]? = s[j]?) : Ok K G F env s' H := by
  refine ⟨by rw [hl, k.len], k.fr, fun j d e => ?_, fun j l ds e => ?_, fun j ds e => ?_, fun i j l ds m es e1 e2 e3 => ?_, k.pin, k.dom, k.grow, k.new, k.rin, k.dct.slots fun j w kvs e => ⟨e, h j _ e (by simp)⟩⟩
  · rw [h j _ e (by simp)]; exact k.val j d e
  · rw [h j _ e (by simp)]; exact k.own j l ds e
  · rw [h j _ e (by simp)]; exact k.ro j ds e
  · rw [h i _ e1 (by simp), h j _ e2 (by simp)] at e3
    exact k.sep i j _ _ _ _ e1 e2 e3
/-- a frame with one more pinned object -/
abbrev Gm.pin (G : Gm) (p : Addr) (o : HO) : Gm := { G with P := upd G.P p o, H0 := upd G.H0 p o }
theorem ok_pin {G : Gm} {F : Hp} {env : En} {s : L2.St} {H : Hp} {p : Addr} {o : HO} (k : Ok K G F env s H) (hp : H p = some o) (hn : ∀ (j : Nat) l es, env[j]? = some (.own l es) → s[j]? ≠ some (some (.ref p))) (hP : G.P p = none) (hF : F p = none) (hD : ∀ (j : Nat) w kvs, env[j]? = some (.dct w kvs) → s[j]? ≠ some (some (.ref p))) : Ok K (G.pin p o) F env s H := by
  refine ⟨k.len, k.fr, k.val, fun j l ds e => ?_, k.ro, k.sep, fun a u e => ?_, fun a e => ?_, k.grow, fun a u e => ?_, k.rin.trans (same_upd hP), k.dct.move (fun _ _ e => e) (fun _ _ _ e => ⟨e, rfl⟩) fun a es g1 g2 g3 g4 ⟨i, w, kvs, g5, g6⟩ => ?_⟩
  · obtain ⟨a, vs, h1, h2, h3, h4, h5, h6, h7⟩ := k.own j l ds e
    have ne : a ≠ p := fun z => by subst z; exact hn j l ds e h1
    exact ⟨a, vs, h1, h2, h3, by show upd G.P p o a = none; rw [upd_ne ne]; exact h4, h5, fun z => by show upd G.H0 p o a = none; rw [upd_ne ne]; exact h6 z, h7⟩
  · have e : upd G.P p o a = some u := e
    by_cases h : a = p
    · subst h; rw [upd_same] at e; rw [hp]; exact e
    · rw [upd_ne h] at e; exact k.pin a u e
  · show upd G.H0 p o a = none
    have ne : a ≠ p := fun z => by subst z; rw [hp] at e; cases e
    rw [upd_ne ne]; exact k.dom a e
  · rcases k.new a u e with z | z
    · exact .inl z
    · have ne : a ≠ p := fun z => by subst z; rw [hF] at e; cases e
      exact .inr (by show upd G.H0 p o a = none; rw [upd_ne ne]; exact z)
  · have ne : a ≠ p := fun z => by subst z; exact hD i w kvs g5 g6
    exact ⟨g1, g2, by show upd G.P p o a = none; rw [upd_ne ne]; exact g3, by show upd G.H0 p o a = none; rw [upd_ne ne]; exact g4⟩
theorem ok_unpin {G : Gm} {F : Hp} {env : En} {s : L2.St} {H : Hp} {p : Addr} {o : HO} (k : Ok K (G.pin p o) F env s H) (hP : G.P p = none) (h0 : G.H0 p = none) (hr : Same G.R G.P) : Ok K G F env s H := by
  have pn : ∀ a, upd G.P p o a = none → G.P a = none ∧ a ≠ p := fun a e => by
    by_cases h : a = p
    · subst h; rw [upd_same] at e; cases e
    · rw [upd_ne h] at e; exact ⟨e, h⟩
  refine ⟨k.len, k.fr, k.val, fun j l ds e => ?_, k.ro, k.sep, fun a u e => k.pin a u (same_upd hP a u e), fun a e => ?_, k.grow, fun a u e => ?_, hr, k.dct.move (fun _ _ e => e) (fun _ _ _ e => ⟨e, rfl⟩) fun a es g1 g2 g3 g4 _ => ?_⟩
  · obtain ⟨a, vs, h1, h2, h3, h4, h5, h6, h7⟩ := k.own j l ds e
    obtain ⟨h8, h9⟩ := pn a h4
    exact ⟨a, vs, h1, h2, h3, h8, h5, fun z => by have q : upd G.H0 p o a = none := h6 z; rw [upd_ne h9] at q; exact q, h7⟩
  · by_cases h : a = p
    · subst h; exact h0
    · have q : upd G.H0 p o a = none := k.dom a e
      rw [upd_ne h] at q; exact q
  · rcases k.new a u e with z | z
    · exact .inl z
    · have z : upd G.H0 p o a = none := z
      by_cases h : a = p
      · subst h; rw [upd_same] at z; cases z
      · rw [upd_ne h] at z; exact .inr z
  · obtain ⟨h8, h9⟩ := pn a g3
    exact ⟨g1, g2, h8, by have q : upd G.H0 p o a = none := g4; rw [upd_ne h9] at q; exact q⟩
/-- a pinned object is never frozen -/
theorem pin_nofrz {G : Gm} {F : Hp} {env : En} {s : L2.St} {H : Hp} {p : Addr} {o : HO} (k : Ok K (G.pin p o) F env s H) (h : G.F0 p = none) : F p = none := by
  cases hx : F p with
  | none => rfl
  | some u =>
    rcases k.new p u hx with z | z
    · have z : G.F0 p = some u := z
      rw [h] at z; cases z
    · have z : upd G.H0 p o p = none := z
      rw [upd_same] at z; cases z
theorem pin_at {G : Gm} {F : Hp} {env : En} {s : L2.St} {H : Hp} {p : Addr} {o : HO} (k : Ok K (G.pin p o) F env s H) : H p = some o := k.pin p o (by show upd G.P p o p = some o; rw [upd_same])
/-- an object that is pinned changes its content -/
theorem ok_repin {G : Gm} {F : Hp} {env : En} {s : L2.St} {H : Hp} {p : Addr} {o o' : HO} (k : Ok K (G.pin p o) F env s H) (hP : G.P p = none) (hF : F p = none) (hr : Same G.R G.P) : Ok K (G.pin p o') F env s (upd H p o') := by
  have pn : ∀ a, upd G.P p o a = none → upd G.P p o' a = none ∧ a ≠ p := fun a e => by
    by_cases h : a = p
    · subst h; rw [upd_same] at e; cases e
    · rw [upd_ne h] at e; exact ⟨by rw [upd_ne h]; exact e, h⟩
  have hn : ∀ a, upd G.H0 p o a = none → upd G.H0 p o' a = none := fun a e => by
    by_cases h : a = p
    · subst h; rw [upd_same] at e; cases e
    · rw [upd_ne h] at e ⊢; exact e
  refine ⟨k.len, fun a u e => ?_, k.val, fun j l ds e => ?_, k.ro, k.sep, fun a u e => ?_, fun a e => ?_, k.grow, fun a u e => ?_, hr.trans (same_upd hP), k.dct.move (fun _ _ e => e) (fun _ _ _ e => ⟨e, rfl⟩) fun a es g1 g2 g3 g4 _ => ?_⟩
  · have ne : a ≠ p := fun z => by subst z; rw [hF] at e; cases e
    rw [upd_ne ne]; exact k.fr a u e
  · obtain ⟨a, vs, h1, h2, h3, h4, h5, h6, h7⟩ := k.own j l ds e
    obtain ⟨h8, h9⟩ := pn a h4
    exact ⟨a, vs, h1, by rw [upd_ne h9]; exact h2, h3, h8, h5, fun z => hn a (h6 z), h7⟩
  · have e : upd G.P p o' a = some u := e
    by_cases h : a = p
    · subst h; rw [upd_same] at e ⊢; exact e
    · rw [upd_ne h] at e ⊢
      exact k.pin a u (by show upd G.P p o a = some u; rw [upd_ne h]; exact e)
  · by_cases h : a = p
    · subst h; rw [upd_same] at e; cases e
    · rw [upd_ne h] at e; exact hn a (k.dom a e)
  · rcases k.new a u e with z | z
    · exact .inl z
    · exact .inr (hn a z)
  · obtain ⟨h8, h9⟩ := pn a g3
    exact ⟨by rw [upd_ne h9]; exact g1, g2, h8, hn a g4⟩
theorem lcGo_some {vs : List Nat} {g : Tf} {c : Bf} {f : Ef} {d : D} {ds : List D} {env env' : En} {zs : List D} (e : lcGo vs g c f (d :: ds) env = some (zs, env')) :
    ∃ env1 env2, g d env = some env1 ∧ ((∃ y env3 ws, c env1 = some (true, env2) ∧ f env2 = some (y, env3) ∧ lcGo vs g c f ds (wipeE env3 vs) = some (ws, env') ∧ zs = y :: ws) ∨ (c env1 = some (false, env2) ∧ lcGo vs g c f ds (wipeE env2 vs) = some (zs, env'))) := by
  unfold lcGo at e
  obtain ⟨env1, h1, e⟩ := Option.bind_eq_some_iff.mp e
  obtain ⟨⟨b, env2⟩, h2, e⟩ := Option.bind_eq_some_iff.mp e
  cases b with
  | true =>
    rw [if_pos rfl] at e
    obtain ⟨⟨y, env3⟩, h3, e⟩ := Option.bind_eq_some_iff.mp e
    obtain ⟨⟨ws, env4⟩, h4, e⟩ := Option.map_eq_some_iff.mp e
    cases e
    exact ⟨env1, env2, h1, .inl ⟨y, env3, ws, h2, h3, h4, rfl⟩⟩
  | false =>
    rw [if_neg Bool.false_ne_true] at e
    exact ⟨env1, env2, h1, .inr ⟨h2, e⟩⟩
theorem rn_comp {wi : TI} {gt : TG} {tt : TT} {te : TE} {src : Lf} {vs : List Nat} {g : Tf} {c : Bf} {f : Ef} {sl : List Nat} (hi : RI K wi src) (hg : RG K gt g sl) (ht : RB K tt c) (he : RE K te f) (hsl : ∀ i ∈ sl, i ∈ vs) :
    RN K (tLc wi gt tt te vs) (lComp src vs g c f) := fun G F env s H zs env' k e Q q => by
  unfold lComp at e
  obtain ⟨⟨ds, e1⟩, h1, e⟩ := Option.bind_eq_some_iff.mp e
  dsimp only at e
  split at e
  · rename_i hno
    rw [Bool.and_eq_true] at hno
    have hfit := fits_line hno.2
    obtain ⟨⟨ws, e2⟩, h2, e⟩ := Option.map_eq_some_iff.mp e
    cases e
    refine hi G F env s H ds e1 k h1 _ fun F1 H1 J k1 s1 w => ?_
    obtain ⟨Gp, Y, w1, w2, w3⟩ := w
    intro L hL
    have n1 : F1 L = none := k1.fr.free hL
    have n2 : G.P L = none := k1.pin.free hL
    have n3 : G.H0 L = none := k1.dom L hL
    have nown : ∀ (j : Nat) l es, e1[j]? = some (.own l es) → s[j]? ≠ some (some (.ref L)) := k1.notown hL
    have kw := ok_wipe vs k1
    have nw : ∀ (j : Nat) l es, (wipeE e1 vs)[j]? = some (.own l es) → (wipe s vs)[j]? ≠ some (some (.ref L)) := kw.notown hL
    have nF0 : G.F0 L = none := k1.grow.free n1
    -- the state at each turn
    refine lc_it w1 (fun i H' => ∃ F' env' accV accD rest, Ok K (G.pin L (.lst accV)) F' env' (wipe s vs) H' ∧ Same F1 F' ∧ Da F' accV accD ∧ accD.length ≤ i ∧ lcGo vs g c f (ds.drop i) env' = some (rest, e2) ∧ ws = accD ++ rest) ?_ ?_ ?_ ?_
    · refine ⟨F1, wipeE e1 vs, [], [], ws, ?_, Same.refl F1, .nil, Nat.zero_le _, h2, rfl⟩
      exact ok_pin (kw.laid hL) upd_same nw n2 n1 (kw.notdctN hL)
    · rintro i H' _ ⟨F', env', accV, accD, rest, k', s', _⟩
      exact w2 (G.pin L (.lst accV)) F' env' _ H' (Same.refl _) k' s'
    · rintro i x H' H'' hin ⟨F', env', accV, accD, rest, k', s', da, hlen, e', hw⟩ y
      obtain ⟨F2, k2, s2, hh, d, hd, pd⟩ := w3 i H' x H'' (G.pin L (.lst accV)) F' env' (wipe s vs) hin (Same.refl _) k' s' y
      have hdr : ds.drop i = d :: ds.drop (i + 1) := by
        obtain ⟨hl, hx⟩ := List.getElem?_eq_some_iff.mp hd
        rw [List.drop_eq_getElem_cons hl, hx]
      rw [hdr] at e'
      obtain ⟨env1, env2, g1, h3⟩ := lcGo_some e'
      refine hg _ F2 env' (wipe s vs) H'' x d env1 k2 pd g1 _ fun s3 k3 w3' => ?_
      have hwp : wipe s3 vs = wipe (wipe s vs) vs := w3' vs hsl
      have hww : wipe (wipe s vs) vs = wipe s vs := by
        refine List.ext_getElem? fun j => ?_
        rw [wipe_get, wipe_get, wipe_length]
        by_cases hj : j ∈ vs ∧ j < s.length
        · rw [if_pos hj, if_pos hj]
        · rw [if_neg hj, if_neg hj]
      refine ⟨by rw [hwp, hww], ?_⟩
      -- a turn's end
      have again : ∀ {F5 : Hp} {env5 : En} {H5 : Hp} {acc : List V}, Ok K (G.pin L (.lst acc)) F5 env5 s3 H5 → Ok K (G.pin L (.lst acc)) F5 (wipeE env5 vs) (wipe s vs) H5 := fun {F5 env5 H5 acc} k5 => by
        have := ok_wipe vs k5
        rw [hwp, hww] at this
        exact this
      rcases h3 with ⟨yv, env3, wr, hc, hf, hr, rfl⟩ | ⟨hc, hr⟩
      · refine ht _ F2 env1 s3 H'' true env2 k3 hc _ fun F3 H3 k4 s4 => ?_
        rw [if_pos rfl]
        refine he _ F3 env2 s3 H3 yv env3 k4 hf _ fun F4 H4 v k5 s5 p5 => ?_
        have ss : Same F1 F4 := ((s'.trans s2).trans s4).trans s5
        have ss' : Same F' F4 := (s2.trans s4).trans s5
        refine ⟨accV, pin_at k5, by rw [da.length]; omega, F4, wipeE env3 vs, accV ++ [v], accD ++ [yv], wr, again (ok_repin k5 n2 (pin_nofrz k5 nF0) k1.rin), ss, (Da.mono ss' _ _ da).append (.cons p5 .nil), by simp; omega, hr, by rw [hw]; simp⟩
      · refine ht _ F2 env1 s3 H'' false env2 k3 hc _ fun F3 H3 k4 s4 => ?_
        rw [if_neg Bool.false_ne_true]
        have ss : Same F1 F3 := (s'.trans s2).trans s4
        exact ⟨F3, wipeE env2 vs, accV, accD, rest, again k4, ss, Da.mono (s2.trans s4) _ _ da, by omega, hr, hw⟩
    · rintro H' ⟨F', env', accV, accD, rest, k', s', da, hlen, e', hw⟩
      rw [List.drop_length] at e'
      cases e'
      rw [List.append_nil] at hw
      subst hw
      have ku := ok_unpin k' n2 n3 k1.rin
      have f' := pin_nofrz k' nF0
      have hLL := pin_at k'
      have hle : e1.length = e2.length := by rw [← k1.len, ← ku.len, wipe_length]
      -- the slots of the comprehension's own names are as they were
      have kb : Ok K G F' (backE e1 e2 vs) s H' := by
        have key : ∀ {j : Nat} {x : Sl}, (backE e1 e2 vs)[j]? = some x → (j ∈ vs ∧ e1[j]? = some x) ∨ (j ∉ vs ∧ e2[j]? = some x ∧ s[j]? = (wipe s vs)[j]?) := fun {j x} e => by
          rw [backE_get e1 e2 hle] at e
          by_cases hj : j ∈ vs
          · rw [if_pos hj] at e; exact .inl ⟨hj, e⟩
          · rw [if_neg hj] at e
            refine .inr ⟨hj, e, ?_⟩
            rw [wipe_get, if_neg (fun z => hj z.1)]
        refine ⟨by rw [backE_length, ← hle]; exact k1.len, ku.fr, fun j d e => ?_, fun j l es e => ?_, fun j es e => ?_, fun j j' l es m fs e1' e2' e3' => ?_, ku.pin, ku.dom, ku.grow, ku.new, ku.rin, ku.dct.slots fun j w kvs e => ?_⟩
        · rcases key e with ⟨_, h⟩ | ⟨_, h, hs⟩
          · obtain ⟨v, q1, q2⟩ := k1.val j d h
            exact ⟨v, q1, Dt.mono s' _ _ q2⟩
          · rw [hs]; exact ku.val j d h
        · rcases key e with ⟨hj, h⟩ | ⟨_, h, hs⟩
          · exact absurd h (noOwn_get hno.1 hj l es)
          · rw [hs]; exact ku.own j l es h
        · rcases key e with ⟨_, h⟩ | ⟨_, h, hs⟩
          · obtain ⟨a, us, q1, q2, q3⟩ := k1.ro j es h
            exact ⟨a, us, q1, q2, Da.mono s' _ _ q3⟩
          · rw [hs]; exact ku.ro j es h
        · rcases key e1' with ⟨hj, h⟩ | ⟨_, h, hs⟩
          · exact absurd h (noOwn_get hno.1 hj l es)
          · rcases key e2' with ⟨hj2, h2⟩ | ⟨_, h2, hs2⟩
            · exact absurd h2 (noOwn_get hno.1 hj2 m fs)
            · rw [hs, hs2] at e3'
              exact ku.sep j j' _ _ _ _ h h2 e3'
        · rcases key e with ⟨hj, h⟩ | ⟨_, h, hs⟩
          · exact absurd h (noOwn_dct hno.1 hj w kvs)
          · exact ⟨h, hs⟩
      refine q F' H' L accV kb (s1.trans s') hLL f' n3 n2 (fun j l es e z => ?_) da
      obtain ⟨a, us, q1, q2, q3, q4, _⟩ := kb.own j l es e
      rw [z] at q1
      cases q1
      -- L is pinned in the frame of the block, so none of its own lists
      rw [backE_get e1 e2 hle] at e
      by_cases hj : j ∈ vs
      · rw [if_pos hj] at e
        exact noOwn_get hno.1 hj l es e
      · rw [if_neg hj] at e
        obtain ⟨b, us', g1, g2, g3, g4, _⟩ := k'.own j l es e
        rw [wipe_get, if_neg (fun w => hj w.1)] at g1
        rw [z] at g1
        cases g1
        have g4 : upd G.P L (.lst accV) L = none := g4
        rw [upd_same] at g4; cases g4
  · cases e
end
end M

namespace M
open PySem PySem.Spec PyProof.Rows L2

/-! ### the reading that hangs on the mirror alone -/
def cE (K : Frg) (f : Ef) : TE := fun s H Q => ∃ G F env d env', Ok K G F env s H ∧ f env = some (d, env') ∧ ∀ F' H' v, Ok K G F' env' s H' → Same F F' → Dt F' v d → Q v H'
def cB (K : Frg) (f : Bf) : TT := fun s H Q => ∃ G F env d env', Ok K G F env s H ∧ f env = some (d, env') ∧ ∀ F' H', Ok K G F' env' s H' → Same F F' → Q d H'
def cG (K : Frg) (g : Tf) (sl : List Nat) : TG := fun v s H Q => ∃ G F env d env', Ok K G F env s H ∧ Dt F v d ∧ g d env = some env' ∧ ∀ s', Ok K G F env' s' H → (∀ vs : List Nat, (∀ i ∈ sl, i ∈ vs) → wipe s' vs = wipe s vs) → Q s' H
structure XTs (X : Cx) (ifs : List Expr) (c : Bf) : Prop where
  ex : ∃ t, PTs X ifs t ∧ RB X.K t c
section
variable {X : Cx} {e tg : Expr} {f : Ef} {c : Bf} {g : Tf} {sl : List Nat} {K : Frg}
theorem XE.can (h : XE X e f) : PE X e (cE X.K f) := by
  obtain ⟨t, h1, h2⟩ := h.ex
  exact ⟨fun pins s σ H Q I ⟨G, F, env, d, env', k, e, q⟩ => h1.run pins s σ H Q I (h2 G F env σ H d env' k e Q q)⟩
theorem re_can : RE K (cE K f) f := fun G F env s H d env' k e Q q => ⟨G, F, env, d, env', k, e, q⟩
def bYes : Bf := fun env => some (true, env)
theorem xts_nil : XTs X [] bYes := ⟨_, pts_nil, fun G F env s H d env' k e Q q => by cases e; exact q F H k (Same.refl F)⟩
theorem xts_one (h : XB X e c) : XTs X [e] c := let ⟨_, h1, h2⟩ := h.ex; ⟨_, pts_one h1, h2⟩
theorem XTs.can {ifs : List Expr} (h : XTs X ifs c) : PTs X ifs (cB X.K c) := by
  obtain ⟨t, h1, h2⟩ := h.ex
  exact ⟨fun pins s σ H Q I ⟨G, F, env, d, env', k, e, q⟩ => h1.run pins s σ H Q I (h2 G F env σ H d env' k e Q q)⟩
theorem rb_can : RB K (cB K c) c := fun G F env s H d env' k e Q q => ⟨G, F, env, d, env', k, e, q⟩
theorem XG.can (h : XG X tg g sl) : PG X tg (cG X.K g sl) := by
  obtain ⟨t, h1, h2⟩ := h.ex
  exact ⟨fun pins s σ H v u Q I r ⟨G, F, env, d, env', k, p, e, q⟩ => h1.run pins s σ H v u Q I r (h2 G F env σ H v d env' k p e Q q)⟩
theorem rg_can : RG K (cG K g sl) g sl := fun G F env s H v d env' k p e Q q => ⟨G, F, env, d, env', k, p, e, q⟩

variable {elt iter : Expr} {ifs : List Expr} {scope : Scope} {own : List (Str × Nat)} {pos spos : Pos} {src : Lf}
theorem blkOk_to {N : List Str} {sc sc' scope : Scope} {own : List (Str × Nat)} (h : sc' = sc) (b : BlkOk N sc scope own) : BlkOk N sc' scope own := by subst h; exact b
/-- the context of a comprehension's block -/
abbrev Blk (X : Cx) (scope : Scope) (s : Shared) (H : Hp) (C : Addr) (cl : List (Str × Addr)) (fp : List Addr) : Cx := X.blk s H scope (compEnvC scope cl C X.env) fp
theorem xn_comp (hi : XI X tg iter src) (hN : X.N.Nodup) (ok : BlkOk X.N X.env.scope scope own) (hg : ∀ s H C cl fp, XG (Blk X scope s H C cl fp) tg g sl) (ht : ∀ s H C cl fp, XTs (Blk X scope s H C cl fp) ifs c) (he : ∀ s H C cl fp, XE (Blk X scope s H C cl fp) elt f)
    (hsl : ∀ i ∈ sl, i ∈ own.map (·.2) := by decide) (hc : X.calm = true := by rfl) (hs : ∀ x, foldedSetIterable iter X.env x = pure x := by intro _; rfl) : XN X (.ListComp elt [⟨tg, iter, ifs, 0⟩] scope pos) (lComp src (own.map (·.2)) g c f) := by
  obtain ⟨wi, p1, q1⟩ := hi.ex
  exact ⟨_, pe_lc hc hN p1 ok (fun s H C cl fp => (hg s H C cl fp).can) (fun s H C cl fp => (ht s H C cl fp).can) (fun s H C cl fp => (he s H C cl fp).can) hs, rn_comp q1 rg_can rb_can re_can hsl⟩
theorem xs_setComp (i : Nat) {y : Str} {py : Pos} (hi : XI X tg iter src) (hN : X.N.Nodup) (ok : BlkOk X.N X.env.scope scope own) (hg : ∀ s H C cl fp, XG (Blk X scope s H C cl fp) tg g sl) (ht : ∀ s H C cl fp, XTs (Blk X scope s H C cl fp) ifs c) (he : ∀ s H C cl fp, XE (Blk X scope s H C cl fp) elt f)
    (hsw : swapsWith (.ListComp elt [⟨tg, iter, ifs, 0⟩] scope pos) (some (.Name y py)) spos.line X.env = pure true) (hy : X.N[i]? = some y := by rfl) (hyl : X.env.scope.names.lookup y = some .local := by rfl)
    (hsl : ∀ i ∈ sl, i ∈ own.map (·.2) := by decide) (hc : X.calm = true := by rfl) (hs : ∀ x, foldedSetIterable iter X.env x = pure x := by intro _; rfl) :
    XS X (.Assign [.Name y py] (.ListComp elt [⟨tg, iter, ifs, 0⟩] scope pos) spos) (sSet i (eFz (lComp src (own.map (·.2)) g c f))) := by
  obtain ⟨wi, p1, q1⟩ := hi.ex
  exact ⟨_, ps_setLc hc hN hy hyl hsw p1 ok (fun s H C cl fp => (hg s H C cl fp).can) (fun s H C cl fp => (ht s H C cl fp).can) (fun s H C cl fp => (he s H C cl fp).can) hs, rs_set i (rn_comp q1 rg_can rb_can re_can hsl).re⟩
end

/-! ### a def -/
def fnRun (n np : Nat) (f : Sf) : Gf := fun args => if args.length = np then match f (args ++ List.replicate (n - np) .no) with
  | some (.nx env) => some (.none, env.take np)
  | some (.rt d env) => some (d, env.take np)
  | some (.rn ds env) => some (.list ds, env.take np)
  | some (.rp as ds env) => some (.tuple (as ++ [.list ds]), env.take np)
  | none => none
  else none
abbrev Hf := List Sl → Option (List D × List Sl)
/-- a def that hands back a new list -/
def fnNew (n np : Nat) (f : Sf) : Hf := fun args => if args.length = np then match f (args ++ List.replicate (n - np) .no) with
  | some (.rn ds env) => some (ds, env.take np)
  | _ => none
  else none
structure PostN (F H F' H' : Hp) (args args' : List Sl) (vs : List V) (p : Addr) (us : List V) (ds : List D) : Prop where
  keep : Same (minus H args vs) H'
  dom : ∀ a, H' a = none → H a = none
  grow : Same F F'
  fr : Same F' H'
  new : ∀ a o, F' a = some o → F a = some o ∨ H a = none
  at_ : H' p = some (.lst us)
  nf : F' p = none
  fresh : H p = none
  res : Da F' us ds
  own : ∀ (i : Nat) l ds, args[i]? = some (.own l ds) → ∀ ds', args'[i]? = some (.own false ds') → ∀ a, vs[i]? = some (.ref a) → ∃ us, H' a = some (.lst us) ∧ F' a = none ∧ Da F' us ds'
def spN (K : Frg) (g : Hf) : Sp := fun vs H Q _ => ∃ F args ds args', g args = some (ds, args') ∧ Same F H ∧ ArgsOk K F H args vs ∧ ∀ F' H' p us, PostN F H F' H' args args' vs p us ds → Q (.ref p) H'
def lCall (g : Hf) (fa : Af) : Lf := fun env => (fa env).bind fun r =>
  match rSlots r.1 with
  | [] => (resArs r.2 r.1).bind fun args => (g args).map fun q => (q.1, r.2)
  | [i] => if (oSlots r.1).contains i then none else (resArs r.2 r.1).bind fun args => (g args).bind fun q => (backAr r.2 r.1 q.2).map fun env' => (q.1, env')
  | _ => none
theorem rn_call {K : Frg} {g : Hf} {fa : Af} {t : TA} {E : XK} (ha : RA K t fa) : RN K (tCall (spN K g) [] E t) (lCall g fa) := fun G F env s H d env' k e Q q => by
  unfold lCall at e
  obtain ⟨⟨as, e1⟩, h1, e⟩ := Option.bind_eq_some_iff.mp e
  refine ha G F env s H as e1 k h1 _ fun F1 H1 vs k1 s1 p1 => ?_
  rw [List.append_nil]
  dsimp only at e
  -- the post in the other one's words, the list left out
  have po0 : ∀ {args args' : List Sl} {F' H' : Hp} {p : Addr} {us : List V} {ds : List D}, PostN F1 H1 F' H' args args' vs p us ds → Post F1 H1 F' H' args args' vs .non .none := fun po => ⟨po.keep, po.dom, po.grow, po.fr, po.new, .non, po.own⟩
  have noP : ∀ {args args' : List Sl} {F' H' : Hp} {p : Addr} {us : List V} {ds : List D}, PostN F1 H1 F' H' args args' vs p us ds → G.H0 p = none ∧ G.P p = none := fun po => ⟨k1.dom _ po.fresh, k1.pin.free po.fresh⟩
  -- none of the caller's own lists
  have no : ∀ {args args' : List Sl} {F' H' : Hp} {p : Addr} {us : List V} {ds : List D} {env2 : En}, PostN F1 H1 F' H' args args' vs p us ds → (∀ (j : Nat) l es, env2[j]? = some (.own l es) → ∃ fs, e1[j]? = some (.own l fs)) → ∀ (j : Nat) l es, env2[j]? = some (.own l es) → s[j]? ≠ some (some (.ref p)) := fun po bk j l es e z => by
    obtain ⟨fs, e2⟩ := bk j l es e
    exact k1.notown po.fresh j l fs e2 z
  split at e
  · rename_i hrs
    obtain ⟨args, h2, e⟩ := Option.bind_eq_some_iff.mp e
    obtain ⟨⟨d', args'⟩, h3, e⟩ := Option.map_eq_some_iff.mp e
    cases e
    refine ⟨F1, args, d', args', h3, k1.fr, args_ok k1 p1 h2 (by rw [hrs]; intro i hi; cases hi) (by rw [hrs]; intro i hi; cases hi), fun F' H' p us po => ?_⟩
    exact q F' H' p us (ok_after k1 p1 h2 (po0 po) rfl (fun j => .inl rfl) (by rw [hrs]; intro i hi; cases hi)) (s1.trans po.grow) po.at_ po.nf (noP po).1 (noP po).2 (no po fun j l es e => ⟨es, e⟩) po.res
  · rename_i i hrs
    split at e
    · cases e
    · rename_i hc
      obtain ⟨args, h2, e⟩ := Option.bind_eq_some_iff.mp e
      obtain ⟨⟨d', args'⟩, h3, e⟩ := Option.bind_eq_some_iff.mp e
      obtain ⟨env2, h4, e⟩ := Option.map_eq_some_iff.mp e
      cases e
      obtain ⟨j, l, ds, es, g1, g2, g3, g4⟩ := backAr_one hrs h4
      subst g4
      have hil : i < e1.length := (List.getElem?_eq_some_iff.mp g3).1
      refine ⟨F1, args, d', args', h3, k1.fr, args_ok k1 p1 h2 (by rw [hrs]; intro i' hi'; simp at hi'; subst hi'; intro hm; apply hc; simp [hm]) (by rw [hrs]; intro i' hi' j1 j2 q1 q2; simp at hi'; subst hi'; exact rSlots_one hrs j1 j2 q1 q2), fun F' H' p us po => ?_⟩
      refine q F' H' p us (ok_after k1 p1 h2 (po0 po) (by simp) (fun j' => ?_) ?_) (s1.trans po.grow) po.at_ po.nf (noP po).1 (noP po).2 (no po fun j' l' es' e' => ?_) po.res
      · by_cases hj : i = j'
        · subst hj
          exact .inr ⟨j, l, ds, es, g1, g2, g3, by rw [List.getElem?_set_self hil]⟩
        · exact .inl (List.getElem?_set_ne hj)
      · rw [hrs]
        intro i' hi' j' _
        simp at hi'
        subst hi'
        exact ⟨j, l, ds, g2, g1, by rw [List.getElem?_set_self hil]⟩
      · rcases set_get e' with ⟨rfl, _, z⟩ | ⟨_, z⟩
        · cases z; exact ⟨_, g3⟩
        · exact ⟨_, z⟩
  · cases e
section
variable {X : Cx} {k : Nat} {fx : Addr} {fd : FuncData} {ps : List Str} {x : Str} {p pos : Pos} {e : Expr} {es : List Expr} {fa : Af} {g : Hf}
theorem xn_call (FF : FnOk X.prog X.w X.K X.mg X.base CX0 k fx fd ps (spN X.K g)) (hr : Room k X.A) (hm : X.mg x = some (.ref fx)) (hk : PySem.W.keepIn X.K (.ref fx) = true) (hb : Binds X.K fd ps []) (ha : XA X (e :: es) fa) (hg : Gl X x := by rfl)
    (hdb : (x == ("__debug__" : Str)) = false := by decide) (he : starEach (e :: es) X.env = (false, eval e X.env) :: starEach es X.env := by rfl) (hpl : (backTo pos (starEach es X.env)).any (·.1) = false := by rfl) :
    XN X (.Call (.Name x p) (e :: es) [] pos) (lCall g fa) :=
  let ⟨_, h1, h2⟩ := ha.ex; ⟨_, pe_call FF hr hg hm hk hb .nil pass0 h1 hdb he hpl, rn_call h2⟩
end
theorem start_get {N : List Str} {vs : List V} {i : Nat} {v : V} (h : vs[i]? = some v) : (L2.start N vs)[i]? = some (some v) := by
  have hi : i < vs.length := (List.getElem?_eq_some_iff.mp h).1
  unfold L2.start
  rw [List.getElem?_append_left (by simpa using hi), List.getElem?_map, h]
  rfl
theorem app_get {args : List Sl} {m : Nat} {i : Nat} {x : Sl} (h : (args ++ List.replicate m .no)[i]? = some x) (hx : x ≠ .no) : args[i]? = some x := by
  by_cases hi : i < args.length
  · rw [List.getElem?_append_left hi] at h; exact h
  · rw [List.getElem?_append_right (by omega), List.getElem?_replicate] at h
    split at h
    · cases h; exact absurd rfl hx
    · cases h
theorem ok_start {K : Frg} {F H : Hp} {args : List Sl} {vs : List V} {N ps : List Str} (hl : ps.length = args.length) (hN : ps.length ≤ N.length) (fr : Same F H) (a : ArgsOk K F H args vs) :
    Ok K ⟨F, H, minus H args vs, minus H args vs, L2.start N vs⟩ F (args ++ List.replicate (N.length - ps.length) .no) (L2.start N vs) H where
  len := by unfold L2.start; simp only [List.length_append, List.length_map, List.length_replicate]; have := a.len; omega
  fr := fr
  val := fun i d e => by
    obtain ⟨v, h1, h2⟩ := a.val i d (app_get e (by simp))
    exact ⟨v, start_get h1, h2⟩
  own := fun i l ds e => by
    have e' := app_get e (by simp)
    obtain ⟨rfl, p, us, h1, h2, h3, h4⟩ := a.own i l ds e'
    refine ⟨p, us, start_get h1, h2, h3, ?_, h4, fun z => (by cases z), fun _ => start_get h1⟩
    show minus H args vs p = none
    unfold minus
    exact if_pos ⟨i, _, _, e', h1⟩
  ro := fun i ds e => by
    obtain ⟨p, us, h1, h2, h3⟩ := a.ro i ds (app_get e (by simp))
    exact ⟨p, us, start_get h1, h2, h3⟩
  sep := fun i j l ds m es e1 e2 e3 => by
    have e1' := app_get e1 (by simp)
    have e2' := app_get e2 (by simp)
    obtain ⟨_, p, us, h1, _⟩ := a.own i l ds e1'
    obtain ⟨_, q, us', h2, _⟩ := a.own j m es e2'
    rw [start_get h1, start_get h2] at e3
    exact a.sep i j _ _ _ _ e1' e2' (by rw [h1, h2]; exact Option.some.inj e3)
  pin := fun x o e => (minus_of e).1
  dom := fun x e => e
  grow := Same.refl F
  new := fun x o e => .inl e
  rin := Same.refl _
  dct := ⟨fun i w kvs e => absurd (app_get e (by simp)) (a.dct i w kvs), fun i j w kvs w' kvs' e _ _ => absurd (app_get e (by simp)) (a.dct i w kvs)⟩
theorem post_of {K : Frg} {F F' H H' : Hp} {args : List Sl} {vs : List V} {N : List Str} {env : En} {s : L2.St} {v : V} {d : D} {np : Nat} (a : ArgsOk K F H args vs) (hl : np = args.length) (k : Ok K ⟨F, H, minus H args vs, minus H args vs, L2.start N vs⟩ F' env s H') (p : Dt F' v d) : Post F H F' H' args (env.take np) vs v d where
  keep := k.pin
  dom := k.dom
  grow := k.grow
  fr := k.fr
  new := k.new
  res := p
  own := fun i l ds e ds' e' q hq => by
    have e2 : env[i]? = some (.own false ds') := by
      rw [List.getElem?_take] at e'
      split at e'
      · exact e'
      · cases e'
    obtain ⟨b, us, h1, h2, h3, _, h4, _, h5⟩ := k.own i false ds' e2
    have h6 : (L2.start N vs)[i]? = some (some (.ref b)) := h5 rfl
    rw [start_get hq] at h6
    cases h6
    exact ⟨us, h2, h3, h4⟩
section
variable {P : Program} {w : World} {K : Frg} {mg : Str → Option Value} {base : Heap}
theorem fn_ok {x qual : Str} {st : Stmt} {f : Addr} {fd : FuncData} {N ps : List Str} {k : Nat} {fb : Sf} (F : Fun K x qual st f fd) (S : FnScope N ps (defScope st))
    (hbody : ∀ (cdv : Value) (A : Around) (outer : List Env) (s : Shared) (H : Hp) (E : XK), Room k (A.deeper (envOfC qual (defScope st) s.heap.objs.size f cdv)) →
      XSs (cxOf CX0 P w K mg base N qual (defScope st) f cdv A outer s H E).nox (defBody st) fb) : FnOk P w K mg base CX0 (k + 1) f fd ps (spF K (fnRun N.length ps.length fb)) := by
  refine F.ok S (fun vs H Q E h => ?_) (fun cdv A outer s H vs Q E hr h => ?_)
  · obtain ⟨Fz, args, d, args', hg, fr, a, _⟩ := h
    unfold fnRun at hg
    split at hg
    · rename_i hl
      rw [a.len, hl]
    · cases hg
  · obtain ⟨Fz, args, d, args', hg, fr, a, q⟩ := h
    obtain ⟨t, h1, h2⟩ := (hbody cdv A outer s H E hr).ex
    refine ⟨t, h1, ?_⟩
    have hpl : ps.length ≤ N.length := by have := congrArg List.length S.pre; rw [List.length_take] at this; omega
    unfold fnRun at hg
    split at hg
    · rename_i hl
      have k0 := ok_start hl.symm hpl fr a
      split at hg
      · rename_i env he
        cases hg
        refine h2 _ Fz _ _ H _ k0 he _ ?_
        exact fun F' s' H' k' s1 => q F' H' .non (post_of a hl.symm k' .non)
      · rename_i d' env he
        cases hg
        refine h2 _ Fz _ _ H _ k0 he _ ?_
        exact fun F' s' H' v k' s1 p => q F' H' v (post_of a hl.symm k' p)
      · rename_i ds env he
        cases hg
        refine h2 _ Fz _ _ H _ k0 he _ ?_
        intro F' s' H' p us k' s1 g1 g2 g3 g4 g5 g6
        exact q _ H' (.ref p) (post_of a hl.symm (k'.freeze g1 g2 g3 g5 (k'.notdctL g1)) (.lst upd_same (Da.mono (same_upd g2) _ _ g6)))
      · rename_i as ds env he
        cases hg
        refine h2 _ Fz _ _ H _ k0 he _ ?_
        intro F' s' H' t p ws us k' s1 n
        obtain ⟨F2, k2, s2, pd, _⟩ := n.frz k'
        exact q F2 H' (.ref t) (post_of a hl.symm k2 pd)
      · cases hg
    · cases hg
theorem fn_new {x qual : Str} {st : Stmt} {f : Addr} {fd : FuncData} {N ps : List Str} {k : Nat} {fb : Sf} (F : Fun K x qual st f fd) (S : FnScope N ps (defScope st))
    (hbody : ∀ (cdv : Value) (A : Around) (outer : List Env) (s : Shared) (H : Hp) (E : XK), Room k (A.deeper (envOfC qual (defScope st) s.heap.objs.size f cdv)) →
      XSs (cxOf CX0 P w K mg base N qual (defScope st) f cdv A outer s H E).nox (defBody st) fb) : FnOk P w K mg base CX0 (k + 1) f fd ps (spN K (fnNew N.length ps.length fb)) := by
  refine F.ok S (fun vs H Q E h => ?_) (fun cdv A outer s H vs Q E hr h => ?_)
  · obtain ⟨Fz, args, d, args', hg, fr, a, _⟩ := h
    unfold fnNew at hg
    split at hg
    · rename_i hl
      rw [a.len, hl]
    · cases hg
  · obtain ⟨Fz, args, d, args', hg, fr, a, q⟩ := h
    obtain ⟨t, h1, h2⟩ := (hbody cdv A outer s H E hr).ex
    refine ⟨t, h1, ?_⟩
    have hpl : ps.length ≤ N.length := by have := congrArg List.length S.pre; rw [List.length_take] at this; omega
    unfold fnNew at hg
    split at hg
    · rename_i hl
      have k0 := ok_start hl.symm hpl fr a
      split at hg
      · rename_i ds env he
        cases hg
        refine h2 _ Fz _ _ H _ k0 he _ ?_
        intro F' s' H' p us k' s1 g1 g2 g3 g4 g5 g6
        have po := post_of (v := .non) (d := .none) a hl.symm k' .non
        exact q F' H' p us ⟨po.keep, po.dom, po.grow, po.fr, po.new, g1, g2, g3, g6, po.own⟩
      · cases hg
    · cases hg
end
end M

namespace M
open PySem PySem.Spec PyProof.Rows L2
section
variable {X : Cx} {e a b : Expr} {f fa fb : Ef} {p pos : Pos} {K : Frg}

/-! ### built-ins of one argument -/
def gLen : D → Option D
  | .list ds => some (.int (ds.length : Int))
  | .tuple ds => some (.int (ds.length : Int))
  | .str x => if fits x.length then some (.int (x.length : Int)) else none
  | _ => none
def rLen (K : Frg) : List V → Hp → VK → Prop := fun xs H Q => ∃ x n, xs = [x] ∧ LenV K x H n ∧ Q (.int n) H
theorem gc_len : GC K (rLen K) gLen := by
  intro G F env s H x d z k h1 h3 Q q
  unfold gLen at h3
  split at h3
  · cases h3
    obtain ⟨p, vs, rfl, h4, h5⟩ := h1.list k.fr
    refine ⟨_, vs.length, rfl, .inl ⟨vs, h4, rfl⟩, ?_⟩
    rw [h5.length]
    exact q F H _ k (Same.refl F) (.int _)
  · cases h3
    obtain ⟨p, vs, rfl, h4, _, h5⟩ := h1.tup k.fr
    refine ⟨_, vs.length, rfl, .inr ⟨vs, SqT.of h4, rfl⟩, ?_⟩
    rw [h5.length]
    exact q F H _ k (Same.refl F) (.int _)
  · split at h3
    · rename_i hf
      cases h3
      cases h1.str
      exact ⟨_, _, rfl, ⟨fits_line hf, rfl⟩, q F H _ k (Same.refl F) (.int _)⟩
    · cases h3
  · cases h3
theorem xe_len (hm : X.mg "len" = none) (ha : XO X e f) (hg : Gl X "len" := by rfl) (he : starEach [e] X.env = (false, eval e X.env) :: starEach [] X.env := by rfl) (hpl : (backTo pos (starEach [] X.env)).any (·.1) = false := by rfl) : XE X (.Call (.Name "len" p) [e] [] pos) (eUn gLen f) :=
  xe_cbB call_len PySem.boot_len gc_len hm ha hg (by decide) (by decide) he hpl
def gAbs : D → Option D
  | .int i => some (.int (if i < 0 then -i else i))
  | _ => none
def gInt : D → Option D
  | .int i => some (.int i)
  | .bool k => some (.int (if k then 1 else 0))
  | _ => none
theorem gc_int : GC K (fun xs H Q => (∃ i, xs = [.int i] ∧ Q (.int i) H) ∨ ∃ k, xs = [.bl k] ∧ Q (.int (if k then 1 else 0)) H) gInt := by
  intro G F env s H x d z k h1 h3 Q q
  unfold gInt at h3
  split at h3
  · cases h3; cases h1.int
    exact .inl ⟨_, rfl, q F H _ k (Same.refl F) (.int _)⟩
  · cases h3; cases h1.bl
    exact .inr ⟨_, rfl, q F H _ k (Same.refl F) (.int _)⟩
  · cases h3
theorem xe_int1 (hm : X.mg "int" = none) (ha : XO X e f) (hg : Gl X "int" := by rfl) (he : starEach [e] X.env = (false, eval e X.env) :: starEach [] X.env := by rfl) (hpl : (backTo pos (starEach [] X.env)).any (·.1) = false := by rfl) : XE X (.Call (.Name "int" p) [e] [] pos) (eUn gInt f) :=
  xe_cbT call_int1 boot_int gc_int hm ha hg (by decide) (by decide) he hpl
def gList : D → Option (List D)
  | .list ds => some ds
  | .tuple ds => some ds
  | _ => none
def gTuple : D → Option D
  | .list ds => some (.tuple ds)
  | .tuple ds => some (.tuple ds)
  | _ => none
theorem gc_tuple : GC K (fun xs H Q => ∃ p ys, xs = [.ref p] ∧ ((SqL K H p ys ∧ ∀ l, H l = none → Q (.ref l) (upd H l (.tup ys))) ∨ (SqT K H p ys ∧ Q (.ref p) H))) gTuple := by
  intro G F env s H x d z k h1 h3 Q q
  unfold gTuple at h3
  split at h3
  · cases h3
    obtain ⟨p, vs, rfl, h4, h5⟩ := h1.list k.fr
    exact ⟨p, vs, rfl, .inl ⟨h4, fun l hl => q _ _ _ (k.alloc hl) (same_upd (k.fr.free hl)) (.tup upd_same (Da.mono (same_upd (k.fr.free hl)) _ _ h5))⟩⟩
  · cases h3
    obtain ⟨p, vs, rfl, h4, h6, h5⟩ := h1.tup k.fr
    exact ⟨p, vs, rfl, .inr ⟨SqT.of h4, q F H _ k (Same.refl F) (.tup h6 h5)⟩⟩
  · cases h3
theorem xe_tuple (hm : X.mg "tuple" = none) (ha : XO X e f) (hg : Gl X "tuple" := by rfl) (he : starEach [e] X.env = (false, eval e X.env) :: starEach [] X.env := by rfl) (hpl : (backTo pos (starEach [] X.env)).any (·.1) = false := by rfl) : XE X (.Call (.Name "tuple" p) [e] [] pos) (eUn gTuple f) :=
  xe_cbT call_tuple_of boot_tuple gc_tuple hm ha hg (by decide) (by decide) he hpl
/-! whole numbers, truths in a list -/
def intsOf : List D → Option (List Int)
  | [] => some []
  | .int i :: ds => (intsOf ds).map fun r => i :: r
  | _ :: _ => none
def blsOf : List D → Option (List Bool)
  | [] => some []
  | .bool i :: ds => (blsOf ds).map fun r => i :: r
  | _ :: _ => none
theorem intsOf_some : ∀ {ds : List D} {ns : List Int}, intsOf ds = some ns → ds = ns.map .int
  | [], _, h => by cases h; rfl
  | .int i :: ds, ns, h => by
    unfold intsOf at h
    obtain ⟨r, h1, h⟩ := Option.map_eq_some_iff.mp h
    subst h
    rw [intsOf_some h1]; rfl
  | .none :: _, _, h => by cases h
  | .bool _ :: _, _, h => by cases h
  | .str _ :: _, _, h => by cases h
  | .list _ :: _, _, h => by cases h
  | .tuple _ :: _, _, h => by cases h
  | .dict _ :: _, _, h => by cases h
theorem blsOf_some : ∀ {ds : List D} {ns : List Bool}, blsOf ds = some ns → ds = ns.map .bool
  | [], _, h => by cases h; rfl
  | .bool i :: ds, ns, h => by
    unfold blsOf at h
    obtain ⟨r, h1, h⟩ := Option.map_eq_some_iff.mp h
    subst h
    rw [blsOf_some h1]; rfl
  | .none :: _, _, h => by cases h
  | .int _ :: _, _, h => by cases h
  | .str _ :: _, _, h => by cases h
  | .list _ :: _, _, h => by cases h
  | .tuple _ :: _, _, h => by cases h
  | .dict _ :: _, _, h => by cases h
theorem intsOf_map : ∀ ns : List Int, intsOf (ns.map .int) = some ns
  | [] => rfl
  | n :: ns => by show (intsOf (ns.map .int)).map _ = _; rw [intsOf_map ns]; rfl
theorem blsOf_map : ∀ ns : List Bool, blsOf (ns.map .bool) = some ns
  | [] => rfl
  | n :: ns => by show (blsOf (ns.map .bool)).map _ = _; rw [blsOf_map ns]; rfl
theorem Da.bls {F : Hp} : ∀ {ns : List Bool} {vs : List V}, Da F vs (ns.map .bool) → vs = ns.map V.bl
  | [], _, r => by cases r; rfl
  | n :: ns, _, r => by
    cases r with
    | cons a b => cases a; rw [Da.bls b]; rfl
theorem Da.irs {F : Hp} : ∀ {ns : List Int} {vs : List V}, Da F vs (ns.map .int) → vs = ns.map V.int
  | [], _, r => by cases r; rfl
  | n :: ns, _, r => by
    cases r with
    | cons a b => cases a; rw [Da.irs b]; rfl
def gSum : D → Option D
  | .list ds => (intsOf ds).map fun ns => .int ns.sum
  | _ => none
theorem gc_sum : GC K (rSum K) gSum := by
  intro G F env s H x d z k h1 h3 Q q
  unfold gSum at h3
  split at h3
  · obtain ⟨ns, h4, h5⟩ := Option.map_eq_some_iff.mp h3
    cases h5
    obtain ⟨p, vs, rfl, h6, h7⟩ := h1.list k.fr
    rw [intsOf_some h4] at h7
    rw [h7.irs] at h6
    exact ⟨p, ns, rfl, h6, q F H _ k (Same.refl F) (.int _)⟩
  · cases h3
theorem xe_sum (hm : X.mg "sum" = none) (ha : XO X e f) (hc : X.calm = true := by rfl) (hg : Gl X "sum" := by rfl) (he : starEach [e] X.env = (false, eval e X.env) :: starEach [] X.env := by rfl) (hpl : (backTo pos (starEach [] X.env)).any (·.1) = false := by rfl) : XE X (.Call (.Name "sum" p) [e] [] pos) (eUn gSum f) :=
  xe_cbB (cr_sum hc) boot_sum gc_sum hm ha hg (by decide) (by decide) he hpl
def gAll : D → Option D
  | .list ds => (blsOf ds).map fun ns => .bool (ns.all id)
  | _ => none
def gAny : D → Option D
  | .list ds => (blsOf ds).map fun ns => .bool (ns.any id)
  | _ => none
theorem gc_any : GC K (rAny K) gAny := by
  intro G F env s H x d z k h1 h3 Q q
  unfold gAny at h3
  split at h3
  · obtain ⟨ns, h4, h5⟩ := Option.map_eq_some_iff.mp h3
    cases h5
    obtain ⟨p, vs, rfl, h6, h7⟩ := h1.list k.fr
    rw [blsOf_some h4] at h7
    rw [h7.bls] at h6
    exact ⟨p, ns, rfl, h6, q F H _ k (Same.refl F) (.bl _)⟩
  · cases h3
theorem xe_any (hm : X.mg "any" = none) (ha : XO X e f) (hc : X.calm = true := by rfl) (hg : Gl X "any" := by rfl) (he : starEach [e] X.env = (false, eval e X.env) :: starEach [] X.env := by rfl) (hpl : (backTo pos (starEach [] X.env)).any (·.1) = false := by rfl) : XE X (.Call (.Name "any" p) [e] [] pos) (eUn gAny f) :=
  xe_cbB (cr_any hc) boot_any gc_any hm ha hg (by decide) (by decide) he hpl
/-! of two -/
def gMax2 : D → D → Option D
  | .int i, .int j => some (.int (if j > i then j else i))
  | _, _ => none
def gMin2 : D → D → Option D
  | .int i, .int j => some (.int (if j < i then j else i))
  | _, _ => none
/-! isinstance -/
inductive Ty where
  | int | bool | str | lst | tup
def isi : Ty → D → Option Bool
  | _, .dict _ => none
  | .int, .int _ => some true
  | .int, .bool _ => some true
  | .int, _ => some false
  | .bool, .bool _ => some true
  | .bool, _ => some false
  | .str, .str _ => some true
  | .str, _ => some false
  | .lst, .list _ => some true
  | .lst, _ => some false
  | .tup, .tuple _ => some true
  | .tup, _ => some false
def gIsi (T : Ty) (d : D) : Option D := (isi T d).map .bool
/-! ### in, not in -/
def flatD : D → Bool
  | .none => true
  | .bool _ => true
  | .int _ => true
  | .str _ => true
  | _ => false
def isIn (d e : D) : Option Bool := match d, e with
  | .str x, .str y => some (!(Builtin.Str.occurrences y x 0 y.length 1).isEmpty)
  | d, .list ds => if shp d && shp (.list ds) then some (ds.any fun e => PyData.eqv e d) else none
  | d, .tuple ds => if flatD d && ds.all flatD then some (ds.any fun e => PyData.eqv e d) else none
  | _, _ => none
def gIs (d e : D) : Option D := (isIn d e).map .bool
def gNi (d e : D) : Option D := (isIn d e).map fun b => .bool !b
def rInA (K : Frg) : R2 := fun x y H Q => (∃ i j, x = .str i ∧ y = .str j ∧ Q (.bl (!(Builtin.Str.occurrences j i 0 j.length 1).isEmpty)) H) ∨ rInD K x y H Q ∨ rIn K false x y H Q
def rNiA (K : Frg) : R2 := fun x y H Q => (∃ i j, x = .str i ∧ y = .str j ∧ Q (.bl (!(!(Builtin.Str.occurrences j i 0 j.length 1).isEmpty))) H) ∨ rNotInD K x y H Q ∨ rIn K true x y H Q
theorem op_inA (hu : X.A.units + 65 < cLine) : OpR X (compareOp .In) (rInA X.K) := op_in_str.or ((op_inD hu).or op_in_seq)
theorem op_niA (hu : X.A.units + 65 < cLine) : OpR X (compareOp .NotIn) (rNiA X.K) := op_notin_str.or ((op_notInD hu).or op_notIn_seq)
theorem flat_v {F : Hp} {v : V} {d : D} (h : Dt F v d) (f : flatD d = true) : flatV v = true := by
  cases h <;> first | rfl | (exact absurd f Bool.false_ne_true)
theorem eq_flat {F : Hp} {v u : V} {d e : D} (h : Dt F v d) (g : Dt F u e) (f : flatD d = true) (f' : flatD e = true) : eqV v u = PyData.eqv d e := by
  cases h <;> cases g <;> first | (exact absurd f Bool.false_ne_true) | (exact absurd f' Bool.false_ne_true) | simp [eqV, PyData.eqv]
theorem any_flat {F : Hp} {u : V} {e : D} (g : Dt F u e) (f' : flatD e = true) : ∀ {ds : List D} {vs : List V}, Da F vs ds → ds.all flatD = true → vs.all flatV = true ∧ (vs.any fun y => eqV y u) = ds.any fun y => PyData.eqv y e
  | [], _, h, _ => by cases h; exact ⟨rfl, rfl⟩
  | d :: ds, _, h, f => by
    cases h with
    | cons h1 h2 =>
      rw [List.all_cons, Bool.and_eq_true] at f
      obtain ⟨q1, q2⟩ := any_flat g f' h2 f.2
      refine ⟨by rw [List.all_cons, flat_v h1 f.1, q1]; rfl, ?_⟩
      rw [List.any_cons, List.any_cons, eq_flat h1 g f.1 f', q2]
theorem in_cases {G : Gm} {F : Hp} {env : En} {s : L2.St} {H : Hp} {x y : V} {d e : D} {b : Bool} (k : Ok K G F env s H) (h1 : Dt F x d) (h2 : Dq K F H y e) (h : isIn d e = some b) :
    (∃ i j, x = .str i ∧ y = .str j ∧ b = !(Builtin.Str.occurrences j i 0 j.length 1).isEmpty) ∨ (∃ ds, Dp K H x d ∧ Dp K H y (.list ds) ∧ SeqAt.shaped d = true ∧ SeqAt.shaped (.list ds) = true ∧ b = ds.any fun e => PyData.eqv e d) ∨
      ∃ p xs, y = .ref p ∧ (SqL K H p xs ∨ SqT K H p xs) ∧ flatV x = true ∧ xs.all flatV = true ∧ b = inV x xs := by
  unfold isIn at h
  split at h
  · cases h; cases h1
    exact .inl ⟨_, _, rfl, h2.str, rfl⟩
  · split at h
    · rename_i hf
      cases h
      rw [Bool.and_eq_true] at hf
      exact .inr (.inl ⟨_, (Dq.dp k.fr (nd_sh hf.1) (.inl h1)), h2.dp k.fr (nd_sh hf.2), hf.1, hf.2, rfl⟩)
    · cases h
  · split at h
    · rename_i hf
      cases h
      rw [Bool.and_eq_true] at hf
      obtain ⟨p, vs, rfl, h3, _, h4⟩ := h2.tup k.fr
      obtain ⟨q1, q2⟩ := any_flat h1 hf.1 h4 hf.2
      exact .inr (.inr ⟨p, vs, rfl, .inr (SqT.of h3), flat_v h1 hf.1, q1, q2.symm⟩)
    · cases h
  · cases h
theorem re_in {ta tb : TE} (h1 : RE K ta fa) (h2 : RO K tb fb) : RE K (tOp (rInA K) ta tb) (eBin gIs fa fb) := fun G F env s H d env' k e Q q => by
  obtain ⟨d1, e1, d2, h3, h4, h5⟩ := bin_some e
  unfold gIs at h5
  obtain ⟨b, h6, h7⟩ := Option.map_eq_some_iff.mp h5
  cases h7
  refine h1 G F env s H d1 e1 k h3 _ fun F1 H1 v1 k1 s1 p1 => ?_
  refine h2 G F1 e1 s H1 d2 env' k1 h4 _ fun F2 H2 v2 k2 s2 p2 => ?_
  have fin := q F2 H2 (.bl b) k2 (s1.trans s2) (.bl b)
  rcases in_cases k2 (Dt.mono s2 _ _ p1) p2 h6 with ⟨i, j, rfl, rfl, rfl⟩ | ⟨ds, g1, g2, g3, g4, rfl⟩ | ⟨p, xs, rfl, g1, g2, g3, rfl⟩
  · exact .inl ⟨_, _, rfl, rfl, fin⟩
  · exact .inr (.inl ⟨_, _, g1, g2, g3, g4, fin⟩)
  · exact .inr (.inr ⟨_, _, rfl, g1, g2, g3, fin⟩)
theorem re_ni {ta tb : TE} (h1 : RE K ta fa) (h2 : RO K tb fb) : RE K (tOp (rNiA K) ta tb) (eBin gNi fa fb) := fun G F env s H d env' k e Q q => by
  obtain ⟨d1, e1, d2, h3, h4, h5⟩ := bin_some e
  unfold gNi at h5
  obtain ⟨b, h6, h7⟩ := Option.map_eq_some_iff.mp h5
  cases h7
  refine h1 G F env s H d1 e1 k h3 _ fun F1 H1 v1 k1 s1 p1 => ?_
  refine h2 G F1 e1 s H1 d2 env' k1 h4 _ fun F2 H2 v2 k2 s2 p2 => ?_
  have fin := q F2 H2 (.bl !b) k2 (s1.trans s2) (.bl !b)
  rcases in_cases k2 (Dt.mono s2 _ _ p1) p2 h6 with ⟨i, j, rfl, rfl, rfl⟩ | ⟨ds, g1, g2, g3, g4, rfl⟩ | ⟨p, xs, rfl, g1, g2, g3, rfl⟩
  · exact .inl ⟨_, _, rfl, rfl, fin⟩
  · exact .inr (.inl ⟨_, _, g1, g2, g3, g4, fin⟩)
  · exact .inr (.inr ⟨_, _, rfl, g1, g2, g3, fin⟩)
theorem xe_in (hu : X.A.units + 65 < cLine) (ha : XE X a fa) (hb : XO X b fb) (hm : behindInMarks .In b = false := by rfl) : XE X (.Compare a [.In] [b] pos) (eBin gIs fa fb) :=
  let ⟨_, h1, h2⟩ := ha.ex; let ⟨_, h3, h4⟩ := hb.ex; ⟨_, pe_cmpR (op_inA hu) h1 h3 hm, re_in h2 h4⟩
theorem xb_ni (hu : X.A.units + 65 < cLine) (ha : XE X a fa) (hb : XO X b fb) (hm : behindInMarks .NotIn b = false := by rfl) : XB X (.Compare a [.NotIn] [b] pos) (bV (eBin gNi fa fb)) :=
  let ⟨_, h1, h2⟩ := ha.ex; let ⟨_, h3, h4⟩ := hb.ex; ⟨_, pt_cmpR (op_niA hu) h1 h3 hm, rb_test (re_ni h2 h4)⟩
end
/-! ### is None -/
def isNone : D → Bool
  | .none => true
  | _ => false
def gIsN : D → D → Option D
  | d, .none => some (.bool (isNone d))
  | _, _ => none
def gNtN : D → D → Option D
  | d, .none => some (.bool (!isNone d))
  | _, _ => none
theorem none_dq {K : Frg} {F H : Hp} {x : V} {d : D} (h : Dq K F H x d) : decide (x = .non) = isNone d := by
  rcases h with h | ⟨a, vs, ds, rfl, rfl, _⟩
  · cases h <;> rfl
  · rfl
def qNotN : R2 := fun x y H Q => y = .non ∧ Q (.bl (!decide (x = .non))) H
theorem op_notNo {X : Cx} : OpR X (compareOp .IsNot) qNotN := op_notN
theorem gq_ntN {K : Frg} : GQ K qNotN gNtN := by
  intro G F env s H x y d e z k h1 h2 h3 Q q
  unfold gNtN at h3
  split at h3
  · cases h3
    rcases h2 with h2 | ⟨a, vs, ds, _, h, _⟩
    · cases h2
      have q' := q F H (.bl (!isNone d)) k (Same.refl F) (.bl _)
      rw [← none_dq h1] at q'
      unfold qNotN
      exact And.intro rfl q'
    · cases h
  · cases h3
end M

namespace M
open PySem PySem.Spec PyProof.Rows L2
def FU : Nat := 10 ^ 300
theorem hu65 {k : Nat} {A : Around} (hr : Room k A) : A.units + 65 < cLine := by have := hr.un; omega
theorem da_irs {F : Hp} : ∀ ns : List Int, Da F (ns.map V.int) (ns.map .int)
  | [] => .nil
  | n :: ns => .cons (.int n) (da_irs ns)
theorem law_sp {K : Frg} {H : Hp} {a : Addr} {ns : List Int} {g : Gf} (hS : SqL K H a (ns.map V.int)) (h : ∃ args', g [.ro (ns.map .int)] = some (.bool true, args')) :
    spF K g [.ref a] H (fun v _ => v = .bl true) fun _ _ _ => False := by
  obtain ⟨args', h⟩ := h
  have hm : minus H [.ro (ns.map .int)] [.ref a] = H := by
    funext b
    unfold minus
    rw [if_neg]
    rintro ⟨j, l, es, h1, _⟩
    cases j with
    | zero => cases h1
    | succ j => simp at h1
  refine ⟨fun _ => none, _, _, args', h, fun b o e => (by cases e), ⟨rfl, fun i d e => ?_, fun i l ds e => ?_, fun i ds e => ?_, fun i j l ds m es e1 e2 e3 => ?_, fun i w kvs e => ?_⟩, fun F' H' v po => ?_⟩
  · cases i with
    | zero => cases e
    | succ j => simp at e
  · cases i with
    | zero => cases e
    | succ j => simp at e
  · cases i with
    | zero =>
      cases e
      exact ⟨a, _, rfl, by rw [hm]; exact hS, da_irs ns⟩
    | succ j => simp at e
  · cases i with
    | zero => cases e1
    | succ j => simp at e1
  · cases i with
    | zero => cases e
    | succ j => simp at e
  · have := po.res
    cases this
    rfl
theorem fn_okE {P : Program} {w : World} {K : Frg} {mg : Str → Option Value} {base : Heap} {x qual : Str} {st : Stmt} {f : Addr} {fd : FuncData} {N ps : List Str} {k : Nat} {g : Gf} (fb : Sf) (n np : Nat) (F : Fun K x qual st f fd) (S : FnScope N ps (defScope st))
    (hn : N.length = n) (hp : ps.length = np) (hg : g = fnRun n np fb)
    (hbody : ∀ (cdv : Value) (A : Around) (outer : List Env) (s : Shared) (H : Hp) (E : XK), Room k (A.deeper (envOfC qual (defScope st) s.heap.objs.size f cdv)) →
      XSs (cxOf CX0 P w K mg base N qual (defScope st) f cdv A outer s H E).nox (defBody st) fb) : FnOk P w K mg base CX0 (k + 1) f fd ps (spF K g) := by
  subst hn hp hg
  exact fn_ok F S hbody
theorem fn_newE {P : Program} {w : World} {K : Frg} {mg : Str → Option Value} {base : Heap} {x qual : Str} {st : Stmt} {f : Addr} {fd : FuncData} {N ps : List Str} {k : Nat} {g : Hf} (fb : Sf) (n np : Nat) (F : Fun K x qual st f fd) (S : FnScope N ps (defScope st))
    (hn : N.length = n) (hp : ps.length = np) (hg : g = fnNew n np fb)
    (hbody : ∀ (cdv : Value) (A : Around) (outer : List Env) (s : Shared) (H : Hp) (E : XK), Room k (A.deeper (envOfC qual (defScope st) s.heap.objs.size f cdv)) →
      XSs (cxOf CX0 P w K mg base N qual (defScope st) f cdv A outer s H E).nox (defBody st) fb) : FnOk P w K mg base CX0 (k + 1) f fd ps (spN K g) := by
  subst hn hp hg
  exact fn_new F S hbody
end M

/-! the least that must hold ahead: rules to reason about the mirrors, no program in sight -/
namespace M
open PySem PySem.Spec PyProof.Rows L2
def WO {α : Type} (o : Option α) (Q : α → Prop) : Prop := ∃ x, o = some x ∧ Q x
def WE (f : Ef) (env : En) (Q : D → En → Prop) : Prop := ∃ d e, f env = some (d, e) ∧ Q d e
def WL (f : Lf) (env : En) (Q : List D → En → Prop) : Prop := ∃ d e, f env = some (d, e) ∧ Q d e
def WB (f : Bf) (env : En) (Q : Bool → En → Prop) : Prop := ∃ d e, f env = some (d, e) ∧ Q d e
def WA (f : Af) (env : En) (Q : List Ar → En → Prop) : Prop := ∃ d e, f env = some (d, e) ∧ Q d e
def WP (f : Pf) (env : En) (Q : Option Int → En → Prop) : Prop := ∃ d e, f env = some (d, e) ∧ Q d e
def WT (g : Tf) (d : D) (env : En) (Q : En → Prop) : Prop := ∃ e, g d env = some e ∧ Q e
def WTs (g : List D → En → Option En) (d : List D) (env : En) (Q : En → Prop) : Prop := ∃ e, g d env = some e ∧ Q e
def WG (g : Gf) (args : List Sl) (Q : D → List Sl → Prop) : Prop := ∃ d e, g args = some (d, e) ∧ Q d e
def WH (g : Hf) (args : List Sl) (Q : List D → List Sl → Prop) : Prop := ∃ d e, g args = some (d, e) ∧ Q d e
/-- what a statement leaves -/
structure Po where
  n : En → Prop
  r : D → En → Prop
  l : List D → En → Prop
def Po.at (Q : Po) : Out → Prop
  | .nx e => Q.n e
  | .rt d e => Q.r d e
  | .rn ds e => Q.l ds e
  | .rp as ds e => Q.r (.tuple (as ++ [.list ds])) e
def WS (f : Sf) (env : En) (Q : Po) : Prop := ∃ o, f env = some o ∧ Q.at o
/-- slots to be worked out first -/
def Nrm (e : En) (Q : En → Prop) : Prop := Q e
def IfB (b : Bool) (A B : Prop) : Prop := if b then A else B
def IsB (d : D) (Q : Bool → Prop) : Prop := match d with
  | .bool b => Q b
  | _ => False
def IsL (d : D) (Q : List D → Prop) : Prop := match d with
  | .list b => Q b
  | _ => False
def IsS (d : D) (Q : List D → Prop) : Prop := match d with
  | .list b => Q b
  | .tuple b => Q b
  | _ => False
def Fit (n : Nat) (Q : Prop) : Prop := fits n = true ∧ Q
def Sml (n : Int) (Q : Prop) : Prop := smallI n = true ∧ Q
def Own (s : Option Sl) (Q : Bool → List D → Prop) : Prop := ∃ b ds, s = some (.own b ds) ∧ Q b ds
def Any (s : Option Sl) (Q : List D → Prop) : Prop := ∃ b ds, (s = some (.own b ds) ∨ s = some (.ro ds)) ∧ Q ds
def CallG (g : Gf) (as : List Ar) (e : En) (Q : D → En → Prop) : Prop :=
  (rSlots as = [] ∧ WO (resArs e as) fun args => WG g args fun d _ => Q d e) ∨ (∃ i, rSlots as = [i] ∧ (oSlots as).contains i = false ∧ WO (resArs e as) fun args => WG g args fun d a' => WO (backAr e as a') fun e' => Q d e')
def CallH (g : Hf) (as : List Ar) (e : En) (Q : List D → En → Prop) : Prop :=
  (rSlots as = [] ∧ WO (resArs e as) fun args => WH g args fun d _ => Q d e) ∨ (∃ i, rSlots as = [i] ∧ (oSlots as).contains i = false ∧ WO (resArs e as) fun args => WH g args fun d a' => WO (backAr e as a') fun e' => Q d e')
def Two (ds : List D) (Q : D → D → Prop) : Prop := match ds with
  | [x, y] => Q x y
  | _ => False
def WC (vs : List Nat) (g : Tf) (c : Bf) (f : Ef) (ds : List D) (env : En) (Q : List D → En → Prop) : Prop := ∃ xs e, lcGo vs g c f ds env = some (xs, e) ∧ Q xs e
def IsI (d : D) (Q : Int → Prop) : Prop := match d with
  | .int b => Q b
  | _ => False
section
variable {env : En} {d e : D} {f fa fb fc : Ef} {p q c : Bf} {l : Lf} {i j : Nat} {g : D → D → Option D}
theorem ifb_dec {P : Prop} [Decidable P] {A B : Prop} (h1 : P → A) (h2 : ¬ P → B) : IfB (decide P) A B := by
  unfold IfB
  by_cases h : P
  · simp [h, h1 h]
  · simp [h, h2 h]
theorem ifb_decT {P : Prop} [Decidable P] {A B : Prop} (h : P) (a : A) : IfB (decide P) A B := ifb_dec (fun _ => a) fun n => absurd h n
theorem ifb_decF {P : Prop} [Decidable P] {A B : Prop} (h : ¬ P) (b : B) : IfB (decide P) A B := ifb_dec (fun p => absurd p h) fun _ => b
theorem ifb_not {b : Bool} {A B : Prop} (h : IfB b B A) : IfB (!b) A B := by cases b <;> exact h
theorem ifb_t {A B : Prop} (h : A) : IfB true A B := h
theorem ifb_f {A B : Prop} (h : B) : IfB false A B := h
theorem ifb_eT {b : Bool} {A B : Prop} (h : b = true) (a : A) : IfB b A B := by subst h; exact a
theorem ifb_eF {b : Bool} {A B : Prop} (h : b = false) (a : B) : IfB b A B := by subst h; exact a
theorem ifb_any {b : Bool} {A B : Prop} (h1 : b = true → A) (h2 : b = false → B) : IfB b A B := by cases b; exact h2 rfl; exact h1 rfl
theorem isb {b : Bool} {Q : Bool → Prop} (h : Q b) : IsB (.bool b) Q := h
theorem isi_ {b : Int} {Q : Int → Prop} (h : Q b) : IsI (.int b) Q := h

theorem isl {b : List D} {Q : List D → Prop} (h : Q b) : IsL (.list b) Q := h
theorem iss_l {b : List D} {Q : List D → Prop} (h : Q b) : IsS (.list b) Q := h
theorem iss_t {b : List D} {Q : List D → Prop} (h : Q b) : IsS (.tuple b) Q := h
theorem nrm_ {e e' : En} {Q : En → Prop} (h : e = e') (q : Q e') : Nrm e Q := by subst h; exact q
theorem two_ {x y : D} {Q : D → D → Prop} (h : Q x y) : Two [x, y] Q := h
theorem fit_ {n : Nat} {Q : Prop} (h : fits n = true) (q : Q) : Fit n Q := ⟨h, q⟩
theorem sml_ {n : Int} {Q : Prop} (h1 : -1000000000 ≤ n) (h2 : n ≤ 1000000000) (q : Q) : Sml n Q := ⟨by unfold smallI; rw [decide_eq_true h1, decide_eq_true h2]; rfl, q⟩
theorem own_ {s : Option Sl} {b : Bool} {ds : List D} {Q : Bool → List D → Prop} (h : s = some (.own b ds)) (q : Q b ds) : Own s Q := ⟨b, ds, h, q⟩
theorem any_o {s : Option Sl} {b : Bool} {ds : List D} {Q : List D → Prop} (h : s = some (.own b ds)) (q : Q ds) : Any s Q := ⟨b, ds, .inl h, q⟩
theorem any_r {s : Option Sl} {ds : List D} {Q : List D → Prop} (h : s = some (.ro ds)) (q : Q ds) : Any s Q := ⟨true, ds, .inr h, q⟩
theorem WO.mono {α : Type} {o : Option α} {Q Q' : α → Prop} (h : WO o Q) (m : ∀ x, Q x → Q' x) : WO o Q' := let ⟨x, e, q⟩ := h; ⟨x, e, m x q⟩
theorem WE.mono {Q Q' : D → En → Prop} (h : WE f env Q) (m : ∀ x e, Q x e → Q' x e) : WE f env Q' := let ⟨x, y, e, q⟩ := h; ⟨x, y, e, m x y q⟩
theorem WB.mono {Q Q' : Bool → En → Prop} (h : WB p env Q) (m : ∀ x e, Q x e → Q' x e) : WB p env Q' := let ⟨x, y, e, q⟩ := h; ⟨x, y, e, m x y q⟩
theorem WL.mono {Q Q' : List D → En → Prop} (h : WL l env Q) (m : ∀ x e, Q x e → Q' x e) : WL l env Q' := let ⟨x, y, e, q⟩ := h; ⟨x, y, e, m x y q⟩
theorem WG.mono {g : Gf} {as : List Sl} {Q Q' : D → List Sl → Prop} (h : WG g as Q) (m : ∀ x e, Q x e → Q' x e) : WG g as Q' := let ⟨x, y, e, q⟩ := h; ⟨x, y, e, m x y q⟩
theorem WH.mono {g : Hf} {as : List Sl} {Q Q' : List D → List Sl → Prop} (h : WH g as Q) (m : ∀ x e, Q x e → Q' x e) : WH g as Q' := let ⟨x, y, e, q⟩ := h; ⟨x, y, e, m x y q⟩
theorem WS.mono {f : Sf} {Q Q' : Po} (h : WS f env Q) (m1 : ∀ e, Q.n e → Q'.n e) (m2 : ∀ d e, Q.r d e → Q'.r d e) (m3 : ∀ d e, Q.l d e → Q'.l d e) : WS f env Q' := by
  obtain ⟨o, e, q⟩ := h
  refine ⟨o, e, ?_⟩
  cases o with
  | nx e => exact m1 _ q
  | rt d e => exact m2 _ _ q
  | rn d e => exact m3 _ _ q
  | rp as ds e => exact m2 _ _ q
/-! expressions -/
theorem we_v {Q : D → En → Prop} (h : env[i]? = some (.val d)) (q : Q d env) : WE (eV i) env Q := ⟨d, env, by unfold eV; rw [h], q⟩
theorem we_oV {Q : D → En → Prop} (h : env[i]? = some (.val d)) (q : Q d env) : WE (eO i) env Q := ⟨d, env, by unfold eO; rw [h], q⟩
theorem we_oW {Q : D → En → Prop} {b : Bool} {ds : List D} (h : env[i]? = some (.own b ds)) (q : Q (.list ds) env) : WE (eO i) env Q := ⟨_, env, by unfold eO; rw [h], q⟩
theorem we_oR {Q : D → En → Prop} {ds : List D} (h : env[i]? = some (.ro ds)) (q : Q (.list ds) env) : WE (eO i) env Q := ⟨_, env, by unfold eO; rw [h], q⟩
theorem we_c {Q : D → En → Prop} (q : Q d env) : WE (eC d) env Q := ⟨_, _, rfl, q⟩
theorem we_un {g : D → Option D} {Q : D → En → Prop} (h : WE fa env fun x e => WO (g x) fun z => Q z e) : WE (eUn g fa) env Q := by
  obtain ⟨x, e, h1, z, h2, q⟩ := h
  exact ⟨z, e, by unfold eUn; rw [h1]; simp [h2], q⟩
theorem we_bin {Q : D → En → Prop} (h : WE fa env fun x e => WE fb e fun y e' => WO (g x y) fun z => Q z e') : WE (eBin g fa fb) env Q := by
  obtain ⟨x, e, h1, y, e', h2, z, h3, q⟩ := h
  exact ⟨z, e', by unfold eBin; simp [h1, h2, h3], q⟩
theorem we_bV {Q : D → En → Prop} {ds : List D} {b : Bool} (h0 : env[i]? = some (.own b ds)) (h : WE fb env fun y e' => WE (eO i) e' fun x _ => WO (g x y) fun z => Q z e') : WE (eBinV g i fb) env Q := by
  obtain ⟨y, e', h2, x, e2, h1, z, h3, q⟩ := h
  exact ⟨z, e', by unfold eBinV; rw [show eO i env = _ from by unfold eO; rw [h0]]; simp only [Option.bind_some, h2, h1, h3, Option.map_some], q⟩
theorem we_bVr {Q : D → En → Prop} {ds : List D} (h0 : env[i]? = some (.ro ds)) (h : WE fb env fun y e' => WE (eO i) e' fun x _ => WO (g x y) fun z => Q z e') : WE (eBinV g i fb) env Q := by
  obtain ⟨y, e', h2, x, e2, h1, z, h3, q⟩ := h
  exact ⟨z, e', by unfold eBinV; rw [show eO i env = _ from by unfold eO; rw [h0]]; simp only [Option.bind_some, h2, h1, h3, Option.map_some], q⟩
theorem we_bVv {Q : D → En → Prop} (h0 : env[i]? = some (.val d)) (h : WE fb env fun y e' => WE (eO i) e' fun x _ => WO (g x y) fun z => Q z e') : WE (eBinV g i fb) env Q := by
  obtain ⟨y, e', h2, x, e2, h1, z, h3, q⟩ := h
  exact ⟨z, e', by unfold eBinV; rw [show eO i env = _ from by unfold eO; rw [h0]]; simp only [Option.bind_some, h2, h1, h3, Option.map_some], q⟩
theorem we_chain {g g' : D → D → Option D} {Q : D → En → Prop} (h : WE fa env fun x e => WE fb e fun y e' => WO (g x y) fun z => IsB z fun b => IfB b (WE fc e' fun w e2 => WO (g' y w) fun z => Q z e2) (Q (.bool false) e')) : WE (eChain g g' fa fb fc) env Q := by
  obtain ⟨x, e, h1, y, e', h2, z, h3, h⟩ := h
  cases z with
  | bool b =>
    cases b with
    | true =>
      obtain ⟨w, e2, h4, z, h5, q⟩ : WE fc e' fun w e2 => WO (g' y w) fun z => Q z e2 := h
      exact ⟨z, e2, by unfold eChain; simp [h1, h2, h3, h4, h5], q⟩
    | false => exact ⟨_, e', by unfold eChain; simp [h1, h2, h3]; (try rfl), h⟩
  | _ => cases h
theorem we_and {Q : D → En → Prop} (h : WE fa env fun x e => IsB x fun b => IfB b (WE fb e Q) (Q (.bool false) e)) : WE (eAnd fa fb) env Q := by
  obtain ⟨x, e, h1, h⟩ := h
  cases x with
  | bool b =>
    cases b with
    | true =>
      obtain ⟨w, e2, h4, q⟩ : WE fb e Q := h
      exact ⟨w, e2, by unfold eAnd; simp [h1, h4], q⟩
    | false => exact ⟨_, e, by unfold eAnd; simp [h1]; (try rfl), h⟩
  | _ => cases h
theorem we_or {Q : D → En → Prop} (h : WE fa env fun x e => IsB x fun b => IfB b (Q (.bool true) e) (WE fb e Q)) : WE (eOr fa fb) env Q := by
  obtain ⟨x, e, h1, h⟩ := h
  cases x with
  | bool b =>
    cases b with
    | false =>
      obtain ⟨w, e2, h4, q⟩ : WE fb e Q := h
      exact ⟨w, e2, by unfold eOr; simp [h1, h4], q⟩
    | true => exact ⟨_, e, by unfold eOr; simp [h1]; (try rfl), h⟩
  | _ => cases h
theorem we_not {Q : D → En → Prop} (h : WE fa env fun x e => IsB x fun b => Q (.bool !b) e) : WE (eNot fa) env Q := by
  obtain ⟨x, e, h1, h⟩ := h
  cases x with
  | bool b => exact ⟨_, e, by unfold eNot; simp [h1]; (try rfl), h⟩
  | _ => cases h
theorem we_if {Q : D → En → Prop} (h : WB p env fun b e => IfB b (WE fa e Q) (WE fb e Q)) : WE (eIf p fa fb) env Q := by
  obtain ⟨b, e, h1, h⟩ := h
  cases b with
  | true => obtain ⟨w, e2, h2, q⟩ : WE fa e Q := h; exact ⟨w, e2, by unfold eIf; simp [h1, h2], q⟩
  | false => obtain ⟨w, e2, h2, q⟩ : WE fb e Q := h; exact ⟨w, e2, by unfold eIf; simp [h1, h2], q⟩
theorem we_fz {Q : D → En → Prop} (h : WL l env fun ds e => Q (.list ds) e) : WE (eFz l) env Q := by
  obtain ⟨x, e, h1, h⟩ := h
  exact ⟨_, e, by unfold eFz; rw [h1]; (try rfl), h⟩
theorem we_tup {Q : D → En → Prop} (h : WL l env fun ds e => Fit ds.length (Q (.tuple ds) e)) : WE (eTup l) env Q := by
  obtain ⟨x, e, h1, h2, h⟩ := h
  exact ⟨_, e, by unfold eTup; simp [h1, h2]; (try rfl), h⟩
def cutOf (x : D) (a b : Option Int) : Option D := match x with
  | .list ds => some (.list (cutD ds a b))
  | .tuple ds => some (.tuple (cutD ds a b))
  | _ => none
theorem wo_cutL {ds : List D} {a b : Option Int} {Q : D → Prop} (q : Q (.list (cutD ds a b))) : WO (cutOf (.list ds) a b) Q := ⟨_, rfl, q⟩
theorem wo_cutT {ds : List D} {a b : Option Int} {Q : D → Prop} (q : Q (.tuple (cutD ds a b))) : WO (cutOf (.tuple ds) a b) Q := ⟨_, rfl, q⟩
theorem we_sl {lo hi : Pf} {Q : D → En → Prop} (h : WE fa env fun x e => WP lo e fun a e1 => WP hi e1 fun b e2 => WO (cutOf x a b) fun z => Q z e2) : WE (eSl fa lo hi) env Q := by
  obtain ⟨x, e, h1, a, e1, h2, b, e2, h3, z, h4, h⟩ := h
  unfold cutOf at h4
  split at h4 <;> cases h4
  · exact ⟨_, e2, by unfold eSl; simp [h1, h2, h3]; (try rfl), h⟩
  · exact ⟨_, e2, by unfold eSl; simp [h1, h2, h3]; (try rfl), h⟩
theorem wp_no {Q : Option Int → En → Prop} (q : Q none env) : WP pNo env Q := ⟨_, _, rfl, q⟩
theorem wp_e {Q : Option Int → En → Prop} (h : WE f env fun x e => IsI x fun n => Q (some n) e) : WP (pE f) env Q := by
  obtain ⟨x, e, h1, h⟩ := h
  cases x with
  | int n => exact ⟨_, e, by unfold pE; rw [h1]; (try rfl), h⟩
  | _ => cases h

/-! lists -/
theorem wl_nil {Q : List D → En → Prop} (q : Q [] env) : WL lNil env Q := ⟨_, _, rfl, q⟩
theorem wl_cons {Q : List D → En → Prop} (h : WE f env fun x e => WL l e fun xs e' => Q (x :: xs) e') : WL (lCons f l) env Q := by
  obtain ⟨x, e, h1, xs, e', h2, q⟩ := h
  exact ⟨_, e', by unfold lCons; simp [h1, h2]; (try rfl), q⟩
theorem wl_lst {Q : List D → En → Prop} (h : WL l env fun ds e => Fit ds.length (Q ds e)) : WL (lLst l) env Q := by
  obtain ⟨x, e, h1, h2, q⟩ := h
  exact ⟨_, e, by unfold lLst; simp [h1, h2]; (try rfl), q⟩
theorem wl_un {g : D → Option (List D)} {Q : List D → En → Prop} (h : WE fa env fun x e => WO (g x) fun z => Q z e) : WL (lUn g fa) env Q := by
  obtain ⟨x, e, h1, z, h2, q⟩ := h
  exact ⟨z, e, by unfold lUn; rw [h1]; simp [h2], q⟩
theorem wl_slV {lo hi : Pf} {Q : List D → En → Prop} {b : Bool} {ds0 : List D} (h0 : env[i]? = some (.own b ds0) ∨ env[i]? = some (.ro ds0)) (h : WP lo env fun a e1 => WP hi e1 fun b e2 => Any e2[i]? fun ds => Q (cutD ds a b) e2) : WL (lSlV i lo hi) env Q := by
  obtain ⟨a, e1, h2, b, e2, h3, c, ds, h4, q⟩ := h
  refine ⟨_, e2, ?_, q⟩
  unfold lSlV
  rcases h0 with h0 | h0 <;> rcases h4 with h4 | h4 <;> · simp [eO, h0, h2, h3]; simp [h4]
theorem wl_slO {lo hi : Pf} {Q : List D → En → Prop} {b : Bool} {ds0 : List D} (h0 : env[i]? = some (.own b ds0)) (h : WP lo env fun a e1 => WP hi e1 fun b e2 => Any e2[i]? fun ds => Q (cutD ds a b) e2) : WL (lSlV i lo hi) env Q := wl_slV (.inl h0) h
theorem wl_slR {lo hi : Pf} {Q : List D → En → Prop} {ds0 : List D} (h0 : env[i]? = some (.ro ds0)) (h : WP lo env fun a e1 => WP hi e1 fun b e2 => Any e2[i]? fun ds => Q (cutD ds a b) e2) : WL (lSlV i lo hi) env Q := wl_slV (b := true) (.inr h0) h
theorem wl_it {Q : List D → En → Prop} (h : WE f env fun x e => IsS x fun ds => Q ds e) : WL (lIt f) env Q := by
  obtain ⟨x, e, h1, h⟩ := h
  cases x with
  | list ds => exact ⟨_, e, by unfold lIt; rw [h1]; rfl, h⟩
  | tuple ds => exact ⟨_, e, by unfold lIt; rw [h1]; rfl, h⟩
  | _ => cases h
theorem wl_rng1 {Q : List D → En → Prop} (h : WE f env fun x e => IsI x fun n => Sml n (Q (irange 0 n.toNat) e)) : WL (lRng1 f) env Q := by
  obtain ⟨x, e, h1, h⟩ := h
  cases x with
  | int n => exact ⟨_, e, by unfold lRng1; rw [h1]; show (if _ then _ else _) = _; rw [if_pos h.1], h.2⟩
  | _ => cases h
theorem wl_rng2 {f' : Ef} {Q : List D → En → Prop} (h : WE f env fun x e => WE f' e fun y e' => IsI x fun m => IsI y fun n => Sml m (Sml n (Q (irange m (n - m).toNat) e'))) : WL (lRng2 f f') env Q := by
  obtain ⟨x, e, h1, y, e', h2, h⟩ := h
  cases x with
  | int m => cases y with
    | int n => exact ⟨_, e', by unfold lRng2; simp [h1, h2, h.1, h.2.1]; (try rfl), h.2.2⟩
    | _ => cases h
  | _ => cases h
theorem wl_enum {Q : List D → En → Prop} (h : WE f env fun x e => IsL x fun ds => Q (pairs (irange 0 ds.length) ds) e) : WL (lEnum f) env Q := by
  obtain ⟨x, e, h1, h⟩ := h
  cases x with
  | list ds => exact ⟨_, e, by unfold lEnum; rw [h1]; rfl, h⟩
  | _ => cases h
theorem wl_zip {f' : Ef} {Q : List D → En → Prop} (h : WE f env fun x e => WE f' e fun y e' => ∃ ds es, ((x = .list ds ∧ y = .list es) ∨ (x = .tuple ds ∧ y = .tuple es)) ∧ Q (pairs ds es) e') : WL (lZip f f') env Q := by
  obtain ⟨x, e, h1, y, e', h2, ds, es, h3, q⟩ := h
  exact ⟨_, e', by unfold lZip; rcases h3 with ⟨rfl, rfl⟩ | ⟨rfl, rfl⟩ <;> simp [h1, h2], q⟩
theorem lc_pure {vs : List Nat} {g : Tf} {c : Bf} {f : Ef} {P : D → Bool} {F : D → D} {env : En} : ∀ (ds : List D),
    (∀ d ∈ ds, WT g d env fun e1 => WB c e1 fun b e2 => b = P d ∧ IfB b (WE f e2 fun x e3 => x = F d ∧ wipeE e3 vs = env) (wipeE e2 vs = env)) →
    lcGo vs g c f ds env = some ((ds.filter P).map F, env)
  | [], _ => rfl
  | d :: ds, s => by
    have ih := lc_pure (vs := vs) (g := g) (c := c) (f := f) (P := P) (F := F) (env := env) ds fun d hd => s d (List.mem_cons_of_mem _ hd)
    obtain ⟨e1, h1, b, e2, h2, h3, h4⟩ := s d List.mem_cons_self
    cases b with
    | true =>
      obtain ⟨x, e3, h4, h5, h6⟩ : WE f e2 fun x e3 => x = F d ∧ wipeE e3 vs = env := h4
      unfold lcGo; simp [h1, h2, h4, h5, h6, ih, ← h3]
    | false =>
      have h6 : wipeE e2 vs = env := h4
      unfold lcGo; simp [h1, h2, h6, ih, ← h3]
/-- a comprehension that touches no slot -/
theorem wl_compP {vs : List Nat} {g : Tf} {c : Bf} {f : Ef} {Q : List D → En → Prop} (P : List D → D → Bool) (F : List D → D → D)
    (h : WL l env fun ds e => noOwn e vs = true ∧ fits ds.length = true ∧
      (∀ d ∈ ds, WT g d (wipeE e vs) fun e1 => WB c e1 fun b e2 => b = P ds d ∧ IfB b (WE f e2 fun x e3 => x = F ds d ∧ wipeE e3 vs = wipeE e vs) (wipeE e2 vs = wipeE e vs)) ∧
      Q ((ds.filter (P ds)).map (F ds)) (backE e (wipeE e vs) vs)) : WL (lComp l vs g c f) env Q := by
  obtain ⟨ds, e, h1, h2, h3, h4, q⟩ := h
  exact ⟨_, _, by unfold lComp; simp [h1, h2, h3, lc_pure ds h4], q⟩

theorem wc_nil {vs : List Nat} {g : Tf} {c : Bf} {f : Ef} {Q : List D → En → Prop} (q : Q [] env) : WC vs g c f [] env Q := ⟨[], env, rfl, q⟩
theorem wc_cons {vs : List Nat} {g : Tf} {c : Bf} {f : Ef} {ds : List D} {Q : List D → En → Prop} (h : WT g d env fun e1 => WB c e1 fun b e2 => IfB b (WE f e2 fun x e3 => Nrm (wipeE e3 vs) fun e4 => WC vs g c f ds e4 fun xs e => Q (x :: xs) e) (Nrm (wipeE e2 vs) fun e4 => WC vs g c f ds e4 Q)) : WC vs g c f (d :: ds) env Q := by
  obtain ⟨e1, h1, b, e2, h2, h3⟩ := h
  cases b with
  | true =>
    obtain ⟨x, e3, h4, xs, e, h5, q⟩ : WE f e2 fun x e3 => WC vs g c f ds (wipeE e3 vs) fun xs e => Q (x :: xs) e := h3
    exact ⟨x :: xs, e, by unfold lcGo; simp [h1, h2, h4, h5], q⟩
  | false =>
    obtain ⟨xs, e, h5, q⟩ : WC vs g c f ds (wipeE e2 vs) Q := h3
    exact ⟨xs, e, by unfold lcGo; simp [h1, h2, h5], q⟩
/-- a comprehension over a list that is known, item by item -/
theorem wl_compU {vs : List Nat} {g : Tf} {c : Bf} {f : Ef} {Q : List D → En → Prop} (ds : List D)
    (h : WL l env fun ds' e => ds' = ds ∧ noOwn e vs = true ∧ fits ds.length = true ∧ Nrm (wipeE e vs) fun e4 => WC vs g c f ds e4 fun xs e' => Nrm (backE e e' vs) (Q xs)) : WL (lComp l vs g c f) env Q := by
  obtain ⟨_, e, h1, rfl, h2, h3, xs, e', h4, q⟩ := h
  exact ⟨xs, _, by unfold lComp; simp [h1, h2, h3, h4], q⟩
/-! tests -/
theorem wb_v {Q : Bool → En → Prop} (h : WE f env fun x e => IsB x fun b => Q b e) : WB (bV f) env Q := by
  obtain ⟨x, e, h1, h⟩ := h
  cases x with
  | bool b => exact ⟨_, e, by unfold bV; rw [h1]; (try rfl), h⟩
  | _ => cases h
theorem wb_and {Q : Bool → En → Prop} (h : WB p env fun b e => IfB b (WB q e Q) (Q false e)) : WB (bAnd p q) env Q := by
  obtain ⟨b, e, h1, h⟩ := h
  cases b with
  | true => obtain ⟨b, e', h2, q⟩ : WB q e Q := h; exact ⟨b, e', by unfold bAnd; simp [h1, h2], q⟩
  | false => exact ⟨_, e, by unfold bAnd; simp [h1]; (try rfl), h⟩
theorem wb_or {Q : Bool → En → Prop} (h : WB p env fun b e => IfB b (Q true e) (WB q e Q)) : WB (bOr p q) env Q := by
  obtain ⟨b, e, h1, h⟩ := h
  cases b with
  | false => obtain ⟨b, e', h2, q⟩ : WB q e Q := h; exact ⟨b, e', by unfold bOr; simp [h1, h2], q⟩
  | true => exact ⟨_, e, by unfold bOr; simp [h1]; (try rfl), h⟩
theorem wb_not {Q : Bool → En → Prop} (h : WB p env fun b e => Q (!b) e) : WB (bNot p) env Q := by
  obtain ⟨b, e, h1, h⟩ := h
  exact ⟨_, e, by unfold bNot; rw [h1]; (try rfl), h⟩
theorem wb_yes {Q : Bool → En → Prop} (q : Q true env) : WB bYes env Q := ⟨_, _, rfl, q⟩

/-! targets -/
theorem wt_n {Q : En → Prop} (q : Nrm (env.set i (.val d)) Q) : WT (tN i) d env Q := ⟨_, rfl, q⟩
theorem wt_t {n : Nat} {r : List D → En → Option En} {ds : List D} {Q : En → Prop} (hl : ds.length = n) (h : WTs r ds env Q) : WT (tT n r) (.tuple ds) env Q := by
  obtain ⟨e, h, q⟩ := h
  exact ⟨e, by unfold tT; simp [hl, h], q⟩
theorem wts_nil {Q : En → Prop} (q : Q env) : WTs gsN [] env Q := ⟨_, rfl, q⟩
theorem wts_cons {g : Tf} {r : List D → En → Option En} {ds : List D} {Q : En → Prop} (h : WT g d env fun e => WTs r ds e Q) : WTs (gsC g r) (d :: ds) env Q := by
  obtain ⟨e, h1, e', h2, q⟩ := h
  exact ⟨e', by unfold gsC; simp [h1, h2], q⟩

/-! calls -/
theorem wa_nil {Q : List Ar → En → Prop} (q : Q [] env) : WA aNil env Q := ⟨_, _, rfl, q⟩
theorem wa_v {a : Af} {Q : List Ar → En → Prop} (h : WE f env fun x e => WA a e fun xs e' => Q (.v x :: xs) e') : WA (aV f a) env Q := by
  obtain ⟨x, e, h1, xs, e', h2, q⟩ := h
  exact ⟨_, e', by unfold aV; simp [h1, h2]; (try rfl), q⟩
theorem wa_r {a : Af} {Q : List Ar → En → Prop} {b : Bool} {ds : List D} (h0 : env[i]? = some (.own b ds)) (h : WA a env fun xs e' => Q (.r i :: xs) e') : WA (aR i a) env Q := by
  obtain ⟨xs, e', h2, q⟩ := h
  exact ⟨_, e', by unfold aR; simp [eO, h0, h2]; (try rfl), q⟩
theorem wa_o {a : Af} {Q : List Ar → En → Prop} (h0 : ∃ d, eO i env = some (d, env)) (h : WA a env fun xs e' => Q (.o i :: xs) e') : WA (aO i a) env Q := by
  obtain ⟨_, h0⟩ := h0
  obtain ⟨xs, e', h2, q⟩ := h
  exact ⟨_, e', by unfold aO; simp [h0, h2]; (try rfl), q⟩
theorem wa_oR {a : Af} {Q : List Ar → En → Prop} {ds : List D} (h0 : env[i]? = some (.ro ds)) (h : WA a env fun xs e' => Q (.o i :: xs) e') : WA (aO i a) env Q := wa_o ⟨_, by unfold eO; rw [h0]⟩ h
theorem wa_oO {a : Af} {Q : List Ar → En → Prop} {b : Bool} {ds : List D} (h0 : env[i]? = some (.own b ds)) (h : WA a env fun xs e' => Q (.o i :: xs) e') : WA (aO i a) env Q := wa_o ⟨_, by unfold eO; rw [h0]⟩ h
theorem wa_oV {a : Af} {Q : List Ar → En → Prop} (h0 : env[i]? = some (.val d)) (h : WA a env fun xs e' => Q (.o i :: xs) e') : WA (aO i a) env Q := wa_o ⟨_, by unfold eO; rw [h0]⟩ h
theorem we_call {g : Gf} {fa : Af} {Q : D → En → Prop} (h : WA fa env fun as e => CallG g as e Q) : WE (eCall g fa) env Q := by
  obtain ⟨as, e, h1, h⟩ := h
  rcases h with ⟨h3, args, h2, d, a', h4, q⟩ | ⟨i, h3, h4, args, h2, d, a', h5, e', h6, q⟩
  · exact ⟨d, e, by unfold eCall; simp [h1, h2, h3, h4], q⟩
  · exact ⟨d, e', by unfold eCall; simp only [h1, Option.bind_some, h3]; simp [show i ∉ oSlots as from fun z => by simp [z] at h4, h2, h5, h6], q⟩
theorem wl_call {g : Hf} {fa : Af} {Q : List D → En → Prop} (h : WA fa env fun as e => CallH g as e Q) : WL (lCall g fa) env Q := by
  obtain ⟨as, e, h1, h⟩ := h
  rcases h with ⟨h3, args, h2, d, a', h4, q⟩ | ⟨i, h3, h4, args, h2, d, a', h5, e', h6, q⟩
  · exact ⟨d, e, by unfold lCall; simp [h1, h2, h3, h4], q⟩
  · exact ⟨d, e', by unfold lCall; simp only [h1, Option.bind_some, h3]; simp [show i ∉ oSlots as from fun z => by simp [z] at h4, h2, h5, h6], q⟩
theorem cg0 {g : Gf} {as : List Ar} {Q : D → En → Prop} (h : rSlots as = []) (q : WO (resArs env as) fun args => WG g args fun d _ => Q d env) : CallG g as env Q := .inl ⟨h, q⟩
theorem cg1 {g : Gf} {as : List Ar} {Q : D → En → Prop} (h : rSlots as = [i]) (h2 : (oSlots as).contains i = false) (q : WO (resArs env as) fun args => WG g args fun d a' => WO (backAr env as a') fun e' => Q d e') : CallG g as env Q := .inr ⟨i, h, h2, q⟩
theorem ch0 {g : Hf} {as : List Ar} {Q : List D → En → Prop} (h : rSlots as = []) (q : WO (resArs env as) fun args => WH g args fun d _ => Q d env) : CallH g as env Q := .inl ⟨h, q⟩
theorem ch1 {g : Hf} {as : List Ar} {Q : List D → En → Prop} (h : rSlots as = [i]) (h2 : (oSlots as).contains i = false) (q : WO (resArs env as) fun args => WH g args fun d a' => WO (backAr env as a') fun e' => Q d e') : CallH g as env Q := .inr ⟨i, h, h2, q⟩
theorem res_nil {Q : List Sl → Prop} (q : Q []) : WO (resArs env []) Q := ⟨_, rfl, q⟩
theorem res_cons {a : Ar} {as : List Ar} {x : Sl} {Q : List Sl → Prop} (h : resAr env a = some x) (q : WO (resArs env as) fun xs => Q (x :: xs)) : WO (resArs env (a :: as)) Q := by
  obtain ⟨xs, h2, q⟩ := q
  exact ⟨_, by unfold resArs; simp [h, h2], q⟩
theorem res_v {as : List Ar} {Q : List Sl → Prop} (q : WO (resArs env as) fun xs => Q (.val d :: xs)) : WO (resArs env (.v d :: as)) Q := res_cons rfl q
theorem res_r {as : List Ar} {b : Bool} {ds : List D} {Q : List Sl → Prop} (h : env[i]? = some (.own b ds)) (q : WO (resArs env as) fun xs => Q (.own false ds :: xs)) : WO (resArs env (.r i :: as)) Q := res_cons (by unfold resAr; dsimp only; rw [h]) q
theorem res_oO {as : List Ar} {b : Bool} {ds : List D} {Q : List Sl → Prop} (h : env[i]? = some (.own b ds)) (q : WO (resArs env as) fun xs => Q (.ro ds :: xs)) : WO (resArs env (.o i :: as)) Q := res_cons (by unfold resAr; dsimp only; rw [h]) q
theorem res_oR {as : List Ar} {ds : List D} {Q : List Sl → Prop} (h : env[i]? = some (.ro ds)) (q : WO (resArs env as) fun xs => Q (.ro ds :: xs)) : WO (resArs env (.o i :: as)) Q := res_cons (by unfold resAr; dsimp only; rw [h]) q
theorem res_oV {as : List Ar} {ds : List D} {Q : List Sl → Prop} (h : env[i]? = some (.val (.list ds))) (q : WO (resArs env as) fun xs => Q (.ro ds :: xs)) : WO (resArs env (.o i :: as)) Q := res_cons (by unfold resAr; dsimp only; rw [h]) q
theorem back_nil {xs : List Sl} {Q : En → Prop} (q : Q env) : WO (backAr env [] xs) Q := ⟨_, by unfold backAr; (try rfl), q⟩
theorem back_v {as : List Ar} {x : Sl} {xs : List Sl} {Q : En → Prop} (q : WO (backAr env as xs) Q) : WO (backAr env (.v d :: as) (x :: xs)) Q := q
theorem back_o {as : List Ar} {x : Sl} {xs : List Sl} {Q : En → Prop} (q : WO (backAr env as xs) Q) : WO (backAr env (.o i :: as) (x :: xs)) Q := q
theorem back_r {as : List Ar} {ds ds0 : List D} {b : Bool} {xs : List Sl} {Q : En → Prop} (h : env[i]? = some (.own b ds0)) (q : Nrm (env.set i (.own b ds)) fun e => WO (backAr e as xs) Q) : WO (backAr env (.r i :: as) (.own false ds :: xs)) Q := by
  obtain ⟨e, h1, q⟩ := q
  exact ⟨e, by unfold backAr; rw [h]; exact h1, q⟩

/-! methods -/
theorem we_mut {g : List D → D → Option (List D × D)} {Q : D → En → Prop} {b : Bool} {ds0 : List D} (h0 : env[i]? = some (.own b ds0)) (h : WE f env fun x e => Own e[i]? fun l ds => WO (g ds x) fun r => Nrm (e.set i (.own l r.1)) (Q r.2)) : WE (eMut g i f) env Q := by
  obtain ⟨x, e, h1, l, ds, h2, r, h3, q⟩ := h
  exact ⟨_, _, by unfold eMut isOwn; rw [h0]; simp only [if_true, h1, Option.bind_some, h2, h3]; (try rfl), q⟩
theorem we_mut0 {g : List D → Option (List D × D)} {Q : D → En → Prop} {b : Bool} {ds : List D} (h0 : env[i]? = some (.own b ds)) (h : WO (g ds) fun r => Nrm (env.set i (.own b r.1)) (Q r.2)) : WE (eMut0 g i) env Q := by
  obtain ⟨r, h3, q⟩ := h
  exact ⟨_, _, by unfold eMut0; rw [h0]; simp only [h3]; (try rfl), q⟩

/-! statements -/
theorem ws_nil {N : En → Prop} {R : D → En → Prop} {L : List D → En → Prop} (q : N env) : WS sNil env ⟨N, R, L⟩ := ⟨.nx env, rfl, q⟩
theorem ws_seq {f g : Sf} {N : En → Prop} {R : D → En → Prop} {L : List D → En → Prop} (h : WS f env ⟨fun e => WS g e ⟨N, R, L⟩, R, L⟩) : WS (sSeq f g) env ⟨N, R, L⟩ := by
  obtain ⟨o, h1, h⟩ := h
  cases o with
  | nx e =>
    obtain ⟨o, h2, q⟩ : WS g e ⟨N, R, L⟩ := h
    exact ⟨o, by unfold sSeq; simp [h1, h2], q⟩
  | rt d e => exact ⟨.rt d e, by unfold sSeq; simp [h1]; (try rfl), h⟩
  | rn d e => exact ⟨.rn d e, by unfold sSeq; simp [h1]; (try rfl), h⟩
  | rp d d2 e => exact ⟨.rp d d2 e, by unfold sSeq; simp [h1]; (try rfl), h⟩
theorem ws_cut {f : Sf} {N : En → Prop} {R : D → En → Prop} {L : List D → En → Prop} (I : En → Prop) (h : WS f env ⟨I, R, L⟩) (h2 : ∀ e, I e → N e) : WS f env ⟨N, R, L⟩ := h.mono (fun e q => h2 e q) (fun _ _ q => q) fun _ _ q => q
/-- with a resting place between the two -/
theorem ws_mid {f g : Sf} {N : En → Prop} {R : D → En → Prop} {L : List D → En → Prop} (I : En → Prop) (h : WS f env ⟨I, R, L⟩) (h2 : ∀ e, I e → WS g e ⟨N, R, L⟩) : WS (sSeq f g) env ⟨N, R, L⟩ := ws_seq (h.mono (fun e q => h2 e q) (fun _ _ q => q) fun _ _ q => q)
theorem ws_expr {N : En → Prop} {R : D → En → Prop} {L : List D → En → Prop} (h : WE f env fun _ e => N e) : WS (sExpr f) env ⟨N, R, L⟩ := by
  obtain ⟨x, e, h1, q⟩ := h
  exact ⟨.nx e, by unfold sExpr; rw [h1]; (try rfl), q⟩
theorem ws_ret {N : En → Prop} {R : D → En → Prop} {L : List D → En → Prop} (h : WE f env R) : WS (sRet f) env ⟨N, R, L⟩ := by
  obtain ⟨x, e, h1, q⟩ := h
  exact ⟨.rt x e, by unfold sRet; rw [h1]; (try rfl), q⟩
theorem ws_retL {N : En → Prop} {R : D → En → Prop} {L : List D → En → Prop} (h : WL l env L) : WS (sRetL l) env ⟨N, R, L⟩ := by
  obtain ⟨x, e, h1, q⟩ := h
  exact ⟨.rn x e, by unfold sRetL; rw [h1]; (try rfl), q⟩
theorem ws_retN {N : En → Prop} {R : D → En → Prop} {L : List D → En → Prop} (q : R .none env) : WS sRetN env ⟨N, R, L⟩ := ⟨.rt .none env, rfl, q⟩
theorem ws_retO {N : En → Prop} {R : D → En → Prop} {L : List D → En → Prop} {ds : List D} (h : env[i]? = some (.own true ds)) (q : Nrm (env.set i .no) (L ds)) : WS (sRetO i) env ⟨N, R, L⟩ := ⟨.rn ds _, by unfold sRetO; rw [h], q⟩
theorem ws_frz {f : Sf} {N : En → Prop} {R : D → En → Prop} {L : List D → En → Prop} {ds : List D} (h : env[i]? = some (.own true ds)) (q : Nrm (env.set i (.val (.list ds))) fun e => WS f e ⟨N, R, L⟩) : WS (sFrz i f) env ⟨N, R, L⟩ := by
  obtain ⟨o, h1, q⟩ := q
  exact ⟨o, by unfold sFrz frz; rw [h]; exact h1, q⟩
theorem ws_frzV {f : Sf} {N : En → Prop} {R : D → En → Prop} {L : List D → En → Prop} (h : env[i]? = some (.val d)) (q : WS f env ⟨N, R, L⟩) : WS (sFrz i f) env ⟨N, R, L⟩ := by
  obtain ⟨o, h1, q⟩ := q
  exact ⟨o, by unfold sFrz frz; rw [h]; exact h1, q⟩
theorem ws_if {f g : Sf} {N : En → Prop} {R : D → En → Prop} {L : List D → En → Prop} (h : WB c env fun b e => IfB b (WS f e ⟨N, R, L⟩) (WS g e ⟨N, R, L⟩)) : WS (sIf c f g) env ⟨N, R, L⟩ := by
  obtain ⟨b, e, h1, h⟩ := h
  cases b with
  | true => obtain ⟨o, h2, q⟩ : WS f e ⟨N, R, L⟩ := h; exact ⟨o, by unfold sIf; simp [h1, h2], q⟩
  | false => obtain ⟨o, h2, q⟩ : WS g e ⟨N, R, L⟩ := h; exact ⟨o, by unfold sIf; simp [h1, h2], q⟩
theorem ws_set {N : En → Prop} {R : D → En → Prop} {L : List D → En → Prop} (h : WE f env fun x e => Nrm (e.set i (.val x)) N) : WS (sSet i f) env ⟨N, R, L⟩ := by
  obtain ⟨x, e, h1, q⟩ := h
  exact ⟨.nx _, by unfold sSet; rw [h1]; (try rfl), q⟩
theorem ws_setO {N : En → Prop} {R : D → En → Prop} {L : List D → En → Prop} (h : WL l env fun x e => Nrm (e.set i (.own true x)) N) : WS (sSetO i l) env ⟨N, R, L⟩ := by
  obtain ⟨x, e, h1, q⟩ := h
  exact ⟨.nx _, by unfold sSetO; rw [h1]; (try rfl), q⟩
theorem ws_asg {g : Tf} {N : En → Prop} {R : D → En → Prop} {L : List D → En → Prop} (h : WE f env fun x e => WT g x e N) : WS (sAsg f g) env ⟨N, R, L⟩ := by
  obtain ⟨x, e, h1, e', h2, q⟩ := h
  exact ⟨.nx _, by unfold sAsg; simp [h1, h2]; (try rfl), q⟩
theorem ws_par {N : En → Prop} {R : D → En → Prop} {L : List D → En → Prop} (h : WL l env fun ds e => Two ds fun x y => Nrm ((e.set i (.val x)).set j (.val y)) N) : WS (sPar i j l) env ⟨N, R, L⟩ := by
  obtain ⟨x, e, h1, h⟩ := h
  unfold Two at h
  split at h
  case h_2 => cases h
  have q := h
  exact ⟨.nx _, by unfold sPar; rw [h1]; (try rfl), q⟩
theorem ws_putI {fk fe : Ef} {N : En → Prop} {R : D → En → Prop} {L : List D → En → Prop} {b : Bool} {ds0 : List D} (h0 : env[i]? = some (.own b ds0)) (h : WE fe env fun x e => WE fk e fun y e' => IsI y fun k => Own e'[i]? fun l ds => WO (ixN ds.length k) fun j => Nrm (e'.set i (.own l (ds.set j x))) N) : WS (sPutI i fk fe) env ⟨N, R, L⟩ := by
  obtain ⟨x, e, h1, y, e', h2, h⟩ := h
  cases y with
  | int k =>
    obtain ⟨l, ds, h3, j, h4, q⟩ := h
    exact ⟨.nx _, by unfold sPutI isOwn; rw [h0]; simp only [if_true]; unfold sPut; simp only [h1, h2, Option.bind_some, h3, h4]; (try rfl), q⟩
  | _ => cases h
/-- for: by what is still to be walked -/
theorem for_go {g : Tf} {body : Sf} {N : En → Prop} {R : D → En → Prop} {L : List D → En → Prop} (I : List D → En → Prop) : ∀ (ds : List D) (env : En), I ds env →
    (∀ d rs e, I (d :: rs) e → WT g d e fun e1 => WS body e1 ⟨I rs, R, L⟩) → (∀ e, I [] e → N e) → WS (forGo g body ds) env ⟨N, R, L⟩
  | [], env, h, _, q => ⟨.nx env, rfl, q env h⟩
  | d :: ds, env, h, s, q => by
    obtain ⟨e1, h1, o, h2, h3⟩ := s d ds env h
    cases o with
    | nx e =>
      obtain ⟨o, h4, h5⟩ := for_go I ds e h3 s q
      exact ⟨o, by unfold forGo; simp [h1, h2, h4], h5⟩
    | rt d e => exact ⟨.rt d e, by unfold forGo; simp [h1, h2]; (try rfl), h3⟩
    | rn d e => exact ⟨.rn d e, by unfold forGo; simp [h1, h2]; (try rfl), h3⟩
    | rp d d2 e => exact ⟨.rp d d2 e, by unfold forGo; simp [h1, h2]; (try rfl), h3⟩
theorem ws_for {g : Tf} {body : Sf} {N : En → Prop} {R : D → En → Prop} {L : List D → En → Prop} (I : List D → List D → En → Prop) (h : WL l env fun ds e => I ds ds e ∧ (∀ d rs e, I ds (d :: rs) e → WT g d e fun e1 => WS body e1 ⟨I ds rs, R, L⟩) ∧ ∀ e, I ds [] e → N e) : WS (sFor l g body) env ⟨N, R, L⟩ := by
  obtain ⟨ds, e, h1, h2, h3, h4⟩ := h
  obtain ⟨o, h5, q⟩ := for_go (I ds) ds e h2 h3 h4
  exact ⟨o, by unfold sFor; simp [h1, h5], q⟩
/-- for: by the turn -/
theorem ws_forN {g : Tf} {body : Sf} {N : En → Prop} {R : D → En → Prop} {L : List D → En → Prop} (I : List D → Nat → En → Prop) (h : WL l env fun ds e => I ds 0 e ∧ (∀ k d e, k < ds.length → ds[k]? = some d → I ds k e → WT g d e fun e1 => WS body e1 ⟨I ds (k + 1), R, L⟩) ∧ ∀ e, I ds ds.length e → N e) : WS (sFor l g body) env ⟨N, R, L⟩ := by
  obtain ⟨ds, e, h1, h2, h3, h4⟩ := h
  obtain ⟨o, h5, q⟩ := for_go (N := N) (R := R) (L := L) (body := body) (g := g) (fun rs e => ∃ k, k ≤ ds.length ∧ ds.drop k = rs ∧ I ds k e) ds e ⟨0, Nat.zero_le _, rfl, h2⟩ (fun d rs e ⟨k, hk, h5, h6⟩ => by
    have hlt : k < ds.length := by
      rcases Nat.lt_or_ge k ds.length with h | h
      · exact h
      · rw [List.drop_eq_nil_of_le h] at h5; cases h5
    have e1 : ds[k]? = some d := by
      rw [List.drop_eq_getElem_cons hlt] at h5
      injection h5 with h5 _
      rw [List.getElem?_eq_getElem hlt, h5]
    obtain ⟨x1, h7, o, h8, h9⟩ := h3 k d e hlt e1 h6
    refine ⟨x1, h7, o, h8, ?_⟩
    cases o with
    | nx e' =>
      refine ⟨k + 1, hlt, ?_, h9⟩
      rw [List.drop_eq_getElem_cons hlt] at h5
      injection h5 with _ h5
    | rt d e => exact h9
    | rn d e => exact h9
    | rp d d2 e => exact h9) (fun e ⟨k, hk, h5, h6⟩ => by
    have : k = ds.length := by
      rw [List.drop_eq_nil_iff] at h5
      omega
    subst this
    exact h4 e h6)
  exact ⟨o, by unfold sFor; simp [h1, h5], q⟩
theorem wh_go {body : Sf} {N : En → Prop} {R : D → En → Prop} {L : List D → En → Prop} (I : Nat → En → Prop) : ∀ (n m : Nat) (env : En), m < n → I m env →
    (∀ m e, I m e → WB c e fun b e1 => IfB b (WS body e1 ⟨fun e2 => ∃ m', m' < m ∧ I m' e2, R, L⟩) (N e1)) → WS (whGo c body n) env ⟨N, R, L⟩
  | 0, m, env, h, _, _ => absurd h (Nat.not_lt_zero _)
  | n + 1, m, env, hn, h, s => by
    obtain ⟨b, e1, h1, h2⟩ := s m env h
    cases b with
    | false => exact ⟨.nx e1, by unfold whGo; simp [h1]; (try rfl), h2⟩
    | true =>
      obtain ⟨o, h3, h4⟩ : WS body e1 ⟨fun e2 => ∃ m', m' < m ∧ I m' e2, R, L⟩ := h2
      cases o with
      | nx e =>
        obtain ⟨m', h5, h6⟩ := h4
        obtain ⟨o, h7, h8⟩ := wh_go I n m' e (by omega) h6 s
        exact ⟨o, by unfold whGo; simp [h1, h3, h7], h8⟩
      | rt d e => exact ⟨.rt d e, by unfold whGo; simp [h1, h3]; (try rfl), h4⟩
      | rn d e => exact ⟨.rn d e, by unfold whGo; simp [h1, h3]; (try rfl), h4⟩
      | rp d d2 e => exact ⟨.rp d d2 e, by unfold whGo; simp [h1, h3]; (try rfl), h4⟩
/-- while: with a measure that falls -/
theorem ws_wh {body : Sf} {n : Nat} {N : En → Prop} {R : D → En → Prop} {L : List D → En → Prop} (I : Nat → En → Prop) (m : Nat) (hm : m < n) (h0 : I m env)
    (h : ∀ m e, I m e → WB c e fun b e1 => IfB b (WS body e1 ⟨fun e2 => ∃ m', m' < m ∧ I m' e2, R, L⟩) (N e1)) : WS (sWh n c body) env ⟨N, R, L⟩ := by
  obtain ⟨o, h5, q⟩ := wh_go I n m env hm h0 h
  exact ⟨o, h5, q⟩

/-! defs -/
theorem wg_run {n np : Nat} {f : Sf} {args : List Sl} {Q : D → List Sl → Prop} (hl : args.length = np) (h : Nrm (args ++ List.replicate (n - np) .no) fun e => WS f e ⟨fun e => Q .none (e.take np), fun d e => Q d (e.take np), fun ds e => Q (.list ds) (e.take np)⟩) : WG (fnRun n np f) args Q := by
  obtain ⟨o, h1, q⟩ := h
  cases o with
  | nx e => exact ⟨_, _, by unfold fnRun; rw [if_pos hl, h1], q⟩
  | rt d e => exact ⟨_, _, by unfold fnRun; rw [if_pos hl, h1], q⟩
  | rn d e => exact ⟨_, _, by unfold fnRun; rw [if_pos hl, h1], q⟩
  | rp d d2 e => exact ⟨_, _, by unfold fnRun; rw [if_pos hl, h1], q⟩
theorem wh_new {n np : Nat} {f : Sf} {args : List Sl} {Q : List D → List Sl → Prop} (hl : args.length = np) (h : Nrm (args ++ List.replicate (n - np) .no) fun e => WS f e ⟨fun e => False, fun d e => False, fun ds e => Q ds (e.take np)⟩) : WH (fnNew n np f) args Q := by
  obtain ⟨o, h1, q⟩ := h
  cases o with
  | nx e => cases q
  | rt d e => cases q
  | rn d e => exact ⟨_, _, by unfold fnNew; rw [if_pos hl, h1], q⟩
  | rp d d2 e => cases q

/-! what is worked out -/
variable {Q : D → Prop} {a b : Int}
theorem wo_add (q : Q (.int (a + b))) : WO (gAdd (.int a) (.int b)) Q := ⟨_, rfl, q⟩
theorem wo_addL {xs ys : List D} (h : fits (xs.length + ys.length) = true) (q : Q (.list (xs ++ ys))) : WO (gAdd (.list xs) (.list ys)) Q := ⟨_, by unfold gAdd; dsimp only; rw [if_pos h], q⟩
theorem wo_addT {xs ys : List D} (h : fits (xs.length + ys.length) = true) (q : Q (.tuple (xs ++ ys))) : WO (gAdd (.tuple xs) (.tuple ys)) Q := ⟨_, by unfold gAdd; dsimp only; rw [if_pos h], q⟩
theorem wo_sub (q : Q (.int (a - b))) : WO (gSub (.int a) (.int b)) Q := ⟨_, rfl, q⟩
theorem wo_mul (h : mulOk a b = true) (q : Q (.int (a * b))) : WO (gMul (.int a) (.int b)) Q := ⟨_, by unfold gMul; dsimp only; rw [if_pos h], q⟩
theorem wo_div (h1 : 0 < b) (h2 : b < 10 ^ 250 * 10 ^ 250) (q : Q (.int (a / b))) : WO (gDiv (.int a) (.int b)) Q := ⟨_, by unfold gDiv divOk; dsimp only; rw [decide_eq_true h1, decide_eq_true h2]; (try rfl), q⟩
theorem wo_mod (h1 : 0 < b) (q : Q (.int (a % b))) : WO (gMod (.int a) (.int b)) Q := ⟨_, by unfold gMod; dsimp only; rw [decide_eq_true h1]; (try rfl), q⟩
theorem wo_neg (q : Q (.int (-a))) : WO (gNeg (.int a)) Q := ⟨_, rfl, q⟩
theorem wo_lt (q : Q (.bool (decide (a < b)))) : WO (gLt (.int a) (.int b)) Q := ⟨_, rfl, q⟩
theorem wo_le (q : Q (.bool (decide (a ≤ b)))) : WO (gLe (.int a) (.int b)) Q := ⟨_, rfl, q⟩
theorem wo_gt (q : Q (.bool (decide (b < a)))) : WO (gGt (.int a) (.int b)) Q := ⟨_, rfl, q⟩
theorem wo_ge (q : Q (.bool (decide (b ≤ a)))) : WO (gGe (.int a) (.int b)) Q := ⟨_, rfl, q⟩
theorem shp_int : shp (.int a) = true := rfl
theorem eqv_int : PyData.eqv (.int a) (.int b) = decide (a = b) := by unfold PyData.eqv; by_cases h : a = b <;> simp [h]
theorem wo_eq (q : Q (.bool (decide (a = b)))) : WO (gEq (.int a) (.int b)) Q := ⟨_, by unfold gEq; rw [shp_int, shp_int]; simp only [Bool.and_self, if_true]; rw [eqv_int], q⟩
theorem wo_ne (q : Q (.bool (!decide (a = b)))) : WO (gNe (.int a) (.int b)) Q := ⟨_, by unfold gNe; rw [shp_int, shp_int]; simp only [Bool.and_self, if_true]; rw [eqv_int], q⟩
theorem eqv_bool {a b : Bool} : PyData.eqv (.bool a) (.bool b) = (a == b) := by unfold PyData.eqv; rfl
theorem wo_eqB {a b : Bool} (q : Q (.bool (a == b))) : WO (gEq (.bool a) (.bool b)) Q := ⟨_, by unfold gEq; rw [show shp (.bool a) = true from rfl, show shp (.bool b) = true from rfl]; simp only [Bool.and_self, if_true]; rw [eqv_bool], q⟩
theorem wo_neB {a b : Bool} (q : Q (.bool (!(a == b)))) : WO (gNe (.bool a) (.bool b)) Q := ⟨_, by unfold gNe; rw [show shp (.bool a) = true from rfl, show shp (.bool b) = true from rfl]; simp only [Bool.and_self, if_true]; rw [eqv_bool], q⟩
theorem wo_eqD (h1 : shp d = true) (h2 : shp e = true) (q : Q (.bool (PyData.eqv d e))) : WO (gEq d e) Q := ⟨_, by unfold gEq; rw [h1, h2]; (try rfl), q⟩
theorem wo_neD (h1 : shp d = true) (h2 : shp e = true) (q : Q (.bool (!PyData.eqv d e))) : WO (gNe d e) Q := ⟨_, by unfold gNe; rw [h1, h2]; (try rfl), q⟩
theorem atI_ix {α : Type} {xs : List α} {k : Int} (h1 : 0 ≤ k) (h2 : k < xs.length) : atI xs k = some (xs[k.toNat]'(by omega)) := by
  unfold atI ixN
  rw [if_pos h1, if_pos h2]
  simp only [Option.bind_some]
  exact List.getElem?_eq_getElem _
theorem wo_idxL {ds : List D} {k : Int} (h1 : 0 ≤ k) (h2 : k < ds.length) (q : ∀ d, ds[k.toNat]? = some d → d ∈ ds → Q d) : WO (gIdx (.list ds) (.int k)) Q :=
  ⟨_, atI_ix h1 h2, q _ (List.getElem?_eq_getElem _) (List.getElem_mem _)⟩
theorem wo_idxT {ds : List D} {k : Int} (h1 : 0 ≤ k) (h2 : k < ds.length) (q : ∀ d, ds[k.toNat]? = some d → d ∈ ds → Q d) : WO (gIdx (.tuple ds) (.int k)) Q :=
  ⟨_, atI_ix h1 h2, q _ (List.getElem?_eq_getElem _) (List.getElem_mem _)⟩
theorem wo_idxE {x d : D} {k : Int} (h : gIdx d (.int k) = some x) (q : Q x) : WO (gIdx d (.int k)) Q := ⟨_, h, q⟩
theorem wo_lenL {ds : List D} (q : Q (.int (ds.length : Int))) : WO (gLen (.list ds)) Q := ⟨_, rfl, q⟩
theorem wo_lenT {ds : List D} (q : Q (.int (ds.length : Int))) : WO (gLen (.tuple ds)) Q := ⟨_, rfl, q⟩
theorem wo_abs (q : Q (.int (if a < 0 then -a else a))) : WO (gAbs (.int a)) Q := ⟨_, rfl, q⟩
theorem wo_intB {b : Bool} (q : Q (.int (if b then 1 else 0))) : WO (gInt (.bool b)) Q := ⟨_, rfl, q⟩
theorem wo_intI (q : Q (.int a)) : WO (gInt (.int a)) Q := ⟨_, rfl, q⟩
theorem wo_listL {ds : List D} {Q : List D → Prop} (q : Q ds) : WO (gList (.list ds)) Q := ⟨_, rfl, q⟩
theorem wo_listT {ds : List D} {Q : List D → Prop} (q : Q ds) : WO (gList (.tuple ds)) Q := ⟨_, rfl, q⟩
theorem wo_tupL {ds : List D} (q : Q (.tuple ds)) : WO (gTuple (.list ds)) Q := ⟨_, rfl, q⟩
theorem wo_tupT {ds : List D} (q : Q (.tuple ds)) : WO (gTuple (.tuple ds)) Q := ⟨_, rfl, q⟩
theorem wo_sum {ns : List Int} {ds : List D} (h : ds = ns.map .int) (q : Q (.int ns.sum)) : WO (gSum (.list ds)) Q := ⟨_, by subst h; unfold gSum; dsimp only; rw [intsOf_map]; (try rfl), q⟩
theorem wo_any {ns : List Bool} {ds : List D} (h : ds = ns.map .bool) (q : Q (.bool (ns.any id))) : WO (gAny (.list ds)) Q := ⟨_, by subst h; unfold gAny; dsimp only; rw [blsOf_map]; (try rfl), q⟩
theorem wo_max (q : Q (.int (if b > a then b else a))) : WO (gMax2 (.int a) (.int b)) Q := ⟨_, rfl, q⟩
theorem wo_min (q : Q (.int (if b < a then b else a))) : WO (gMin2 (.int a) (.int b)) Q := ⟨_, rfl, q⟩
theorem wo_app {ds : List D} {Q : List D × D → Prop} (h : fits (ds.length + 1) = true) (q : Q (ds ++ [d], .none)) : WO (mAppend ds d) Q := ⟨_, by unfold mAppend; rw [if_pos h], q⟩
theorem wo_ext {ds es : List D} {Q : List D × D → Prop} (h : fits (ds.length + es.length) = true) (q : Q (ds ++ es, .none)) : WO (mExtend ds (.list es)) Q := ⟨_, by unfold mExtend; dsimp only; rw [if_pos h], q⟩
theorem wo_isN (q : Q (.bool (isNone d))) : WO (gIsN d .none) Q := ⟨_, rfl, q⟩
theorem wo_ntN (q : Q (.bool (!isNone d))) : WO (gNtN d .none) Q := ⟨_, rfl, q⟩
theorem wo_isiE {T : Ty} {z : D} (h : gIsi T d = some z) (q : Q z) : WO (gIsi T d) Q := ⟨z, h, q⟩
theorem wo_allE {z : D} (h : gAll d = some z) (q : Q z) : WO (gAll d) Q := ⟨z, h, q⟩
theorem wo_anyE {z : D} (h : gAny d = some z) (q : Q z) : WO (gAny d) Q := ⟨z, h, q⟩
theorem wo_eqT (h : (shp d && shp e && PyData.eqv d e) = true) (q : Q (.bool true)) : WO (gEq d e) Q := by
  simp only [Bool.and_eq_true] at h
  exact ⟨_, by unfold gEq; rw [h.1.1, h.1.2, h.2]; rfl, q⟩
theorem wo_eqF (h : (shp d && shp e && !PyData.eqv d e) = true) (q : Q (.bool false)) : WO (gEq d e) Q := by
  simp only [Bool.and_eq_true, Bool.not_eq_true'] at h
  exact ⟨_, by unfold gEq; rw [h.1.1, h.1.2, h.2]; rfl, q⟩
theorem wo_neT (h : (shp d && shp e && !PyData.eqv d e) = true) (q : Q (.bool true)) : WO (gNe d e) Q := by
  simp only [Bool.and_eq_true, Bool.not_eq_true'] at h
  exact ⟨_, by unfold gNe; rw [h.1.1, h.1.2, h.2]; rfl, q⟩
theorem wo_neF (h : (shp d && shp e && PyData.eqv d e) = true) (q : Q (.bool false)) : WO (gNe d e) Q := by
  simp only [Bool.and_eq_true] at h
  exact ⟨_, by unfold gNe; rw [h.1.1, h.1.2, h.2]; rfl, q⟩
theorem wo_isiI (q : Q (.bool true)) : WO (gIsi .int (.int a)) Q := ⟨_, rfl, q⟩
theorem wo_isiB (q : Q (.bool false)) : WO (gIsi .bool (.int a)) Q := ⟨_, rfl, q⟩
theorem wo_ixE {n j : Nat} {k : Int} {Q : Nat → Prop} (h : ixN n k = some j) (q : Q j) : WO (ixN n k) Q := ⟨j, h, q⟩
theorem wo_ix {n : Nat} {k : Int} {Q : Nat → Prop} (h1 : 0 ≤ k) (h2 : k < n) (q : Q k.toNat) : WO (ixN n k) Q := ⟨_, by unfold ixN; rw [if_pos h1, if_pos h2], q⟩
theorem mul_ok1 (h : a.natAbs < 2 ^ 64) : mulOk a b = true := by unfold mulOk; rw [decide_eq_true h]; rfl
theorem mul_ok2 (h : b.natAbs < 2 ^ 64) : mulOk a b = true := by unfold mulOk; rw [decide_eq_true h]; simp
theorem mul_ok3 (h1 : a.natAbs < 10 ^ 250 * 10 ^ 250) (h2 : b.natAbs < 10 ^ 250 * 10 ^ 250) : mulOk a b = true := by unfold mulOk; rw [decide_eq_true h1, decide_eq_true h2]; simp
theorem fits_of {n : Nat} (h : n ≤ 16777216) : fits n = true := decide_eq_true h
end
theorem wo_p10_60 {Q : D → Prop} (q : Q (.int 1000000000000000000000000000000000000000000000000000000000000)) : WO (gPow (.int 10) (.int 60)) Q := ⟨_, rfl, q⟩
theorem wo_p10_18 {Q : D → Prop} (q : Q (.int 1000000000000000000)) : WO (gPow (.int 10) (.int 18)) Q := ⟨_, rfl, q⟩
theorem wo_p10_30 {Q : D → Prop} (q : Q (.int 1000000000000000000000000000000)) : WO (gPow (.int 10) (.int 30)) Q := ⟨_, rfl, q⟩
theorem wo_p2_24 {Q : D → Prop} (q : Q (.int 16777216)) : WO (gPow (.int 2) (.int 24)) Q := ⟨_, rfl, q⟩
theorem wo_p10_8 {Q : D → Prop} (q : Q (.int 100000000)) : WO (gPow (.int 10) (.int 8)) Q := ⟨_, rfl, q⟩
theorem wo_p10_19 {Q : D → Prop} (q : Q (.int 10000000000000000000)) : WO (gPow (.int 10) (.int 19)) Q := ⟨_, rfl, q⟩
theorem wo_p10_55 {Q : D → Prop} (q : Q (.int 10000000000000000000000000000000000000000000000000000000)) : WO (gPow (.int 10) (.int 55)) Q := ⟨_, rfl, q⟩
theorem wo_p10_59 {Q : D → Prop} (q : Q (.int 100000000000000000000000000000000000000000000000000000000000)) : WO (gPow (.int 10) (.int 59)) Q := ⟨_, rfl, q⟩
theorem wo_p3_30 {Q : D → Prop} (q : Q (.int 205891132094649)) : WO (gPow (.int 3) (.int 30)) Q := ⟨_, rfl, q⟩
theorem wo_p2_40 {Q : D → Prop} (q : Q (.int 1099511627776)) : WO (gPow (.int 2) (.int 40)) Q := ⟨_, rfl, q⟩
theorem wo_p10_54 {Q : D → Prop} (q : Q (.int 1000000000000000000000000000000000000000000000000000000)) : WO (gPow (.int 10) (.int 54)) Q := ⟨_, rfl, q⟩
theorem wo_p3_13 {Q : D → Prop} (q : Q (.int 1594323)) : WO (gPow (.int 3) (.int 13)) Q := ⟨_, rfl, q⟩
theorem wo_p2_20 {Q : D → Prop} (q : Q (.int 1048576)) : WO (gPow (.int 2) (.int 20)) Q := ⟨_, rfl, q⟩
theorem wo_p10_57 {Q : D → Prop} (q : Q (.int 1000000000000000000000000000000000000000000000000000000000)) : WO (gPow (.int 10) (.int 57)) Q := ⟨_, rfl, q⟩
theorem wo_p10_40 {Q : D → Prop} (q : Q (.int 10000000000000000000000000000000000000000)) : WO (gPow (.int 10) (.int 40)) Q := ⟨_, rfl, q⟩
theorem wo_p10_61 {Q : D → Prop} (q : Q (.int 10000000000000000000000000000000000000000000000000000000000000)) : WO (gPow (.int 10) (.int 61)) Q := ⟨_, rfl, q⟩
theorem wo_p10_50 {Q : D → Prop} (q : Q (.int 100000000000000000000000000000000000000000000000000)) : WO (gPow (.int 10) (.int 50)) Q := ⟨_, rfl, q⟩
end M

namespace M
open PySem PySem.Spec PyProof.Rows L2
theorem irange_zero {n : Nat} {d : D} (h : d ∈ irange 0 n) : ∃ i : Int, d = .int i ∧ 0 ≤ i ∧ i < n := by
  unfold irange at h
  obtain ⟨k, h1, rfl⟩ := List.mem_map.mp h
  exact ⟨_, rfl, by omega, by have := List.mem_range.mp h1; omega⟩
theorem irange_length (lo : Int) (n : Nat) : (irange lo n).length = n := by unfold irange; rw [List.length_map, List.length_range]
theorem pick_w {xs : List Int} {ds : List D} {k lo hi : Int} {Q : D → Prop} (h0 : 0 ≤ k) (h1 : k < ds.length) (e : ds = xs.map .int) (hb : ∀ x ∈ xs, lo ≤ x ∧ x ≤ hi) (q : ∀ x : Int, lo ≤ x → x ≤ hi → x ∈ xs → Q (.int x)) : WO (gIdx (.list ds) (.int k)) Q := by
  subst e
  refine wo_idxL h0 h1 fun d _ hd => ?_
  obtain ⟨x, hx, rfl⟩ := List.mem_map.mp hd
  exact q x (hb x hx).1 (hb x hx).2 hx
/-! ### common parts -/
mutual
theorem eqv_refl0 : ∀ d : D, d.canLay0 = true → PyData.eqv d d = true
  | .none, _ => by unfold PyData.eqv; rfl
  | .bool b, _ => by unfold PyData.eqv; simp
  | .int b, _ => by unfold PyData.eqv; simp
  | .str b, _ => by unfold PyData.eqv; simp
  | .list ds, h => by unfold PyData.eqv; exact eqvAll_refl0 ds (by unfold PyData.canLay0 at h; exact h)
  | .tuple ds, h => by unfold PyData.eqv; exact eqvAll_refl0 ds (by unfold PyData.canLay0 at h; exact h)
  | .dict _, h => by unfold PyData.canLay0 at h; cases h
theorem eqvAll_refl0 : ∀ ds : List D, PyData.canLayAll0 ds = true → PyData.eqvAll ds ds = true
  | [], _ => by unfold PyData.eqvAll; rfl
  | d :: ds, h => by
    unfold PyData.canLayAll0 at h
    unfold PyData.eqvAll
    rw [eqv_refl0 d (Bool.and_eq_true_iff.mp h).1, eqvAll_refl0 ds (Bool.and_eq_true_iff.mp h).2]
    rfl
end
theorem eqv_refl (d : D) (h : shp d = true) : PyData.eqv d d = true := eqv_refl0 d (by unfold shp SeqAt.shaped at h; exact (Bool.and_eq_true_iff.mp h).1)
theorem canLay_ints : ∀ ns : List Int, PyData.canLayAll0 (ns.map .int) = true
  | [] => rfl
  | n :: ns => canLay_ints ns
theorem depth_ints : ∀ ns : List Int, PyData.depthAll (ns.map .int) = 0
  | [] => rfl
  | n :: ns => by
    show max 0 (PyData.depthAll (ns.map .int)) = 0
    rw [depth_ints ns]
    rfl
theorem shp_ints (ns : List Int) : shp (.list (ns.map .int)) = true := by
  unfold shp SeqAt.shaped
  have h1 : (PyData.list (ns.map PyData.int)).canLay0 = true := canLay_ints ns
  have h2 : (PyData.list (ns.map PyData.int)).depth = 1 := by
    show PyData.depthAll (ns.map .int) + 1 = 1
    rw [depth_ints]
  rw [h1, h2]
  rfl
theorem wo_neR {d : D} {Q : D → Prop} (h : shp d = true) (q : Q (.bool false)) : WO (gNe d d) Q := wo_neD h h (by rw [eqv_refl d h]; exact q)
structure IsG (a b g : Int) : Prop where
  pos : 0 ≤ g
  da : g ∣ a
  db : g ∣ b
  all : ∀ d : Int, d ∣ a → d ∣ b → d ∣ g
theorem IsG.uniq {a b g h : Int} (x : IsG a b g) (y : IsG a b h) : g = h := Int.dvd_antisymm x.pos y.pos (y.all g x.da x.db) (x.all h y.da y.db)
theorem IsG.symm {a b g : Int} (x : IsG a b g) : IsG b a g := ⟨x.pos, x.db, x.da, fun d h1 h2 => x.all d h2 h1⟩
theorem IsG.ne {a b g : Int} (x : IsG a b g) (h : 0 < b) : 0 < g := by
  rcases Int.lt_or_eq_of_le x.pos with h1 | h1
  · exact h1
  · have := x.db
    rw [← h1] at this
    have := Int.zero_dvd.mp this
    omega
/-- g is made of both, s and t times -/
structure Bz (a b g s t : Int) : Prop where
  G : IsG a b g
  eq : s * a + t * b = g
  sb : s.natAbs ≤ b.natAbs + 1
  tb : t.natAbs ≤ a.natAbs + 1
/-- the turn's state of the search for the greatest common part -/
structure Eu (a b r0 s0 t0 r1 s1 t1 : Int) : Prop where
  h0 : 0 ≤ r0
  h1 : 0 ≤ r1
  e0 : s0 * a + t0 * b = r0
  e1 : s1 * a + t1 * b = r1
  dv : ∀ d : Int, (d ∣ r0 ∧ d ∣ r1) ↔ (d ∣ a ∧ d ∣ b)
  sg : ∃ e p0 p1 u0 u1 : Int, (e = 1 ∨ e = -1) ∧ 0 ≤ p0 ∧ 0 ≤ p1 ∧ 0 ≤ u0 ∧ 0 ≤ u1 ∧ s0 = e * p0 ∧ s1 = -(e * p1) ∧ t0 = -(e * u0) ∧ t1 = e * u1 ∧ p0 * r1 + p1 * r0 = b ∧ u0 * r1 + u1 * r0 = a ∧ p0 ≤ b + 1 ∧ p1 ≤ b + 1 ∧ u0 ≤ a + 1 ∧ u1 ≤ a + 1
theorem Eu.start {a b : Int} (ha : 0 ≤ a) (hb : 0 ≤ b) : Eu a b a 1 0 b 0 1 :=
  ⟨ha, hb, by omega, by omega, fun d => Iff.rfl, 1, 1, 0, 0, 1, .inl rfl, by omega, by omega, by omega, by omega, by omega, by omega, by omega, by omega, by omega, by omega, by omega, by omega, by omega, by omega⟩
theorem Eu.step {a b r0 s0 t0 r1 s1 t1 : Int} (E : Eu a b r0 s0 t0 r1 s1 t1) (hr : r1 ≠ 0) : Eu a b r1 s1 t1 (r0 - r0 / r1 * r1) (s0 - r0 / r1 * s1) (t0 - r0 / r1 * t1) ∧ (r0 - r0 / r1 * r1).toNat < r1.toNat ∧ 0 ≤ r0 / r1 ∧ r0 / r1 ≤ r0 := by
  obtain ⟨h0, h1, e0, e1, dv, e, p0, p1, u0, u1, he, hp0, hp1, hu0, hu1, rfl, rfl, rfl, rfl, i1, i2, b1, b2, b3, b4⟩ := E
  have hr1 : 0 < r1 := by omega
  have q0 : 0 ≤ r0 / r1 := Int.ediv_nonneg h0 h1
  have q1 : r0 / r1 ≤ r0 := Int.ediv_le_self _ h0
  have m1 := Int.mul_ediv_add_emod r0 r1
  have m2 := Int.emod_nonneg r0 hr
  have m3 := Int.emod_lt_of_pos r0 hr1
  have m4 : r0 - r0 / r1 * r1 = r0 % r1 := by rw [Int.mul_comm]; omega
  generalize r0 / r1 = q at *
  have k1 : 0 ≤ q * p1 := Int.mul_nonneg q0 hp1
  have k2 : 0 ≤ q * u1 := Int.mul_nonneg q0 hu1
  have k3 : p1 * (r0 - q * r1) + (p0 + q * p1) * r1 = b := by grind
  have k4 : u1 * (r0 - q * r1) + (u0 + q * u1) * r1 = a := by grind
  have k5 : 0 ≤ p1 * (r0 - q * r1) := Int.mul_nonneg hp1 (by omega)
  have k6 : 0 ≤ u1 * (r0 - q * r1) := Int.mul_nonneg hu1 (by omega)
  have k7 : (p0 + q * p1) * 1 ≤ (p0 + q * p1) * r1 := Int.mul_le_mul_of_nonneg_left (by omega) (by omega)
  have k8 : (u0 + q * u1) * 1 ≤ (u0 + q * u1) * r1 := Int.mul_le_mul_of_nonneg_left (by omega) (by omega)
  refine ⟨⟨h1, by omega, e1, by grind, fun d => ?_, -e, p1, p0 + q * p1, u1, u0 + q * u1, by omega, hp1, by omega, hu1, by omega, by grind, by grind, by grind, by grind, k3, k4, by omega, by omega, by omega, by omega⟩, by omega, q0, q1⟩
  rw [← dv d]
  constructor
  · rintro ⟨d1, d2⟩
    refine ⟨?_, d1⟩
    have : r0 = (r0 - q * r1) + q * r1 := by omega
    rw [this]
    exact Int.dvd_add d2 (Int.dvd_mul_of_dvd_right d1)
  · rintro ⟨d1, d2⟩
    exact ⟨d2, Int.dvd_sub d1 (Int.dvd_mul_of_dvd_right d2)⟩
theorem Eu.fin {a b r0 s0 t0 s1 t1 : Int} (ha : 0 ≤ a) (hb : 0 ≤ b) (E : Eu a b r0 s0 t0 0 s1 t1) : Bz a b r0 s0 t0 := by
  obtain ⟨h0, h1, e0, e1, dv, e, p0, p1, u0, u1, he, hp0, hp1, hu0, hu1, rfl, rfl, rfl, rfl, i1, i2, b1, b2, b3, b4⟩ := E
  have := (dv r0).mp ⟨Int.dvd_refl _, Int.dvd_zero _⟩
  refine ⟨⟨h0, this.1, this.2, fun d d1 d2 => ((dv d).mpr ⟨d1, d2⟩).1⟩, e0, ?_, ?_⟩
  · rcases he with rfl | rfl <;> omega
  · rcases he with rfl | rfl <;> omega
theorem Eu.sz {a b r0 s0 t0 r1 s1 t1 : Int} (E : Eu a b r0 s0 t0 r1 s1 t1) : s1.natAbs ≤ b.natAbs + 1 ∧ t1.natAbs ≤ a.natAbs + 1 := by
  obtain ⟨h0, h1, e0, e1, dv, e, p0, p1, u0, u1, he, hp0, hp1, hu0, hu1, rfl, rfl, rfl, rfl, i1, i2, b1, b2, b3, b4⟩ := E
  constructor
  · rcases he with rfl | rfl <;> omega
  · rcases he with rfl | rfl <;> omega
/-! ### values that == can be asked of -/
def scal : D → Bool
  | .none => true
  | .bool _ => true
  | .int _ => true
  | .str x => (PyData.str x).canLay0
  | _ => false
theorem scal_int (x : Int) : scal (.int x) = true := rfl
theorem scal_lay : ∀ d : D, scal d = true → d.canLay0 = true ∧ d.depth = 0
  | .none, _ => ⟨rfl, rfl⟩
  | .bool _, _ => ⟨rfl, rfl⟩
  | .int _, _ => ⟨rfl, rfl⟩
  | .str _, h => ⟨h, rfl⟩
  | .list _, h => by cases h
  | .tuple _, h => by cases h
  | .dict _, h => by cases h
theorem scal_all : ∀ ds : List D, ds.all scal = true → PyData.canLayAll0 ds = true ∧ PyData.depthAll ds = 0
  | [], _ => ⟨rfl, rfl⟩
  | d :: ds, h => by
    rw [List.all_cons, Bool.and_eq_true] at h
    obtain ⟨h1, h2⟩ := scal_lay d h.1
    obtain ⟨h3, h4⟩ := scal_all ds h.2
    refine ⟨?_, ?_⟩
    · show (d.canLay0 && PyData.canLayAll0 ds) = true
      rw [h1, h3]; rfl
    · show max d.depth (PyData.depthAll ds) = 0
      rw [h2, h4]; rfl
theorem shp_tup {ds : List D} (h : ds.all scal = true) : shp (.tuple ds) = true := by
  obtain ⟨h1, h2⟩ := scal_all ds h
  unfold shp SeqAt.shaped
  rw [show (PyData.tuple ds).canLay0 = true from h1, show (PyData.tuple ds).depth = 1 from by show PyData.depthAll ds + 1 = 1; rw [h2]]
  rfl
/-! ### stretches joined -/
def Jd (f1 s1 f2 s2 : Int) (d : D) : Prop := ∃ g : Int, IsG s1 s2 g ∧ 0 < g ∧ (((f2 - f1) % g ≠ 0 ∧ d = .tuple [.str "none", .int g]) ∨ ((f2 - f1) % g = 0 ∧ ∃ x : Int, 0 ≤ x ∧ x < s1 / g * s2 ∧ x % s1 = f1 ∧ x % s2 = f2 ∧ d = .tuple [.str "all", .int x, .int (s1 / g * s2)]))
theorem emod_of_sub {x y s : Int} (h : s ∣ x - y) (h0 : 0 ≤ y) (h1 : y < s) : x % s = y := by
  have := Int.emod_emod_of_dvd x (Int.dvd_refl s)
  rw [← Int.emod_eq_of_lt h0 h1]
  exact Int.emod_eq_emod_iff_emod_sub_eq_zero.mpr (Int.emod_eq_zero_of_dvd h)
theorem sub_of_emod {x y s : Int} (h : x % s = y % s) : s ∣ x - y := Int.dvd_of_emod_eq_zero (Int.emod_eq_emod_iff_emod_sub_eq_zero.mp h)
theorem lcm_dvd {s1 s2 g a b x : Int} (B : Bz s1 s2 g a b) (hg : 0 < g) (h1 : s1 ∣ x) (h2 : s2 ∣ x) : s1 / g * s2 ∣ x := by
  obtain ⟨p, hp⟩ := B.G.da
  obtain ⟨q, hq⟩ := B.G.db
  obtain ⟨c, rfl⟩ := h1
  obtain ⟨d, hd⟩ := h2
  have e1 : s1 / g = p := by rw [hp, Int.mul_ediv_cancel_left _ (by omega)]
  rw [e1]
  have eq := B.eq
  refine ⟨a * d + b * c * 1, ?_⟩
  have : g * (s1 * c) = g * (p * s2 * (a * d + b * c * 1)) := by grind
  exact Int.eq_of_mul_eq_mul_left (show g ≠ 0 by omega) this
theorem zero_of_dvd {x w : Int} (h : w ∣ x) (h1 : -w < x) (h2 : x < w) : x = 0 := by
  obtain ⟨k, rfl⟩ := h
  rcases Int.lt_trichotomy k 0 with h | h | h
  · have := Int.mul_le_mul_of_nonneg_left (show k ≤ -1 by omega) (show 0 ≤ w by omega)
    omega
  · rw [h, Int.mul_zero]
  · have := Int.mul_le_mul_of_nonneg_left (show 1 ≤ k by omega) (show 0 ≤ w by omega)
    omega
theorem IsG.bz {a b g : Int} (G : IsG a b g) (hb : 0 ≤ b) (ha : 0 ≤ a) : ∃ s t : Int, Bz a b g s t := by
  -- by the search itself
  have : ∀ n : Nat, ∀ r0 s0 t0 r1 s1 t1 : Int, r1.toNat < n → Eu a b r0 s0 t0 r1 s1 t1 → ∃ r s t : Int, Bz a b r s t := by
    intro n
    induction n with
    | zero => intro _ _ _ _ _ _ h; omega
    | succ n ih =>
      intro r0 s0 t0 r1 s1 t1 h E
      by_cases hr : r1 = 0
      · subst hr
        exact ⟨_, _, _, E.fin ha hb⟩
      · obtain ⟨E2, lt, _, _⟩ := E.step hr
        exact ih _ _ _ _ _ _ (by omega) E2
  obtain ⟨r, s, t, B⟩ := this (b.toNat + 1) a 1 0 b 0 1 (by omega) (Eu.start ha hb)
  have := B.G.uniq G
  subst this
  exact ⟨s, t, B⟩
theorem crt_uniq {s1 s2 g x y : Int} (G : IsG s1 s2 g) (hg : 0 < g) (h1 : 0 ≤ s1) (h2 : 0 ≤ s2) (x0 : 0 ≤ x) (x1 : x < s1 / g * s2) (y0 : 0 ≤ y) (y1 : y < s1 / g * s2) (e1 : x % s1 = y % s1) (e2 : x % s2 = y % s2) : x = y := by
  obtain ⟨s, t, B⟩ := G.bz h2 h1
  have := zero_of_dvd (lcm_dvd B hg (sub_of_emod e1) (sub_of_emod e2)) (by omega) (by omega)
  omega
theorem lcm_comm {s1 s2 g : Int} (G : IsG s1 s2 g) (hg : 0 < g) : s1 / g * s2 = s2 / g * s1 := by
  obtain ⟨p, hp⟩ := G.da
  obtain ⟨q, hq⟩ := G.db
  have e1 : s1 / g = p := by rw [hp, Int.mul_ediv_cancel_left _ (by omega)]
  have e2 : s2 / g = q := by rw [hq, Int.mul_ediv_cancel_left _ (by omega)]
  rw [e1, e2, hp, hq]
  grind
theorem Jd.uniq {f1 s1 f2 s2 : Int} {d e : D} (h1 : 0 < s1) (h2 : 0 < s2) (x : Jd f1 s1 f2 s2 d) (y : Jd f1 s1 f2 s2 e) : d = e := by
  obtain ⟨g, G, hg, x⟩ := x
  obtain ⟨g', G', _, y⟩ := y
  have := G.uniq G'
  subst this
  rcases x with ⟨n, rfl⟩ | ⟨n, x, x0, x1, x2, x3, rfl⟩
  · rcases y with ⟨_, rfl⟩ | ⟨m, _⟩
    · rfl
    · exact absurd m n
  · rcases y with ⟨m, _⟩ | ⟨m, y, y0, y1, y2, y3, rfl⟩
    · exact absurd n m
    · rw [crt_uniq G hg (by omega) (by omega) x0 x1 y0 y1 (x2.trans y2.symm) (x3.trans y3.symm)]
/-! ### weights -/
def mapI (f : Int → Int) : D → D
  | .int x => .int (f x)
  | d => d
theorem mapI_ints (f : Int → Int) (ns : List Int) : (ns.map PyData.int).map (mapI f) = (ns.map f).map .int := by
  rw [List.map_map, List.map_map]
  rfl
theorem filter_yes (ds : List D) : ds.filter (fun _ => true) = ds := List.filter_eq_self.mpr fun _ _ => rfl
def dot : List Int → List Int → Int
  | w :: ws, n :: ns => w * n + dot ws ns
  | _, _ => 0
theorem dot_app : ∀ (ws ns : List Int) (w n : Int), ws.length = ns.length → dot (ws ++ [w]) (ns ++ [n]) = dot ws ns + w * n
  | [], [], w, n, _ => by simp [dot]
  | [], _ :: _, _, _, h => by simp at h
  | _ :: _, [], _, _, h => by simp at h
  | v :: ws, m :: ns, w, n, h => by
    have := dot_app ws ns w n (by simpa using h)
    show v * m + dot (ws ++ [w]) (ns ++ [n]) = v * m + dot ws ns + w * n
    omega
theorem dot_mod (m s : Int) : ∀ (ws ns : List Int), m ∣ dot (ws.map fun w => w * s % m) ns - s * dot ws ns
  | [], [] => ⟨0, by simp [dot]⟩
  | [], _ :: _ => ⟨0, by simp [dot]⟩
  | _ :: _, [] => ⟨0, by simp [dot]⟩
  | w :: ws, n :: ns => by
    obtain ⟨c, hc⟩ := dot_mod m s ws ns
    have e := Int.mul_ediv_add_emod (w * s) m
    refine ⟨c - w * s / m * n, ?_⟩
    show w * s % m * n + dot (ws.map fun w => w * s % m) ns - s * (w * n + dot ws ns) = _
    generalize w * s / m = q at *
    generalize w * s % m = r at *
    grind
theorem dot_sum (t : Int) : ∀ (ws ns : List Int), (List.zipWith (fun w n => w * n * t) ws ns).sum = dot ws ns * t
  | [], [] => by simp [dot]
  | [], _ :: _ => by simp [dot]
  | _ :: _, [] => by simp [dot]
  | w :: ws, n :: ns => by
    have := dot_sum t ws ns
    rw [List.zipWith_cons_cons, List.sum_cons, this]
    show w * n * t + dot ws ns * t = (w * n + dot ws ns) * t
    grind
def mapT (f : Int → Int → Int) : D → D
  | .tuple [.int x, .int y] => .int (f x y)
  | d => d
theorem pairs_ints (ws ns : List Int) : pairs (ws.map .int) (ns.map .int) = (ws.zip ns).map fun p => .tuple [.int p.1, .int p.2] := by
  unfold pairs
  rw [List.zip_map, List.map_map]
  rfl
theorem mapT_pairs (f : Int → Int → Int) (ws ns : List Int) : (pairs (ws.map .int) (ns.map .int)).map (mapT f) = (List.zipWith f ws ns).map .int := by
  rw [pairs_ints, List.map_map]
  induction ws generalizing ns with
  | nil => simp
  | cons w ws ih =>
    cases ns with
    | nil => simp
    | cons n ns =>
      rw [List.zip_cons_cons, List.zipWith_cons_cons, List.map_cons, List.map_cons, ih ns]
      rfl
structure We (m : Int) (ns : List Int) (g : Int) (ws : List Int) : Prop where
  pos : 0 < g
  dm : g ∣ m
  dn : ∀ n ∈ ns, g ∣ n
  all : ∀ d : Int, d ∣ m → (∀ n ∈ ns, d ∣ n) → d ∣ g
  len : ws.length = ns.length
  dot : m ∣ dot ws ns - g
  rng : ∀ w ∈ ws, 0 ≤ w ∧ w < m
theorem We.start {m : Int} (hm : 0 < m) : We m [] m [] := ⟨hm, Int.dvd_refl _, fun n h => (by cases h), fun d h _ => h, rfl, ⟨-1, by simp [M.dot]⟩, fun w h => (by cases h)⟩
theorem We.step {m g n g' s t : Int} {ns ws : List Int} (hm : 0 < m) (W : We m ns g ws) (B : Bz g (n % m) g' s t) : We m (ns ++ [n]) g' ((ws.map fun w => w * s % m) ++ [t % m]) := by
  have hgm := Int.dvd_trans B.G.da W.dm
  have en : n = n % m + m * (n / m) := by have := Int.mul_ediv_add_emod n m; omega
  refine ⟨?_, hgm, fun x hx => ?_, fun d d1 d2 => ?_, ?_, ?_, fun w hw => ?_⟩
  · rcases Int.lt_or_eq_of_le B.G.pos with h | h
    · exact h
    · rw [← h] at hgm
      have := Int.zero_dvd.mp hgm
      omega
  · rcases List.mem_append.mp hx with hx | hx
    · exact Int.dvd_trans B.G.da (W.dn x hx)
    · rw [List.mem_singleton] at hx
      subst hx
      rw [en]
      exact Int.dvd_add B.G.db (Int.dvd_mul_of_dvd_left hgm)
  · refine B.G.all d (W.all d d1 fun x hx => d2 x (List.mem_append_left _ hx)) ?_
    have : n % m = n - m * (n / m) := by omega
    rw [this]
    exact Int.dvd_sub (d2 n (by simp)) (Int.dvd_mul_of_dvd_left d1)
  · simp [W.len]
  · rw [dot_app _ _ _ _ (by simp [W.len])]
    obtain ⟨a, ha⟩ := dot_mod m s ws ns
    obtain ⟨b, hb⟩ := W.dot
    have et := Int.mul_ediv_add_emod t m
    have eq := B.eq
    refine ⟨a + s * b - t / m * n + t * (n / m), ?_⟩
    generalize M.dot (ws.map fun w => w * s % m) ns = X at *
    generalize M.dot ws ns = Y at *
    generalize n / m = p at *
    generalize n % m = q at *
    generalize t / m = u at *
    generalize t % m = v at *
    grind
  · rcases List.mem_append.mp hw with hw | hw
    · obtain ⟨v, _, rfl⟩ := List.mem_map.mp hw
      exact ⟨Int.emod_nonneg _ (by omega), Int.emod_lt_of_pos _ hm⟩
    · rw [List.mem_singleton] at hw
      subst hw
      exact ⟨Int.emod_nonneg _ (by omega), Int.emod_lt_of_pos _ hm⟩
theorem We.one {m f g : Int} {ws : List Int} (W : We m [f] g ws) : IsG m f g := ⟨by have := W.pos; omega, W.dm, W.dn f (by simp), fun d d1 d2 => W.all d d1 fun n hn => by rw [List.mem_singleton] at hn; subst hn; exact d2⟩
theorem wo_hd {d : D} {ds : List D} {Q : D → Prop} (q : Q d) : WO (gIdx (.list (d :: ds)) (.int 0)) Q := by
  refine wo_idxL (Int.le_refl 0) (by rw [List.length_cons]; omega) fun e he _ => ?_
  cases he
  exact q
/-! ### many stretches -/
theorem Jd.all {f1 s1 f2 s2 : Int} {d : D} (h0 : 0 ≤ f1) (h1 : f1 < s1) (h2 : 0 ≤ f2) (h3 : f2 < s2) (J : Jd f1 s1 f2 s2 d) :
    (∃ g : Int, d = .tuple [.str "none", .int g] ∧ ∀ y : Int, ¬ (y % s1 = f1 ∧ y % s2 = f2)) ∨ ∃ x w : Int, d = .tuple [.str "all", .int x, .int w] ∧ 0 ≤ x ∧ x < w ∧ w ≤ s1 * s2 ∧ ∀ y : Int, (y % s1 = f1 ∧ y % s2 = f2) ↔ y % w = x := by
  obtain ⟨g, G, hg, ⟨hn, rfl⟩ | ⟨hn, x, x0, x1, x2, x3, rfl⟩⟩ := J
  · refine .inl ⟨g, rfl, fun y ⟨e1, e2⟩ => hn ?_⟩
    have a1 : s1 ∣ y - f1 := sub_of_emod (by rw [e1, Int.emod_eq_of_lt h0 h1])
    have a2 : s2 ∣ y - f2 := sub_of_emod (by rw [e2, Int.emod_eq_of_lt h2 h3])
    have := Int.dvd_sub (Int.dvd_trans G.da a1) (Int.dvd_trans G.db a2)
    rw [show y - f1 - (y - f2) = f2 - f1 by omega] at this
    exact Int.emod_eq_zero_of_dvd this
  · obtain ⟨s, t, B⟩ := G.bz (show 0 ≤ s2 by omega) (show 0 ≤ s1 by omega)
    have hd : s1 / g ≤ s1 := Int.ediv_le_self _ (by omega)
    refine .inr ⟨x, s1 / g * s2, rfl, x0, x1, Int.mul_le_mul_of_nonneg_right hd (by omega), fun y => ⟨fun ⟨e1, e2⟩ => ?_, fun e => ?_⟩⟩
    · exact emod_of_sub (lcm_dvd B hg (sub_of_emod (e1.trans x2.symm)) (sub_of_emod (e2.trans x3.symm))) x0 x1
    · have hw : s1 / g * s2 ∣ y - x := sub_of_emod (by rw [e, Int.emod_eq_of_lt x0 x1])
      have w2 : s2 ∣ s1 / g * s2 := Int.dvd_mul_left _ _
      have w1 : s1 ∣ s1 / g * s2 := by rw [lcm_comm G hg]; exact Int.dvd_mul_left _ _
      refine ⟨?_, ?_⟩
      · rw [← x2]
        exact Int.emod_eq_emod_iff_emod_sub_eq_zero.mpr (Int.emod_eq_zero_of_dvd (Int.dvd_trans w1 hw))
      · rw [← x3]
        exact Int.emod_eq_emod_iff_emod_sub_eq_zero.mpr (Int.emod_eq_zero_of_dvd (Int.dvd_trans w2 hw))
abbrev St2 := Int × Int
def Alls (ss : List St2) (x : Int) : Prop := ∀ p ∈ ss, x % p.2 = p.1
def stD (p : St2) : D := .tuple [.int p.1, .int p.2]
def Told (ss : List St2) (d : D) : Prop := (d = .none ∧ ∀ x, ¬ Alls ss x) ∨ ∃ p : St2, d = stD p ∧ 0 ≤ p.1 ∧ p.1 < p.2 ∧ ∀ x, Alls ss x ↔ x % p.2 = p.1
theorem Told.uniq {ss tt : List St2} {d e : D} (h : ∀ x, Alls ss x ↔ Alls tt x) (x : Told ss d) (y : Told tt e) : d = e := by
  rcases x with ⟨rfl, x⟩ | ⟨⟨f, w⟩, rfl, x0, x1, x⟩
  · rcases y with ⟨rfl, _⟩ | ⟨⟨f, w⟩, rfl, y0, y1, y⟩
    · rfl
    · exact absurd ((h f).mpr ((y f).mpr (Int.emod_eq_of_lt y0 y1))) (x f)
  · rcases y with ⟨rfl, y⟩ | ⟨⟨f', w'⟩, rfl, y0, y1, y⟩
    · exact absurd ((h f).mp ((x f).mpr (Int.emod_eq_of_lt x0 x1))) (y f)
    · dsimp only at x x0 x1 y y0 y1
      have key : ∀ z : Int, z % w = f ↔ z % w' = f' := fun z => (x z).symm.trans ((h z).trans (y z))
      have a1 : (f + w) % w' = f' := (key _).mp (by rw [Int.add_emod_right]; exact Int.emod_eq_of_lt x0 x1)
      have a2 : f % w' = f' := (key _).mp (Int.emod_eq_of_lt x0 x1)
      have b1 : (f' + w') % w = f := (key _).mpr (by rw [Int.add_emod_right]; exact Int.emod_eq_of_lt y0 y1)
      have b2 : f' % w = f := (key _).mpr (Int.emod_eq_of_lt y0 y1)
      have d1 : w' ∣ w := by have := sub_of_emod (a1.trans a2.symm); rwa [show f + w - f = w by omega] at this
      have d2 : w ∣ w' := by have := sub_of_emod (b1.trans b2.symm); rwa [show f' + w' - f' = w' by omega] at this
      have := Int.dvd_antisymm (by omega) (by omega) d1 d2
      subst this
      rw [Int.emod_eq_of_lt x0 x1] at a2
      rw [a2]
theorem Told.shp {ss : List St2} {d : D} (h : Told ss d) : M.shp d = true := by
  rcases h with ⟨rfl, _⟩ | ⟨p, rfl, _⟩
  · rfl
  · exact shp_tup (by simp only [List.all_cons, List.all_nil, scal_int, Bool.and_true])
theorem cut_one (x : D) (xs : List D) : M.cutD (x :: xs) (some 1) none = xs := by
  unfold M.cutD
  rw [show (some 1 : Option Int) = some ((1 : Nat) : Int) from rfl, HT.sIx_nat, HT.sIx_none, Nat.min_eq_left (by simp), List.drop_succ_cons, List.drop_zero, List.take_of_length_le (by simp)]
theorem Alls.cons {p : St2} {ss : List St2} {x : Int} : Alls (p :: ss) x ↔ x % p.2 = p.1 ∧ Alls ss x := by
  unfold Alls
  simp
end M

namespace M
open PySem PySem.Spec PyProof.Rows L2
def alikeB (ds : List D) : Bool := ds.all fun d => ds.all fun e => PySem.W.alike d e
def isTup1 : D → Bool
  | .tuple (_ :: _) => true
  | _ => false
def notNT : D → Bool
  | .none => false
  | .tuple _ => false
  | _ => true
def sortB (ds : List D) : Bool := ds.all isTup1 || ds.all notNT
theorem alikeB_ok {ds : List D} (h : alikeB ds = true) : PySem.W.AllAlike ds := fun d hd e he => by
  unfold alikeB at h
  exact List.all_eq_true.mp (List.all_eq_true.mp h d hd) e he
theorem sortB_ok {ds : List D} (h : sortB ds = true) : PySem.W.Sortable ds := by
  unfold sortB at h
  rcases Bool.or_eq_true _ _ |>.mp h with h | h
  · refine .inl fun d hd => ?_
    have := List.all_eq_true.mp h d hd
    unfold isTup1 at this
    split at this
    · exact ⟨_, _, rfl⟩
    · cases this
  · refine .inr fun d hd => ?_
    have := List.all_eq_true.mp h d hd
    refine ⟨fun e => ?_, fun xs e => ?_⟩ <;> subst e <;> cases this
def shallow (ds : List D) : Bool := ds.all fun d => decide (d.depth ≤ 60)
/-- sorted(xs), xs a list of data that are alike -/
def rSortedD (K : Frg) : List V → Hp → VK → Prop := fun vs H Q => ∃ (a : Addr) (xs : List V) (ds : List D), vs = [V.ref a] ∧ SqL K H a xs ∧ DpAll K H xs ds ∧ PySem.W.AllAlike ds ∧ PySem.W.Sortable ds ∧ shallow ds = true ∧
  ∀ (ps : List (V × D)) (p : Addr), (∀ q ∈ ps, q ∈ xs.zip ds) → ps.map Prod.snd = ds.mergeSort (PySem.W.dataLe false id) → H p = none → Q (.ref p) (upd H p (.lst (ps.map Prod.fst)))
section
variable {X : Cx}
theorem dpAll_len {K : Frg} {H : Hp} : ∀ {xs : List V} {ds : List D}, DpAll K H xs ds → xs.length = ds.length
  | [], [], _ => rfl
  | [], _ :: _, h => by cases h
  | _ :: _, [], h => by cases h
  | _ :: _, _ :: _, h => by cases h with | cons _ t => simp [dpAll_len t]
theorem dpAll_zip {K : Frg} {H : Hp} : ∀ {xs : List V} {ds : List D}, DpAll K H xs ds → ∀ q ∈ xs.zip ds, Dp K H q.1 q.2
  | [], [], _, q, hq => by simp at hq
  | [], _ :: _, h, _, _ => by cases h
  | _ :: _, [], h, _, _ => by cases h
  | _ :: _, _ :: _, h, q, hq => by
    cases h with
    | cons h1 t =>
      rw [List.zip_cons_cons] at hq
      rcases List.mem_cons.mp hq with rfl | hq
      · exact h1
      · exact dpAll_zip t q hq
theorem vals_zip : ∀ {xs : List V} {us : List Value} {ds : List D}, Vals xs us → xs.length = ds.length → PySem.W.EachIs (fun u (b : V × D) => RelV b.1 u ∧ b ∈ xs.zip ds) us (xs.zip ds)
  | [], us, [], r, _ => by cases r; exact .nil
  | [], _, _ :: _, _, h => by simp at h
  | _ :: _, _, [], _, h => by simp at h
  | x :: xs, us, d :: ds, r, h => by
    cases r with
    | cons r1 r2 =>
      rw [List.zip_cons_cons]
      refine .cons ⟨r1, List.mem_cons_self⟩ ?_
      exact (vals_zip r2 (by simpa using h)).mono fun _ _ ⟨a, b⟩ => ⟨a, List.mem_cons_of_mem _ b⟩
theorem vals_back : ∀ {us : List Value} {bs : List (V × D)}, PySem.W.EachIs (fun u (b : V × D) => RelV b.1 u) us bs → Vals (bs.map Prod.fst) us
  | _, _, .nil => .nil
  | _, _, .cons h t => .cons h (vals_back t)
theorem cr_sortedD (hu : X.A.units + 65 < cLine) : CallR X (.builtin "sorted") (rSortedD X.K) := by
  intro pins s σ H vs us Q I r h
  obtain ⟨a, xs, ds, rfl, hs, hd, hal, hk, hsh, q⟩ := h
  obtain ⟨its, rv, hl, hz⟩ := I.list hs
  rw [Vals.ref1 r]
  have hlen := dpAll_len hd
  have hmap : (xs.zip ds).map Prod.snd = ds := List.map_snd_zip (by omega)
  have e0 := vals_zip rv hlen
  refine PySem.W.sorted_data (β := V × D) (bs := xs.zip ds) (enc := Prod.snd) (R := fun u b => RelV b.1 u) hl.isList (e0.mono fun _ _ z => z.1) (e0.mono fun u b z => Dp.reads I b.2 b.1 u (dpAll_zip hd b z.2) z.1) (by rw [hmap]; exact hal) (by rw [hmap]; exact hk) (by rw [List.length_zip]; omega) (fun b hb => ?_) fun out ho hE => ?_
  · have hb2 : b.2 ∈ ds := by rw [← hmap]; exact List.mem_map.mpr ⟨b, hb, rfl⟩
    have := List.all_eq_true.mp hsh b.2 hb2
    have := of_decide_eq_true this
    omega
  · obtain ⟨ep, he'⟩ := PyProof.Rows.sortedAll_at s.heap its out.toArray
    have hv := vals_back hE
    have hms : ((xs.zip ds).mergeSort (PySem.W.dataLe false Prod.snd)).map Prod.snd = ds.mergeSort (PySem.W.dataLe false id) := by
      have := List.map_mergeSort (r := PySem.W.dataLe false Prod.snd) (s := PySem.W.dataLe false id) (f := Prod.snd) (l := xs.zip ds) (fun a _ b _ => rfl)
      rw [hmap] at this
      exact this
    have hz2 : (((xs.zip ds).mergeSort (PySem.W.dataLe false Prod.snd)).map Prod.fst).length ≤ sizeLine := by
      rw [List.length_map, List.length_mergeSort, List.length_zip]
      omega
    exact ⟨.ref _, upd H (s.heap.objs.size + 1) (.lst (((xs.zip ds).mergeSort (PySem.W.dataLe false Prod.snd)).map Prod.fst)), I.laid (t' := s.toks) (fun _ _ => PyProof.Rows.sortedAll_old) (Nat.le_succ _) ⟨hz2, out, ep, hv, he'⟩, rfl, q _ _ (fun z hz => List.mem_mergeSort.mp hz) hms (I.hok.fresh (Nat.le_succ _))⟩
def gSorted : D → Option (List D)
  | .list ds => if alikeB ds && sortB ds && shallow ds then some (ds.mergeSort (PySem.W.dataLe false id)) else none
  | _ => none
theorem Da.zip {F : Hp} : ∀ {xs : List V} {ds : List D}, Da F xs ds → ∀ q ∈ xs.zip ds, Dt F q.1 q.2
  | [], [], _, q, hq => by simp at hq
  | [], _ :: _, h, _, _ => by cases h
  | _ :: _, [], h, _, _ => by cases h
  | _ :: _, _ :: _, h, q, hq => by
    cases h with
    | cons h1 t =>
      rw [List.zip_cons_cons] at hq
      rcases List.mem_cons.mp hq with rfl | hq
      · exact h1
      · exact Da.zip t q hq
theorem da_pairs {F : Hp} : ∀ {ps : List (V × D)}, (∀ q ∈ ps, Dt F q.1 q.2) → Da F (ps.map Prod.fst) (ps.map Prod.snd)
  | [], _ => .nil
  | p :: ps, h => .cons (h p List.mem_cons_self) (da_pairs fun q hq => h q (List.mem_cons_of_mem _ hq))
theorem gc_sorted {K : Frg} : GCN K (rSortedD K) gSorted := by
  intro G F env s H x d z k h1 h3 Q q
  unfold gSorted at h3
  split at h3
  · rename_i ds
    split at h3
    · rename_i hf
      cases h3
      simp only [Bool.and_eq_true] at hf
      obtain ⟨p, vs, rfl, h4, h5⟩ := h1.list k.fr
      refine ⟨p, vs, ds, rfl, h4, Da.dp _ _ (ndA_of fun d hd => nd_alike d (alikeB_ok hf.1.1 d hd d hd)) (Da.mono k.fr _ _ h5), alikeB_ok hf.1.1, sortB_ok hf.1.2, hf.2, fun ps l hps hms hl => ?_⟩
      have z := da_pairs fun q hq => Da.zip h5 q (hps q hq)
      rw [hms] at z
      exact q F _ l _ (k.laid hl) (Same.refl F) upd_same (k.fr.free hl) (k.dom l hl) (k.pin.free hl) (k.notown hl) z
    · cases h3
  · cases h3
theorem xn_sorted {f : Ef} {e : Expr} {p pos : Pos} (hu : X.A.units + 65 < cLine) (hm : X.mg "sorted" = none) (ha : XO X e f) (hg : Gl X "sorted" := by rfl) (he : starEach [e] X.env = (false, eval e X.env) :: starEach [] X.env := by rfl) (hpl : (backTo pos (starEach [] X.env)).any (·.1) = false := by rfl) : XN X (.Call (.Name "sorted" p) [e] [] pos) (lUn gSorted f) :=
  xn_cbB (cr_sortedD hu) (by decide +kernel) gc_sorted hm ha hg (by decide) (by decide) he hpl
/-! ### list of a text, of a range; tuple of a range -/
def lRg1 (f : Ef) : Lf := fun env => (f env).bind fun r => match r.1 with
  | .int n => if smallI n && fits n.toNat then some (irange 0 n.toNat, r.2) else none
  | _ => none
def eTupRg (f : Ef) : Ef := fun env => (lRg1 f env).map fun r => (.tuple r.1, r.2)
/-! ### xs + ys, xs * k as new lists -/
/-- xs a name: its list may be the def's own -/
def asList : Sl → Option (List D)
  | .own _ xs => some xs
  | .val (.list xs) => some xs
  | _ => none
def listD : D → Option (List D)
  | .list xs => some xs
  | _ => none
def lAddV (i : Nat) (fb : Ef) : Lf := fun env => (eO i env).bind fun _ => (fb env).bind fun q => (listD q.1).bind fun ys => ((q.2[i]?).bind asList).bind fun xs => if fits (xs.length + ys.length) then some (xs ++ ys, q.2) else none
/-- both are values -/
def lAddE (fa fb : Ef) : Lf := fun env => (fa env).bind fun r => (fb r.2).bind fun q => match r.1, q.1 with
  | .list xs, .list ys => if fits (xs.length + ys.length) then some (xs ++ ys, q.2) else none
  | _, _ => none
section
variable {env : En} {fa fb : Ef} {i : Nat}
theorem wl_addO {Q : List D → En → Prop} {b : Bool} {ds0 : List D} (h0 : env[i]? = some (.own b ds0)) (h : WE fb env fun y e' => IsL y fun ys => Own e'[i]? fun _ xs => Fit (xs.length + ys.length) (Q (xs ++ ys) e')) : WL (lAddV i fb) env Q := by
  obtain ⟨y, e', h1, h⟩ := h
  cases y with
  | list ys =>
    obtain ⟨b, xs, h2, h3, q⟩ := h
    exact ⟨_, e', by unfold lAddV; simp [eO, h0, h1, h2, h3, listD, asList], q⟩
  | _ => cases h
theorem wl_addE {Q : List D → En → Prop} (h : WE fa env fun x e => WE fb e fun y e' => IsL x fun xs => IsL y fun ys => Fit (xs.length + ys.length) (Q (xs ++ ys) e')) : WL (lAddE fa fb) env Q := by
  obtain ⟨x, e, h1, y, e', h2, h⟩ := h
  cases x with
  | list xs =>
    cases y with
    | list ys =>
      obtain ⟨h3, q⟩ := h
      exact ⟨_, e', by unfold lAddE; simp [h1, h2, h3], q⟩
    | _ => cases h
  | _ => cases h
theorem wl_rg1 {Q : List D → En → Prop} (h : WE fa env fun x e => IsI x fun n => Sml n (Fit n.toNat (Q (irange 0 n.toNat) e))) : WL (lRg1 fa) env Q := by
  obtain ⟨x, e, h1, h⟩ := h
  cases x with
  | int n =>
    obtain ⟨h2, h3, q⟩ := h
    exact ⟨_, e, by unfold lRg1; simp [h1, h2, h3], q⟩
  | _ => cases h
theorem we_tupRg {Q : D → En → Prop} (h : WL (lRg1 fa) env fun ds e => Q (.tuple ds) e) : WE (eTupRg fa) env Q := by
  obtain ⟨ds, e, h1, q⟩ := h
  exact ⟨_, e, by unfold eTupRg; rw [h1]; rfl, q⟩
end
end
end M

namespace M
open PySem PySem.Spec PyProof.Rows L2
/-! ### own lists looked at as values, for as long as an expression runs whose answer is flat -/
def unown : Sl → Sl
  | .own _ ds => .val (.list ds)
  | .dct _ _ => .no
  | x => x
theorem unown_own {b : Bool} {ds : List D} : unown (.own b ds) = .val (.list ds) := rfl
theorem unown_val {d : D} : unown (.val d) = .val d := rfl
theorem unown_no : unown .no = .no := rfl
theorem unown_ro {ds : List D} : unown (.ro ds) = .ro ds := rfl
theorem unown_dct {w : World} {kvs : List (D × D)} : unown (.dct w kvs) = .no := rfl
def unowns : En → En
  | [] => []
  | x :: xs => unown x :: unowns xs
theorem unowns_nil : unowns [] = [] := rfl
theorem unowns_cons {x : Sl} {xs : En} : unowns (x :: xs) = unown x :: unowns xs := rfl
theorem unowns_eq : ∀ env : En, unowns env = env.map unown
  | [] => rfl
  | x :: xs => by rw [unowns_cons, unowns_eq xs]; rfl
def eBor (f : Ef) : Ef := fun env => (f (unowns env)).bind fun r => if flatD r.1 then some (r.1, env) else none
def bBor (f : Bf) : Bf := fun env => (f (unowns env)).map fun r => (r.1, env)
open Classical in
noncomputable def Fb (F H : Hp) (env : En) (s : L2.St) : Hp := fun a => if (∃ (j : Nat) (l : Bool) (ds : List D), env[j]? = some (.own l ds) ∧ s[j]? = some (some (.ref a))) then H a else F a
theorem fb_own {F H : Hp} {env : En} {s : L2.St} {j : Nat} {l : Bool} {ds : List D} {a : Addr} (h1 : env[j]? = some (.own l ds)) (h2 : s[j]? = some (some (.ref a))) : Fb F H env s a = H a := by
  unfold Fb
  exact if_pos ⟨j, l, ds, h1, h2⟩
section
variable {K : Frg} {G : Gm} {F F' : Hp} {env env' : En} {s : L2.St} {H H' : Hp}
theorem fb_same (k : Ok K G F env s H) : Same F (Fb F H env s) := fun a o e => by
  unfold Fb
  split
  · exact k.fr a o e
  · exact e
theorem fb_fr (k : Ok K G F env s H) : Same (Fb F H env s) H := fun a o e => by
  unfold Fb at e
  split at e
  · exact e
  · exact k.fr a o e
open Classical in
noncomputable def Pb (P H : Hp) (env : En) (s : L2.St) : Hp := fun a => if (∃ (j : Nat) (w : World) (kvs : List (D × D)), env[j]? = some (.dct w kvs) ∧ s[j]? = some (some (.ref a))) then H a else P a
theorem pb_dct {P H : Hp} {env : En} {s : L2.St} {j : Nat} {w : World} {kvs : List (D × D)} {a : Addr} (h1 : env[j]? = some (.dct w kvs)) (h2 : s[j]? = some (some (.ref a))) : Pb P H env s a = H a := by
  unfold Pb
  exact if_pos ⟨j, w, kvs, h1, h2⟩
theorem pb_same (k : Ok K G F env s H) : Same G.P (Pb G.P H env s) := fun a o e => by
  unfold Pb
  split
  · exact k.pin a o e
  · exact e
theorem pb_fr (k : Ok K G F env s H) : Same (Pb G.P H env s) H := fun a o e => by
  unfold Pb at e
  split at e
  · exact e
  · exact k.pin a o e
noncomputable def Gb (G : Gm) (F H : Hp) (env : En) (s : L2.St) : Gm := { F0 := Fb F H env s, H0 := H, P := Pb G.P H env s, R := G.R, s0 := s }
theorem ok_bor (k : Ok K G F env s H) : Ok K (Gb G F H env s) (Fb F H env s) (env.map unown) s H := by
  have get : ∀ {j : Nat} {x : Sl}, (env.map unown)[j]? = some x → ∃ y, env[j]? = some y ∧ unown y = x := fun {j x} e => by
    rw [List.getElem?_map] at e
    exact Option.map_eq_some_iff.mp e
  refine ⟨by rw [List.length_map]; exact k.len, fb_fr k, fun i d e => ?_, fun i l ds e => ?_, fun i ds e => ?_, fun i j l ds m es e1 _ _ => ?_, pb_fr k, fun a e => e, Same.refl _, fun a o e => .inl e, k.rin.trans (pb_same k), ⟨fun i w kvs e => ?_, fun i j w kvs w' kvs' e1 e2 e3 => ?_⟩⟩
  · obtain ⟨y, h1, h2⟩ := get e
    cases y with
    | own l ds =>
      cases h2
      obtain ⟨a, vs, g1, g2, g3, g4, g5, _⟩ := k.own i l ds h1
      exact ⟨_, g1, .lst ((fb_own h1 g1).trans g2) (Da.mono (fb_same k) _ _ g5)⟩
    | val d' =>
      cases h2
      obtain ⟨v, g1, g2⟩ := k.val i _ h1
      exact ⟨v, g1, Dt.mono (fb_same k) _ _ g2⟩
    | no => cases h2
    | ro _ => cases h2
    | dct _ _ => cases h2
  · obtain ⟨y, h1, h2⟩ := get e
    cases y <;> cases h2
  · obtain ⟨y, h1, h2⟩ := get e
    cases y with
    | ro es =>
      cases h2
      obtain ⟨a, vs, g1, g2, g3⟩ := k.ro i _ h1
      exact ⟨a, vs, g1, g2, Da.mono (fb_same k) _ _ g3⟩
    | _ => cases h2
  · obtain ⟨y, h1, h2⟩ := get e1
    cases y <;> cases h2
  · obtain ⟨y, h1, h2⟩ := get e
    cases y <;> cases h2
  · obtain ⟨y, h1, h2⟩ := get e1
    cases y <;> cases h2
theorem ok_unbor (k : Ok K G F env s H) (k' : Ok K (Gb G F H env s) F' env' s H') (e : Same (Fb F H env s) F') : Ok K G F env s H' := by
  refine ⟨k.len, (fb_same k).trans (e.trans k'.fr), k.val, fun i l ds h => ?_, k.ro, k.sep, (pb_same k).trans k'.pin, fun a h => k.dom a (k'.dom a h), k.grow, k.new, k.rin, k.dct.move (fun _ _ e => e) (fun _ _ _ e => ⟨e, rfl⟩) fun a es g1 g2 g3 g4 hx => ?_⟩
  · obtain ⟨a, vs, g1, g2, g3⟩ := k.own i l ds h
    exact ⟨a, vs, g1, k'.fr _ _ (e _ _ ((fb_own h g1).trans g2)), g3⟩
  · obtain ⟨j, w, kvs, h1, h2⟩ := hx
    exact ⟨k'.pin _ _ ((pb_dct h1 h2).trans g1), g2, g3, g4⟩
theorem dt_flat {v : V} {d : D} (h : Dt F' v d) (f : flatD d = true) : Dt F v d := by
  cases h with
  | non => exact .non
  | bl b => exact .bl b
  | int i => exact .int i
  | str x => exact .str x
  | lst _ _ => cases f
  | tup _ _ => cases f
  | xc _ => cases f
  | xf _ _ => cases f
end
theorem re_bor {K : Frg} {t : TE} {f : Ef} (h : RE K t f) : RE K t (eBor f) := fun G F env s H d env' k e Q q => by
  unfold eBor at e
  rw [unowns_eq] at e
  obtain ⟨⟨d1, e1⟩, h1, e⟩ := Option.bind_eq_some_iff.mp e
  split at e
  · rename_i hf
    cases e
    exact h _ _ _ s H d1 e1 (ok_bor k) h1 Q fun F' H' v k' s' p => q F H' v (ok_unbor k k' s') (Same.refl F) (dt_flat p hf)
  · cases e
theorem rb_bor {K : Frg} {t : TT} {f : Bf} (h : RB K t f) : RB K t (bBor f) := fun G F env s H b env' k e Q q => by
  unfold bBor at e
  rw [unowns_eq] at e
  obtain ⟨⟨d1, e1⟩, h1, e⟩ := Option.map_eq_some_iff.mp e
  cases e
  exact h _ _ _ s H d1 e1 (ok_bor k) h1 Q fun F' H' k' s' => q F H' (ok_unbor k k' s') (Same.refl F)
section
variable {X : Cx} {e : Expr} {f : Ef} {c : Bf} {env : En}
theorem xb_bor (h : XB X e c) : XB X e (bBor c) := let ⟨_, h1, h2⟩ := h.ex; ⟨_, h1, rb_bor h2⟩
theorem we_bor {Q : D → En → Prop} (h : Nrm (unowns env) fun e => WE f e fun d _ => flatD d = true ∧ Q d env) : WE (eBor f) env Q := by
  obtain ⟨d, e, h1, h2, q⟩ := h
  exact ⟨d, env, by unfold eBor; rw [h1]; simp [h2], q⟩
theorem wb_bor {Q : Bool → En → Prop} (h : Nrm (unowns env) fun e => WB c e fun b _ => Q b env) : WB (bBor c) env Q := by
  obtain ⟨b, e, h1, q⟩ := h
  exact ⟨b, env, by unfold bBor; rw [h1]; rfl, q⟩
end
/-! ### is, of truths -/
def gIsB : D → D → Option D
  | .bool a, .bool b => some (.bool (decide (a = b)))
  | _, _ => none
def gNtB : D → D → Option D
  | .bool a, .bool b => some (.bool (!decide (a = b)))
  | _, _ => none
theorem gq_ntB {K : Frg} : GQ K rNotB gNtB := by
  intro G F env s H x y d e z k h1 h2 h3 Q q
  unfold gNtB at h3
  split at h3
  · cases h3
    cases h1.bl
    cases h2.bl
    exact ⟨_, _, rfl, rfl, q F H _ k (Same.refl F) (.bl _)⟩
  · cases h3
theorem wo_isB {a b : Bool} {Q : D → Prop} (q : Q (.bool (decide (a = b)))) : WO (gIsB (.bool a) (.bool b)) Q := ⟨_, rfl, q⟩
theorem wo_ntB {a b : Bool} {Q : D → Prop} (q : Q (.bool (!decide (a = b)))) : WO (gNtB (.bool a) (.bool b)) Q := ⟨_, rfl, q⟩
end M

namespace M
open PySem PySem.Spec PyProof.Rows L2
section
variable {X : Cx}
/-- l.remove(x), x in l -/
def rRemoveD (K : Frg) : V → List V → Hp → VK → Prop := fun x vs H Q => ∃ (l : Addr) (xs : List V) (y : V) (ds : List D) (d : D) (j : Nat), x = .ref l ∧ vs = [y] ∧ H l = some (.lst xs) ∧ DpAll K H xs ds ∧ Dp K H y d ∧
  SeqAt.shaped (.list ds) = true ∧ SeqAt.shaped d = true ∧ SeqAt.dataPlace ds d = some j ∧ Q .non (upd H l (.lst (xs.eraseIdx j)))
theorem mt_removeD (hu : X.A.units + 65 < cLine) : MtR X "list.remove" (rRemoveD X.K) := by
  intro pins s σ H x vs v us Q I rx rv h
  obtain ⟨l, xs, y, ds, d, j, rfl, rfl, hH, hd, hy, sl, sd, hp, q⟩ := h
  cases rx
  obtain ⟨u, rfl, ru⟩ := rv.one
  obtain ⟨z, its, n, r, hl, e⟩ := I.lstM hH
  obtain ⟨as, r1⟩ := Dp.reads I d y u hy ru
  obtain ⟨bs, r2⟩ := Dp.readsAll I ds xs its hd r
  refine SeqAt.remove_list_data (vs := its.toArray) ⟨_, e, rfl, n, rfl⟩ r2 r1 (PyData.plainAll_of_canLay0 _ (by have := SeqAt.canLay_of_shaped sl; exact this)) (PyData.plain_of_canLay0 _ (SeqAt.canLay_of_shaped sd)) (room_in_shaped sd hu) hp (by rw [List.size_toArray]; omega) ?_
  refine ⟨.non, _, I.lset (its' := its.eraseIdx j) hH e ?_ (r.eraseIdx j) ?_, rfl, q⟩
  · rw [List.eraseIdxIfInBounds_toArray]
  · have := len_erase xs j
    omega
end
def mRemove : List D → D → Option (List D × D) := fun ds d => if shp d && shp (.list ds) then (SeqAt.dataPlace ds d).map fun j => (ds.eraseIdx j, .none) else none
theorem gm_remove {K : Frg} : GM (rRemoveD K) mRemove := fun F a vs ds y d es z H fr h p py e Q q => by
  unfold mRemove at e
  split at e
  · rename_i hf
    rw [Bool.and_eq_true] at hf
    obtain ⟨j, h1, e⟩ := Option.map_eq_some_iff.mp e
    cases e
    exact ⟨a, vs, y, ds, d, j, rfl, rfl, h, Da.dp _ _ (ndA_sh hf.2) (Da.mono fr _ _ p), Dt.dp _ _ (nd_sh hf.1) (Dt.mono fr _ _ py), hf.2, hf.1, h1, q _ _ (p.erase j) .non⟩
  · cases e
theorem wo_remove {ds : List D} {d : D} {j : Nat} {Q : List D × D → Prop} (h1 : shp d = true) (h2 : shp (.list ds) = true) (h3 : SeqAt.dataPlace ds d = some j) (q : Q (ds.eraseIdx j, .none)) : WO (mRemove ds d) Q := by
  refine ⟨_, ?_, q⟩
  unfold mRemove
  rw [h1, h2, h3]
  rfl
/-! ### a new list made while own lists are looked at -/
mutual
def lfree : D → Bool
  | .none => true
  | .bool _ => true
  | .int _ => true
  | .str _ => true
  | .tuple ds => lfreeA ds
  | _ => false
def lfreeA : List D → Bool
  | [] => true
  | d :: ds => lfree d && lfreeA ds
end
def lBor (f : Lf) : Lf := fun env => (f (unowns env)).bind fun r => if lfreeA r.1 then some (r.1, env) else none
def OwnAt (env : En) (s : L2.St) (a : Addr) : Prop := ∃ (j : Nat) (l : Bool) (ds : List D), env[j]? = some (.own l ds) ∧ s[j]? = some (some (.ref a))
open Classical in
noncomputable def Fc (F' : Hp) (env : En) (s : L2.St) : Hp := fun a => if OwnAt env s a then none else F' a
theorem fc_own {F' : Hp} {env : En} {s : L2.St} {a : Addr} (h : OwnAt env s a) : Fc F' env s a = none := by
  unfold Fc
  exact if_pos h
theorem fc_not {F' : Hp} {env : En} {s : L2.St} {a : Addr} (h : ¬ OwnAt env s a) : Fc F' env s a = F' a := by
  unfold Fc
  exact if_neg h
theorem fc_sub {F' : Hp} {env : En} {s : L2.St} : Same (Fc F' env s) F' := fun a o e => by
  by_cases h : OwnAt env s a
  · rw [fc_own h] at e; cases e
  · rw [fc_not h] at e; exact e
mutual
theorem dt_lfree {F' : Hp} {env : En} {s : L2.St} (ho : ∀ a, OwnAt env s a → ∃ vs, F' a = some (.lst vs)) : ∀ (d : D) (v : V), Dt F' v d → lfree d = true → Dt (Fc F' env s) v d
  | .none, _, h, _ => by cases h; exact .non
  | .bool _, _, h, _ => by cases h; exact .bl _
  | .int _, _, h, _ => by cases h; exact .int _
  | .str _, _, h, _ => by cases h; exact .str _
  | .tuple ds, _, h, f => by
    cases h with
    | tup s1 a1 =>
      rename_i a xs
      have hn : ¬ OwnAt env s a := fun h => by
        obtain ⟨vs, e⟩ := ho a h
        rw [s1] at e
        cases e
      exact .tup (by rw [fc_not hn]; exact s1) (da_lfree ho ds _ a1 (by unfold lfree at f; exact f))
  | .list _, _, _, f => by unfold lfree at f; cases f
  | .dict _, _, _, f => by unfold lfree at f; cases f
theorem da_lfree {F' : Hp} {env : En} {s : L2.St} (ho : ∀ a, OwnAt env s a → ∃ vs, F' a = some (.lst vs)) : ∀ (ds : List D) (vs : List V), Da F' vs ds → lfreeA ds = true → Da (Fc F' env s) vs ds
  | [], _, h, _ => by cases h; exact .nil
  | d :: ds, _, h, f => by
    cases h with
    | cons h1 h2 =>
      unfold lfreeA at f
      rw [Bool.and_eq_true] at f
      exact .cons (dt_lfree ho d _ h1 f.1) (da_lfree ho ds _ h2 f.2)
end
theorem rn_bor {K : Frg} {t : TE} {f : Lf} (h : RN K t f) : RN K t (lBor f) := fun G F env s H ds env' k e Q q => by
  unfold lBor at e
  rw [unowns_eq] at e
  obtain ⟨⟨d1, e1⟩, h1, e⟩ := Option.bind_eq_some_iff.mp e
  split at e
  · rename_i hf
    cases e
    refine h _ _ _ s H d1 e1 (ok_bor k) h1 Q fun F' H' p vs k' s' g1 g2 g3 g4 g5 g6 => ?_
    have ho : ∀ a, OwnAt env s a → ∃ vs, F' a = some (.lst vs) := fun a ⟨j, l, es, h2, h3⟩ => by
      obtain ⟨b, us, j1, j2, _⟩ := k.own j l es h2
      rw [h3] at j1
      cases j1
      exact ⟨us, s' _ _ ((fb_own h2 h3).trans j2)⟩
    have hF : Same F (Fc F' env s) := fun a o e => by
      have hn : ¬ OwnAt env s a := fun ⟨j, l, es, h2, h3⟩ => by
        obtain ⟨b, us, j1, j2, j3, _⟩ := k.own j l es h2
        rw [h3] at j1
        cases j1
        rw [j3] at e
        cases e
      rw [fc_not hn]
      exact s' _ _ (fb_same k _ _ e)
    refine q (Fc F' env s) H' p vs ?_ hF g1 ?_ (k.dom p g3) ((pb_same k).free g4) (fun j l es h2 h3 => ?_) (da_lfree ho _ _ g6 hf)
    · refine ⟨k.len, fc_sub.trans k'.fr, fun i d h2 => ?_, fun i l es h2 => ?_, fun i es h2 => ?_, k.sep, (pb_same k).trans k'.pin, fun a h2 => k.dom a (k'.dom a h2), k.grow.trans hF, fun a o h2 => ?_, k.rin, k.dct.move hF (fun _ _ _ e => ⟨e, rfl⟩) fun a es j1 j2 j3 j4 hx => ?_⟩
      · obtain ⟨v, j1, j2⟩ := k.val i d h2
        exact ⟨v, j1, Dt.mono hF _ _ j2⟩
      · obtain ⟨a, us, j1, j2, j3, j4, j5, j6⟩ := k.own i l es h2
        exact ⟨a, us, j1, k'.fr _ _ (s' _ _ ((fb_own h2 j1).trans j2)), fc_own ⟨i, l, es, h2, j1⟩, j4, Da.mono hF _ _ j5, j6⟩
      · obtain ⟨a, us, j1, j2, j3⟩ := k.ro i es h2
        exact ⟨a, us, j1, j2, Da.mono hF _ _ j3⟩
      · by_cases hn : OwnAt env s a
        · rw [fc_own hn] at h2; cases h2
        · rw [fc_not hn] at h2
          rcases k'.new a o h2 with j1 | j1
          · have j2 : Fb F H env s a = F a := if_neg hn
            have j1 : Fb F H env s a = some o := j1
            rw [j2] at j1
            exact k.new a o j1
          · exact .inr (k.dom a j1)
      · obtain ⟨j, w, kvs, h1, h2⟩ := hx
        refine ⟨k'.pin _ _ ((pb_dct h1 h2).trans j1), ?_, j3, j4⟩
        have hn : ¬ OwnAt env s a := fun ⟨j, l, es, h2, h3⟩ => by
          obtain ⟨b, us, i1, i2, _⟩ := k.own j l es h2
          rw [h3] at i1
          cases i1
          rw [i2] at j1; cases j1
        rw [fc_not hn]
        cases hx : F' a with
        | none => rfl
        | some o =>
          rcases k'.new a o hx with z | z
          · have j5 : Fb F H env s a = F a := if_neg hn
            have z : Fb F H env s a = some o := z
            rw [j5, j2] at z; cases z
          · have z : H a = none := z
            rw [j1] at z; cases z
    · by_cases hn : OwnAt env s p
      · exact fc_own hn
      · rw [fc_not hn]; exact g2
    · obtain ⟨a, us, j1, j2, _⟩ := k.own j l es h2
      rw [h3] at j1
      cases j1
      have g3 : H p = none := g3
      rw [j2] at g3
      cases g3
  · cases e
theorem wl_bor {f : Lf} {env : En} {Q : List D → En → Prop} (h : Nrm (unowns env) fun e => WL f e fun ds _ => lfreeA ds = true ∧ Q ds env) : WL (lBor f) env Q := by
  obtain ⟨ds, e, h1, h2, q⟩ := h
  exact ⟨ds, env, by unfold lBor; rw [h1]; simp [h2], q⟩
theorem xs_setCompB {X : Cx} {tg iter elt : Expr} {ifs : List Expr} {scope : Scope} {pos spos : Pos} {src : Lf} {own : List (Str × Nat)} {sl : List Nat} {g : Tf} {c : Bf} {f : Ef} (i : Nat) {y : Str} {py : Pos} (hi : XI X tg iter src) (hN : X.N.Nodup) (ok : BlkOk X.N X.env.scope scope own) (hg : ∀ s H C cl fp, XG (Blk X scope s H C cl fp) tg g sl) (ht : ∀ s H C cl fp, XTs (Blk X scope s H C cl fp) ifs c) (he : ∀ s H C cl fp, XE (Blk X scope s H C cl fp) elt f)
    (hsw : swapsWith (.ListComp elt [⟨tg, iter, ifs, 0⟩] scope pos) (some (.Name y py)) spos.line X.env = pure true) (hy : X.N[i]? = some y := by rfl) (hyl : X.env.scope.names.lookup y = some .local := by rfl)
    (hsl : ∀ i ∈ sl, i ∈ own.map (·.2) := by decide) (hc : X.calm = true := by rfl) (hs : ∀ x, foldedSetIterable iter X.env x = pure x := by intro _; rfl) :
    XS X (.Assign [.Name y py] (.ListComp elt [⟨tg, iter, ifs, 0⟩] scope pos) spos) (sSet i (eFz (lBor (lComp src (own.map (·.2)) g c f)))) := by
  obtain ⟨wi, p1, q1⟩ := hi.ex
  exact ⟨_, ps_setLc hc hN hy hyl hsw p1 ok (fun s H C cl fp => (hg s H C cl fp).can) (fun s H C cl fp => (ht s H C cl fp).can) (fun s H C cl fp => (he s H C cl fp).can) hs, rs_set i (rn_bor (rn_comp q1 rg_can rb_can re_can hsl)).re⟩
end M

namespace M
open PySem PySem.Spec PyProof.Rows L2
/-! ### zip of a list and a tuple -/
def ItzM (K : Frg) (a b : Addr) : It :=
  ⟨fun i H => ∃ (xs ys : List V) (x y : V), SqL K H a xs ∧ SqT K H b ys ∧ xs[i]? = some x ∧ ys[i]? = some y,
    fun i H v H' => ∃ T x y, v = .ref T ∧ H T = none ∧ H' = upd H T (.tup [x, y]) ∧ (∀ xs, SqL K H a xs → xs[i]? = some x) ∧ ∀ ys, SqT K H b ys → ys[i]? = some y,
    fun i H => ∃ xs ys : List V, SqL K H a xs ∧ SqT K H b ys ∧ (xs.length = i ∨ ys.length = i) ∧ i ≤ xs.length ∧ i ≤ ys.length⟩
theorem sep_of {z TI TO i1 i2 a b : Addr} (D : ZipApart z TI TO i1 i2 a b) : ZipSep2 z TI TO i1 i2 [i1, a] [i2, b] where
  TIz := D.TIz
  TOz := D.TOz
  TITO := D.TITO
  TIi1 := D.TIi1
  mem1 := by simp
  zf1 := by simp [D.i1z.symm, D.l1z.symm]
  Tf1 := by simp [D.TOi1, D.l1TO.symm]
  TIi2 := D.TIi2
  mem2 := by simp
  zf2 := by simp [D.i2z.symm, D.l2z.symm]
  Tf2 := by simp [D.TOi2, D.l2TO.symm]
  sep1_2 := by simp [D.i12, D.l2i1.symm]
  sep2_1 := by simp [D.i12.symm, D.l1i2.symm]
theorem turn_zipM {P : Program} {w : World} {K : Frg} {elts : List Expr} {kk : Nat} {tpos : Pos} {a b z TI TO i1 i2 : Addr} (D : ZipApart z TI TO i1 i2 a b) :
    Turn P w K (.Tuple elts kk tpos) (ItzM K a b) [z, TI, TO, i1, i2] z (fun i h => IsZip h z TI TO .none ∧ IsTupOf2 h TI (.ref i1) (.ref i2) ∧ (∃ x y, IsTupOf2 h TO x y) ∧ h.IsListIter i1 a i ∧ h.IsTupleIter i2 b i) where
  mem := by simp
  obj := fun i h st c hc => by
    obtain ⟨hz, hTI, ⟨x, y, hTO⟩, ⟨o1, e1, _, d1⟩, ⟨o2, e2, _, d2⟩⟩ := st
    have e' : c = z ∨ c = TI ∨ c = TO ∨ c = i1 ∨ c = i2 := by simpa using hc
    rcases e' with q | q | q | q | q
    · rw [q]; exact ⟨_, hz, fun v q => nomatch q⟩
    · rw [q]; exact ⟨_, hTI, fun v q => nomatch q⟩
    · rw [q]; exact ⟨_, hTO, fun v q => nomatch q⟩
    · rw [q]; exact ⟨o1, e1, fun v q => by rw [d1] at q; cases q⟩
    · rw [q]; exact ⟨o2, e2, fun v q => by rw [d2] at q; cases q⟩
  keep := fun i h h' st k => by
    obtain ⟨hz, hTI, ⟨x, y, hTO⟩, h1, h2⟩ := st
    exact ⟨k z (by simp) _ hz, k TI (by simp) _ hTI, ⟨x, y, k TO (by simp) _ hTO⟩, h1.at fun o q => k i1 (by simp) o q, h2.at fun o q => k i2 (by simp) o q⟩
  item := by
    intro X hP hw hK hc i pins s σ H E I hf st hg
    subst hP hw hK
    obtain ⟨hz, hTI, ⟨x0, y0, hTO⟩, h1, h2⟩ := st
    obtain ⟨xs, ys, x, y, hqx, hqy, hx, hy⟩ := hg
    obtain ⟨its, rv, p, _⟩ := I.list hqx
    obtain ⟨its2, rv2, p2, _⟩ := I.tuple hqy
    obtain ⟨u, hu, ru⟩ := rv.get hx
    obtain ⟨u2, hu2, ru2⟩ := rv2.get hy
    have hzl : z < s.heap.objs.size := Heap.lt_size hz
    have hh : X.A.in1.handled = none := I.ok.hd hc
    refine wpAny_pyNext_zipD2_item (sep_of D) (Draws.list hh i1 a D.l1i1 its.toArray) (Draws.tuple hh i2 b D.l2i2 its2.toArray) hz hTI hTO ⟨h1, p.isList⟩ ⟨h2, p2⟩
      (by rw [List.size_toArray]; exact (List.getElem?_eq_some_iff.mp hu).1) (by rw [List.size_toArray]; exact (List.getElem?_eq_some_iff.mp hu2).1) fun v1 v2 h' tk e1 e2 z' TO' st1 st2 hT hsz hk => ?_
    have e1 : its[i]? = some v1 := by simpa using e1
    have e2 : its2[i]? = some v2 := by simpa using e2
    rw [hu] at e1
    rw [hu2] at e2
    cases e1
    cases e2
    refine ⟨_, rfl, wpAny_letOwnedTupleGo_zip (s := { s with heap := h', toks := tk }) z' fun h'' z'' sb => ?_⟩
    have hT2 : h''.get? s.heap.objs.size = some { cls := .type "tuple", data := .seq #[u, u2] } := (sb.2 _ (Nat.ne_of_gt hzl)).trans hT
    have new : ObjOk X.prog X.w (upd H s.heap.objs.size (.tup [x, y])) h'' s.heap.objs.size (.tup [x, y]) :=
      ⟨by show 2 ≤ sizeLine; decide, [u, u2], .cons ru (.cons ru2 .nil), ⟨_, hT2, rfl, _, rfl⟩⟩
    have I1 : Inv X pins σ (upd H s.heap.objs.size (.tup [x, y])) { s with heap := h'', toks := tk } :=
      I.turnedNew (t' := tk) (ch := [z, TI, TO, i1, i2]) (fun c o hb q => (sb.2 c (fun q' => hb (by simp [q']))).trans (hk c o (fun q' => hb (by simp [q'])) (fun q' => hb (by simp [q'])) (fun q' => hb (by simp [q'])) (fun q' => hb (by simp [q'])) q)) hf (Nat.le_refl _) new
    refine ⟨.ref s.heap.objs.size, _, I1, rfl, ⟨_, x, y, rfl, I.hok.fresh (Nat.le_refl _), rfl, fun l hl => by rw [I.list_inj hl hqx]; exact hx, fun l hl => by rw [I.tuple_inj hl hqy]; exact hy⟩, ⟨z'', ?_, ⟨u, u2, ?_⟩, ?_, ?_⟩, fun c hcm => ?_⟩
    · exact (sb.2 _ D.TIz).trans (hk _ _ D.TIz D.TITO D.TIi1 D.TIi2 hTI)
    · exact (sb.2 _ D.TOz).trans TO'
    · exact st1.1.at fun o q => (sb.2 _ D.i1z).trans q
    · exact st2.1.at fun o q => (sb.2 _ D.i2z).trans q
    · have hlt : c < s.heap.objs.size := by
        have e' : c = z ∨ c = TI ∨ c = TO ∨ c = i1 ∨ c = i2 := by simpa using hcm
        rcases e' with q | q | q | q | q
        · rw [q]; exact hzl
        · rw [q]; exact Heap.lt_size hTI
        · rw [q]; exact Heap.lt_size hTO
        · rw [q]; obtain ⟨_, e1, _⟩ := h1; exact Heap.lt_size e1
        · rw [q]; obtain ⟨_, e2, _⟩ := h2; exact Heap.lt_size e2
      rw [upd_ne (Nat.ne_of_lt hlt)]
      exact (hf c hcm).1
  done := by
    intro X hP hw hK hc i pins s σ H E I hf st hg
    subst hP hw hK
    obtain ⟨hz, hTI, ⟨x0, y0, hTO⟩, h1, h2⟩ := st
    obtain ⟨xs, ys, hqx, hqy, hend, hi1, hi2⟩ := hg
    obtain ⟨its, rv, p, _⟩ := I.list hqx
    obtain ⟨its2, rv2, p2, _⟩ := I.tuple hqy
    have l1 := rv.length
    have l2 := rv2.length
    have hh : X.A.in1.handled = none := I.ok.hd hc
    exact wpAny_pyNext_zipD2_end (sep_of D) (Draws.list hh i1 a D.l1i1 its.toArray) (Draws.tuple hh i2 b D.l2i2 its2.toArray) hz hTI hTO ⟨h1, p.isList⟩ ⟨h2, p2⟩
      (by rw [List.size_toArray]; omega) (by rw [List.size_toArray]; omega) (by rw [List.size_toArray, List.size_toArray]; omega) fun h' tk hk => ⟨rfl, I.turnedL (t' := tk) (ch := [z, TI, TO, i1, i2]) (fun c o hb q =>
      hk c o (fun q' => hb (by simp [q'])) (fun q' => hb (by simp [q'])) (fun q' => hb (by simp [q'])) (fun q' => hb (by simp [q'])) q) hf⟩
  self := fun A i s Q E st h => wpAny_pyIter_zip st.1 h
def iZipM (K : Frg) (ta : TA) : TI := fun σ H R => ta σ H fun vs H1 => ∃ a b xs ys, vs = [.ref a, .ref b] ∧ SqL K H1 a xs ∧ SqT K H1 b ys ∧ R (ItzM K a b) H1
theorem pi_zipM {X : Cx} {e e2 : Expr} {ta : TA} {p pos tpos : Pos} {elts : List Expr} {kk : Nat} (hg : Gl X "zip") (hm : X.mg "zip" = none) (ha : PA X [e, e2] ta)
    (hs : starEach [e, e2] X.env = (false, eval e X.env) :: starEach [e2] X.env := by rfl) (hpl : (backTo pos (starEach [e2] X.env)).any (·.1) = false := by rfl) :
    PI X (.Tuple elts kk tpos) (.Call (.Name "zip" p) [e, e2] [] pos) (iZipM X.K ta) := by
  refine ⟨fun pins s σ H R I h => ?_⟩
  refine Call_ (ld_blt I hg hm PyProof.Rows.boot_zip (PyProof.Rows.callWith_type1 (thn (ha.run pos pins s σ H _ I h) fun us s1 ⟨vs, H1, I1, r1, q1⟩ => ?_) hs hpl))
  obtain ⟨a, b, xs, ys, ex, hqx, hqy, q⟩ := q1
  subst ex
  cases r1 with
  | cons r rr =>
    cases rr with
    | cons r' rr =>
      cases rr
      cases r
      cases r'
      have fresh5 : ∀ c, c ∈ [s1.heap.objs.size + 4, s1.heap.objs.size + 2, s1.heap.objs.size + 3, s1.heap.objs.size, s1.heap.objs.size + 1] → FpOk X pins H1 c := fun c hcm => by
        have hle : s1.heap.objs.size ≤ c := by
          simp only [List.mem_cons, List.not_mem_nil, or_false] at hcm
          rcases hcm with z | z | z | z | z <;> rw [z]
          · exact Nat.le_add_right _ _
          · exact Nat.le_add_right _ _
          · exact Nat.le_add_right _ _
          · exact Nat.le_refl _
          · exact Nat.le_add_right _ _
        exact I1.fpOk hle (I1.hok.fresh hle)
      obtain ⟨its, rv, p1, _⟩ := I1.list hqx
      obtain ⟨its2, rv2, p2, _⟩ := I1.tuple hqy
      obtain ⟨o2, ho2, _⟩ := id p2
      refine zip_begins2 (begins_list a its.toArray) (begins_tuple b its2.toArray) p1.isList p2 fun h' hz hTI hTO h1 h2 hsz hk => wpAny_pyIter_zip hz ?_
      have I2 : Inv X pins σ H1 { s1 with heap := h' } := I1.kept (t' := s1.toks) hk
      exact ⟨s1.heap.objs.size + 4, [s1.heap.objs.size + 4, s1.heap.objs.size + 2, s1.heap.objs.size + 3, s1.heap.objs.size, s1.heap.objs.size + 1], _, _, H1, rfl, I2, turn_zipM (PySem.W.ktu_apart s1.heap.objs.size a b p1.lt (Heap.lt_size ho2)), ⟨hz, hTI, ⟨_, _, hTO⟩, ⟨_, h1, rfl, rfl⟩, ⟨_, h2, rfl, rfl⟩⟩, fresh5, q⟩
theorem walk_zipM {K : Frg} {a b : Addr} {xs ys : List V} {n : Nat} (hn : n = min xs.length ys.length) : Walk (ItzM K a b) n (fun H => SqL K H a xs ∧ SqT K H b ys) (YPair (fun i => xs[i]?) (fun i => ys[i]?)) := by
  subst hn
  refine ⟨fun i _ hi q => ?_, fun _ q => ⟨xs, ys, q.1, q.2, by omega, by omega, by omega⟩, fun i H v H' _ q y => ?_⟩
  · have h1 : i < xs.length := by omega
    have h2 : i < ys.length := by omega
    exact ⟨xs, ys, xs[i], ys[i], q.1, q.2, by simp [h1], by simp [h2]⟩
  · obtain ⟨T, x, z, h1, h2, h3, h4, h5⟩ := y
    exact ⟨T, x, z, h1, h2, h3, h4 xs q.1, h5 ys q.2⟩
def lZipM (f g : Ef) : Lf := fun env => (f env).bind fun r => (g r.2).bind fun q => match r.1, q.1 with
  | .list ds, .tuple es => some (pairs ds es, q.2)
  | _, _ => none
theorem xi_zipM {X : Cx} {a b : Expr} {fa fb : Ef} {pos p tpos : Pos} {elts : List Expr} {kk : Nat} (ha : XE X a fa) (hb : XE X b fb) (hm : X.mg "zip" = none) (hg : Gl X "zip" := by rfl) (hs : starEach [a, b] X.env = (false, eval a X.env) :: starEach [b] X.env := by rfl) (hs2 : starEach [b] X.env = (false, eval b X.env) :: starEach [] X.env := by rfl)
    (hpl : (backTo pos (starEach [b] X.env)).any (·.1) = false := by rfl) : XI X (.Tuple elts kk tpos) (.Call (.Name "zip" p) [a, b] [] pos) (lZipM fa fb) := by
  obtain ⟨t, h1, h2⟩ := ha.ex
  obtain ⟨u, h3, h4⟩ := hb.ex
  refine ⟨_, pi_zipM hg hm (pa_cons h1 (pa_cons h3 pa_nil hs2) hs) hs hpl, fun G F env s H ds env' k e R q => ?_⟩
  unfold lZipM at e
  obtain ⟨⟨d, e1⟩, h5, e⟩ := Option.bind_eq_some_iff.mp e
  obtain ⟨⟨d2, e2⟩, h6, e⟩ := Option.bind_eq_some_iff.mp e
  refine h2 G F env s H d e1 k h5 _ fun F1 H1 v k1 s1 p1 => ?_
  refine h4 G F1 e1 s H1 d2 e2 k1 h6 _ fun F2 H2 v2 k2 s2 p2 => ?_
  have p3 := Dt.mono s2 _ _ p1
  cases p3 with
  | lst a1 b1 =>
    cases p2 with
    | tup a2 b2 =>
      cases e
      exact ⟨_, _, _, _, rfl, SqL.of (k2.fr _ _ a1), SqT.of (k2.fr _ _ a2), q F2 H2 _ k2 (s1.trans s2) (wk_pair (walk_zipM rfl) (by rw [b1.length, b2.length]) (fun G F env s H _ k e => ⟨SqL.of (k.fr _ _ (e _ _ a1)), SqT.of (k.fr _ _ (e _ _ a2))⟩) (fun i v _ hv => b1.get' hv) fun i v _ hv => b2.get' hv)⟩
    | _ => cases e
  | _ => cases e
theorem wl_zipM {f f' : Ef} {env : En} {Q : List D → En → Prop} (h : WE f env fun x e => WE f' e fun y e' => ∃ ds es, x = .list ds ∧ y = .tuple es ∧ Q (pairs ds es) e') : WL (lZipM f f') env Q := by
  obtain ⟨x, e, h1, y, e', h2, ds, es, rfl, rfl, q⟩ := h
  exact ⟨_, e', by unfold lZipM; simp [h1, h2], q⟩
end M

namespace M
open PySem PySem.Spec PyProof.Rows L2
/-! ### enumerate of a tuple -/
def lEnumA (f : Ef) : Lf := fun env => (f env).bind fun r => match r.1 with
  | .list ds => some (pairs (irange 0 ds.length) ds, r.2)
  | .tuple ds => some (pairs (irange 0 ds.length) ds, r.2)
  | _ => none
theorem wl_enumA {f : Ef} {env : En} {Q : List D → En → Prop} (h : WE f env fun x e => IsS x fun ds => Q (pairs (irange 0 ds.length) ds) e) : WL (lEnumA f) env Q := by
  obtain ⟨x, e, h1, h⟩ := h
  cases x with
  | list ds => exact ⟨_, e, by unfold lEnumA; rw [h1]; rfl, h⟩
  | tuple ds => exact ⟨_, e, by unfold lEnumA; rw [h1]; rfl, h⟩
  | _ => cases h
end M

namespace M
open PySem PySem.Spec PyProof.Rows L2
/-! ### how many unlike items a list has: len(set(xs)) -/
def stepS (l : List Str) (v : Str) : List Str := if l.any (· == v) then l else l ++ [v]
def firstS (xs : List Str) (i : Nat) : List Str := (xs.take i).foldl stepS []
theorem firstS_succ {xs : List Str} {i : Nat} (h : i < xs.length) : firstS xs (i + 1) = stepS (firstS xs i) xs[i] := by
  unfold firstS
  rw [List.take_succ_eq_append_getElem h, List.foldl_append]
  rfl
theorem firstS_le (xs : List Str) : ∀ i, i ≤ xs.length → (firstS xs i).length ≤ i
  | 0, _ => by simp [firstS]
  | i + 1, h => by
    have ih := firstS_le xs i (by omega)
    rw [firstS_succ (by omega)]
    unfold stepS
    split
    · omega
    · rw [List.length_append, List.length_singleton]; omega
theorem stepS_any (l : List Str) (v k : Str) : (stepS l v).any (· == k) = (l.any (· == k) || decide (k = v)) := by
  unfold stepS
  by_cases h : l.any (· == v) = true
  · rw [if_pos h]
    by_cases e : k = v
    · subst e; simp [h]
    · simp [e]
  · rw [if_neg h, List.any_append]
    by_cases e : k = v
    · subst e; simp
    · have : (v == k) = false := beq_eq_false_iff_ne.mpr fun z => e z.symm
      simp [e, this]
theorem stepS_len (l : List Str) (v : Str) : (stepS l v).length = if l.any (· == v) then l.length else l.length + 1 := by
  unfold stepS
  split <;> simp
section
variable {prog : Program} {w : World} {A : Around} {R : Result → Shared → Prop} {I : Addr} {fp wr : List Addr} {G : Array GenState → Array GenState → Prop} {n : Nat} {P : Nat → Value → Prop} {St : Nat → Shared → Prop}
theorem set_texts (W : WalksS prog w A.in1 I fp wr G n P St) (S : Addr) (hSf : S ∉ fp) (xs : List Str) (hx : xs.length = n) (hn : n + 1 < scanBound)
    (hval : ∀ i v, P i v → ∃ t, v = .str (xs.getD i Str.empty) t) :
    ∀ (k i : Nat) (s : Shared), n - i = k → i ≤ n → St i s → s.heap.SetOf (PySem.strKind prog w) S (fun y => (firstS xs i).any (· == y)) (firstS xs i).length →
      (∀ s', Moved (S :: wr) G s s' → s'.heap.SetOf (PySem.strKind prog w) S (fun y => (firstS xs n).any (· == y)) (firstS xs n).length → R (.ok (.ret .none)) s') →
      codeAny (model prog w) A (.builtin "set.update.loop" ⟨[.ref S, .ref I], []⟩) R s := by
  have hSw : S ∉ wr := fun h => hSf (W.sub _ h)
  have hsub : ∀ b ∈ wr, b ∈ S :: wr := fun b hb => List.mem_cons_of_mem _ hb
  intro k
  induction k with
  | zero =>
    intro i s hk hi hst hS hR
    obtain rfl : i = n := by omega
    refine codeAny_builtin PyProof.Rows.F.entry_set_update_loop ?_
    rw [Around.under_plainId PyProof.Rows.F.plain_set_update_loop _]
    show wpAny _ A.in1 (pyNext (.ref I) >>= _) _ _ s
    refine wpAny_bind (W.done s _ _ hst fun s' hm => ?_)
    show wpAny _ A.in1 (ret Value.none) _ _ s'
    obtain ⟨o, es, ep, t, ho, rest⟩ := hS
    exact wpAny_pure (hR s' (hm.mono hsub) ⟨o, es, ep, t, hm.heap S _ hSw ho, rest⟩)
  | succ k ih =>
    intro i s hk hi hst hS hR
    have hlt : i < n := by omega
    refine codeAny_builtin PyProof.Rows.F.entry_set_update_loop ?_
    rw [Around.under_plainId PyProof.Rows.F.plain_set_update_loop _]
    show wpAny _ A.in1 (pyNext (.ref I) >>= _) _ _ s
    refine wpAny_bind (W.item i s _ _ hlt hst fun v s' hP hst' hm => ?_)
    obtain ⟨t, rfl⟩ := hval i v hP
    have hS1 : s'.heap.SetOf (PySem.strKind prog w) S (fun y => (firstS xs i).any (· == y)) (firstS xs i).length := by
      obtain ⟨o, es, ep, tb, ho, rest⟩ := hS
      exact ⟨o, es, ep, tb, hm.heap S _ hSw ho, rest⟩
    have hg : xs.getD i Str.empty = xs[i]'(by omega) := by rw [List.getD_eq_getElem?_getD, List.getElem?_eq_getElem (by omega)]; rfl
    show wpAny _ A.in1 (holding [Value.str (xs.getD i Str.empty) t] (setAdd S (.str (xs.getD i Str.empty) t)) >>= _) _ _ s'
    refine wpAny_bind (wpAny_holding ?_)
    unfold setAdd
    refine wpAny_holding (wpAny_bind ((PySem.strKind prog w).pyHash (k := xs.getD i Str.empty) (strKind_is _ _ _ _) ?_))
    have hle := firstS_le xs i (by omega)
    refine wpAny_setAddHashed_of (knd := PySem.strKind prog w) (s := { s' with toks := s'.toks + 1 }) (strKind_is _ _ _ _) rfl hS1 (by omega) fun h' hsb hS2 => ?_
    have hSi : h'.SetOf (PySem.strKind prog w) S (fun y => (firstS xs (i + 1)).any (· == y)) (firstS xs (i + 1)).length :=
      SetOf_congr hS2 (fun y => by rw [firstS_succ (by omega), stepS_any, hg]) (by rw [firstS_succ (by omega), stepS_len, hg])
    refine wpAny_pure ⟨plainId_quiet PyProof.Rows.F.plain_set_update_loop _, ih (i + 1) _ (by omega) hlt (W.frame _ s' _ _ hst' (Nat.le_succ _) fun b hb o e => ?_) hSi fun s'' hm'' hS'' => ?_⟩
    · rw [hsb.2 b (fun h : b = S => hSf (by rw [← h]; exact hb))]; exact e
    · refine hR s'' (Moved.trans W.gtrans ((hm.mono hsub).then_heap (Nat.le_succ _) fun b o hb e => ?_) hm'') hS''
      rw [hsb.2 b (fun h : b = S => hb (by rw [h]; exact List.mem_cons_self))]; exact e
end
section
variable {prog : Program} {w : World} {A : Around} {E : Value → Shared → Prop} {s : Shared}
theorem call_set_texts {l : Addr} {items : Array Value} {xs : List Str} {Q : Value → Shared → Prop}
    (hh : A.handled = none) (hl : s.heap.IsList l items) (hi : PyProof.Rows.StrsAre items.toList xs) (hn : items.size + 1 < scanBound)
    (h : ∀ (h' : Heap) (tk : Nat), h'.SetOf (PySem.strKind prog w) s.heap.objs.size (fun y => (firstS xs items.size).any (· == y)) (firstS xs items.size).length →
      (∀ b o, b < s.heap.objs.size → s.heap.get? b = some o → h'.get? b = some o) → Q (.ref s.heap.objs.size) { s with heap := h', toks := tk }) :
    wpAny (model prog w) A (call (.type "set") [.ref l]) Q E s := by
  obtain ⟨c, tl, hmro⟩ := PySem.F.called_set.mro
  have hmade := PySem.F.called_set.made
  have hsub := PySem.F.called_set.sub
  refine wpAny_call (codeAny_of_tree ?_)
  show wpAny _ _ (callAny (.type "set") _) _ _ _
  refine wpAny_pure ⟨Code.quiet_builtin _ (by decide +kernel), codeAny_builtin PySem.F.entry_type_call ?_⟩
  rw [Around.under_plain (weight_type_call_type "set" [.ref l] []) rfl]
  have h1 := PySem.F.called_set.notType
  have h2 := PySem.F.called_set.canCreate
  have hct := PySem.F.typeCall_set_1 (.ref l)
  repeat (any_goals (first | assumption | wp_step))
  refine codeAny_mono (code_set_new_1 (.ref l) (E := E) (Q₁ := fun obj s₁ => ∃ led : Bool, obj = .ref s.heap.objs.size ∧ s₁ = { s with heap := s.heap.push { cls := .type "set", dict := none, data := .set #[] 0 (.fresh 0 0 led) } }) fun led => ⟨led, rfl, rfl⟩) fun r s₁ hr => ?_
  cases r with
  | error e => exact hr
  | ok fl =>
    cases fl with
    | ret obj =>
      obtain ⟨led, rfl, rfl⟩ := hr
      have hS : (s.heap.push { cls := .type "set", dict := none, data := .set #[] 0 (.fresh 0 0 led) }).get? s.heap.objs.size = some { cls := .type "set", dict := none, data := .set #[] 0 (.fresh 0 0 led) } := Heap.get?_push_size _ rfl
      have hT : Shared.TypeIs { s with heap := s.heap.push { cls := .type "set", dict := none, data := .set #[] 0 (.fresh 0 0 led) } } (.ref s.heap.objs.size) "set" := ⟨_, hS, rfl⟩
      have hli := PySem.F.called_set.init.lookup
      have hbi := PySem.F.called_set.init.bind (.ref s.heap.objs.size)
      repeat (any_goals (first | assumption | wp_step))
      refine codeAny_mono (codeAny_call_builtin (R := wants (fun r s₂ => r = .none ∧ ∃ h' tk, s₂ = { s with heap := h', toks := tk } ∧
          h'.SetOf (PySem.strKind prog w) s.heap.objs.size (fun y => (firstS xs items.size).any (· == y)) (firstS xs items.size).length ∧
          (∀ b o, b < s.heap.objs.size → s.heap.get? b = some o → h'.get? b = some o)) E) PySem.F.called_set.init.plain PySem.F.entry_set_init (check_set_init_1 hT ?_)) fun r₂ s₂ hr₂ => ?_
      · obtain ⟨ol, hol, hcl, nl, hdl⟩ := hl
        obtain ⟨ocls, odict, odata, oslots⟩ := ol
        simp only at hcl hdl
        subst hcl; subst hdl
        have hol' : (s.heap.push { cls := .type "set", dict := none, data := .set #[] 0 (.fresh 0 0 led) }).get? l = some { cls := .type "list", dict := odict, data := .seq items nl, slots := oslots } := Heap.get?_push_of_some _ hol
        have hsls := PySem.F.sub_list_set
        have hslf := PySem.F.sub_list_frozenset
        have hne : (Value.type "list" == Value.type "dict") = false := by decide
        have hl1 : (s.heap.push { cls := .type "set", dict := none, data := .set #[] 0 (.fresh 0 0 led) }).IsList l items := ⟨_, hol', rfl, nl, rfl⟩
        unfold Builtin.«set.__init__» noKeywords Builtin.Frozenset.updateFrom
        generalize hPI : pyIter = PI
        wp_walk
        subst hPI
        refine wpAny_pyIter_list hl1 ?_
        refine wpAny_bind (wpAny_runValue ?_)
        have hlS : l < s.heap.objs.size := Heap.lt_size hol
        have hp1 : (s.heap.push { cls := .type "set", dict := none, data := .set #[] 0 (.fresh 0 0 led) }).objs.size = s.heap.objs.size + 1 := Heap.size_push ..
        have hsz : xs.length = items.size := by rw [← StrsAre.len_eq hi, Array.length_toList]
        refine set_texts ((Walks.list (show A.in1.in1.in1.handled = none by simp [hh]) _ l (by rw [hp1]; exact Nat.ne_of_lt (Nat.lt_succ_of_lt hlS)) items).toS) s.heap.objs.size
          (by rw [hp1]; simp only [List.mem_cons, List.mem_singleton, List.not_mem_nil, or_false, not_or]; exact ⟨Nat.ne_of_lt (Nat.lt_succ_self _), Nat.ne_of_gt hlS⟩) xs hsz hn (fun i v hv => SS.strs_at hi i v (by rw [Array.getElem?_toList]; exact hv)) (items.size - 0) 0 _ (by omega) (Nat.zero_le _)
          ⟨⟨_, Heap.get?_push_size _ rfl, rfl, rfl⟩, (hl1.push _)⟩ ?hS0 ?hR
        case hS0 =>
          exact PyProof.Rows.SetOf_congr ((PyProof.Rows.setObjOf_fresh (knd := PySem.strKind prog w) led).setOf (Heap.get?_push_of_some _ hS) (by unfold scanBound; omega)) (fun _ => rfl) rfl
        case hR =>
          intro s' hm hS'
          obtain ⟨h', g', d', tk', os'⟩ := s'
          have eg : g' = s.gens := hm.gens
          have ed : d' = s.drawn := hm.drawn
          have eo : os' = s.os := hm.os
          subst eg; subst ed; subst eo
          show wpAny _ _ _ _ _ _
          refine wpAny_pure ?_
          show wpAny _ _ (ret Value.none) _ _ _
          refine wpAny_pure ⟨rfl, h', tk', rfl, hS', fun b o hb e => ?_⟩
          exact hm.heap b o (by rw [hp1]; simp only [List.mem_cons, List.mem_singleton, List.not_mem_nil, or_false, not_or]; exact ⟨Nat.ne_of_lt hb, Nat.ne_of_lt (Nat.lt_succ_of_lt hb)⟩) (Heap.get?_push_of_some _ (Heap.get?_push_of_some _ e))
      · cases r₂ with
        | error e => exact hr₂
        | ok fl₂ =>
          cases fl₂ with
          | ret r =>
            obtain ⟨rfl, h', tk, rfl, hS', hk'⟩ := hr₂
            repeat (any_goals (first | assumption | wp_step))
            exact h _ _ hS' hk'
          | _ => exact hr₂.elim
    | _ => exact hr.elim
end
/-- len(set(xs)), xs a list of texts or of numbers -/
def strsOf : List D → Option (List Str)
  | [] => some []
  | .str x :: ds => (strsOf ds).map (x :: ·)
  | _ => none
theorem strsOf_some : ∀ {ds : List D} {xs : List Str}, strsOf ds = some xs → ds = xs.map .str
  | [], xs, h => by unfold strsOf at h; cases h; rfl
  | d :: ds, xs, h => by
    cases d with
    | str x =>
      unfold strsOf at h
      obtain ⟨ys, h1, rfl⟩ := Option.map_eq_some_iff.mp h
      rw [strsOf_some h1]
      rfl
    | _ => cases h
theorem strsOf_map : ∀ xs : List Str, strsOf (xs.map .str) = some xs
  | [] => rfl
  | x :: xs => by rw [List.map_cons]; unfold strsOf; rw [strsOf_map xs]; rfl
theorem Da.strs {F : Hp} : ∀ {xs : List Str} {vs : List V}, Da F vs (xs.map .str) → vs = xs.map V.str
  | [], _, h => by cases h; rfl
  | x :: xs, _, h => by
    cases h with
    | cons h1 t => cases h1; rw [Da.strs t]; rfl
def gLenSet : D → Option D
  | .list ds => match strsOf ds with
    | some xs => if xs.length < 4000 then some (.int ((firstS xs xs.length).length : Int)) else none
    | none => none
  | _ => none
def tLenSetT (K : PySem.W.Frag) (ta : TE) : TE := fun σ H Q => ta σ H fun x H1 => ∃ (l : Addr) (xs : List Str), x = V.ref l ∧ SqL K H1 l (xs.map V.str) ∧ xs.length < 4000 ∧ Q (.int ((firstS xs xs.length).length : Int)) H1
theorem pe_lenSetT {X : Cx} {a : Expr} {ta : TE} {p p2 q pos : Pos} (hc : X.calm = true) (hg : Gl X "len") (hm : X.mg "len" = none) (hg2 : Gl X "set") (hm2 : X.mg "set" = none) (ha : PE X a ta)
    (na : starEach [a] X.env = (false, eval a X.env) :: starEach [] X.env := by rfl) : PE X (.Call (.Name "len" p) [.Call (.Name "set" p2) [a] [] q] [] pos) (tLenSetT X.K ta) := by
  refine ⟨fun pins s σ H Q I h => ?_⟩
  refine Call_ (ld_blt I hg hm boot_len ?_)
  refine PyProof.Rows.callWith_builtin1 (PyProof.Rows.args_cons ?_ rfl) rfl rfl
  refine Call_ (ld_blt I hg2 hm2 boot_set ?_)
  refine PyProof.Rows.callWith_type1 (PyProof.Rows.args_cons (thn (ha.run pins s σ H _ I h) fun v s1 ⟨x, H1, I1, r1, q1⟩ => PyProof.Rows.args_nil ?_) na) na rfl
  obtain ⟨l, xs, rfl, hq, h1, q1⟩ := q1
  cases r1
  obtain ⟨its, r, pl, hz⟩ := I1.list hq
  have hl : its.toArray.size = xs.length := by rw [List.size_toArray, ← r.length, List.length_map]
  refine call_set_texts (I1.ok.hd hc) pl.isList (by simpa using strsAre_of r) (by unfold scanBound; omega) fun h' tk hS hk => ?_
  refine PyProof.Rows.args_nil ?_
  rw [hl] at hS
  have hle := firstS_le xs xs.length (Nat.le_refl _)
  obtain ⟨o, es, ep, t, ho, hex, hd, _, _, _, hf, hn⟩ := hS
  have I2 : Inv X pins σ H1 { s1 with heap := h', toks := tk } := I1.kept fun b o e => hk b o (Heap.lt_size e) e
  refine call_len_set ho hex hd hf (by rw [hn]; omega) ⟨.int (firstS xs xs.length).length, H1, I2.tok _, ⟨_, by rw [hn]⟩, q1⟩
theorem xe_lenSet {X : Cx} {f : Ef} {a : Expr} {p p2 q pos : Pos} (hm : X.mg "len" = none) (hm2 : X.mg "set" = none) (ha : XE X a f) (hc : X.calm = true := by rfl) (hg : Gl X "len" := by rfl) (hg2 : Gl X "set" := by rfl)
    (na : starEach [a] X.env = (false, eval a X.env) :: starEach [] X.env := by rfl) : XE X (.Call (.Name "len" p) [.Call (.Name "set" p2) [a] [] q] [] pos) (eUn gLenSet f) := by
  obtain ⟨t, h1, h2⟩ := ha.ex
  refine ⟨_, pe_lenSetT hc hg hm hg2 hm2 h1 na, fun G F env s H d env' k e Q q => ?_⟩
  obtain ⟨d1, h3, e⟩ := un_some e
  refine h2 G F env s H d1 env' k h3 _ fun F1 H1 v k1 s1 p1 => ?_
  unfold gLenSet at e
  cases p1 with
  | lst a1 b1 =>
    dsimp only at e
    split at e
    · rename_i xs hx
      split at e
      · rename_i hlt
        cases e
        obtain rfl := strsOf_some hx
        obtain rfl := Da.strs b1
        exact ⟨_, xs, rfl, SqL.of (k1.fr _ _ a1), hlt, q F1 H1 _ k1 s1 (.int _)⟩
      · cases e
    · cases e
  | _ => cases e
theorem wo_lenSet {xs : List Str} {Q : D → Prop} (h : xs.length < 4000) (q : Q (.int ((firstS xs xs.length).length : Int))) : WO (gLenSet (.list (xs.map .str))) Q :=
  ⟨_, by unfold gLenSet; dsimp only; rw [strsOf_map]; dsimp only; rw [if_pos h], q⟩
/-! ### xs.insert(i, e) -/
def eMut2 (g : List D → D → D → Option (List D × D)) (i : Nat) (f f2 : Ef) : Ef := fun env => if isOwn env i then (f env).bind fun r => (f2 r.2).bind fun r2 => match r2.2[i]? with
  | some (.own l ds) => (g ds r.1 r2.1).map fun q => (q.2, r2.2.set i (.own l q.1))
  | _ => none
  else none
def GM2 (r : V → List V → Hp → VK → Prop) (g : List D → D → D → Option (List D × D)) : Prop := ∀ F a vs ds y d y2 d2 es z H, Same F H → H a = some (.lst vs) → Da F vs ds → Dt F y d → Dt F y2 d2 → g ds d d2 = some (es, z) → ∀ Q : VK,
  (∀ us v, Da F us es → Dt F v z → Q v (upd H a (.lst us))) → r (.ref a) [y, y2] H Q
theorem re_mut2 {K : Frg} {i : Nat} {r : V → List V → Hp → VK → Prop} {g : List D → D → D → Option (List D × D)} {tb tc : TE} {fb fc : Ef} (hg : GM2 r g) (h2 : RE K tb fb) (h2' : RE K tc fc) : RE K (tBM K "list" r (tVar i) (tCons tb (tCons tc tNil))) (eMut2 g i fb fc) := fun G F env s H d env' k e Q q => by
  unfold eMut2 at e
  split at e
  · rename_i h0
    obtain ⟨l0, ds0, h0⟩ := isOwn_some h0
    obtain ⟨a, vs0, hv, hH, _⟩ := k.own i l0 ds0 h0
    obtain ⟨⟨d1, e1⟩, h1, e⟩ := Option.bind_eq_some_iff.mp e
    obtain ⟨⟨d2, e2⟩, h5, e⟩ := Option.bind_eq_some_iff.mp e
    dsimp only at e h5
    split at e
    · rename_i l ds h3
      obtain ⟨⟨es, z⟩, h4, e⟩ := Option.map_eq_some_iff.mp e
      cases e
      refine ⟨_, hv, .inl ⟨rfl, _, SqL.of hH⟩, ?_⟩
      refine h2 G F env s H d1 e1 k h1 _ fun F1 H1 v1 k1 s1 p1 => ?_
      refine h2' G F1 e1 s H1 d2 e2 k1 h5 _ fun F2 H2 v2 k2 s2 p2 => ?_
      obtain ⟨b, vs, g1, g2, g3, g4, g5, g6⟩ := k2.own i l ds h3
      rw [hv] at g1
      cases g1
      exact hg F2 a vs ds v1 d1 v2 d2 es z H2 k2.fr g2 g5 (Dt.mono s2 _ _ p1) p2 h4 Q fun us v pu pv => q F2 _ v (ok_mut k2 h3 hv pu) (s1.trans s2) pv
    · cases e
  · cases e
def mInsert : List D → D → D → Option (List D × D) := fun ds d d2 => match d with
  | .int i => if decide (0 ≤ i) && decide (i < 2 ^ 63) && fits (ds.length + 1) then some (ds.take i.toNat ++ [d2] ++ ds.drop i.toNat, .none) else none
  | _ => none
theorem gm_insert : GM2 (fun x vs H Q => ∃ (l : Addr) (xs : List V) (i : Int) (y : V), x = .ref l ∧ vs = [.int i, y] ∧ H l = some (.lst xs) ∧ xs.length < sizeLine ∧ 0 ≤ i ∧ i < 2 ^ 63 ∧
    Q .non (upd H l (.lst (xs.take i.toNat ++ [y] ++ xs.drop i.toNat)))) mInsert := fun F a vs ds y d y2 d2 es z H _ h p py py2 e Q q => by
  unfold mInsert at e
  split at e
  · split at e
    · rename_i i hf
      simp only [Bool.and_eq_true, decide_eq_true_eq] at hf
      cases e
      cases py
      have := fits_line hf.2
      exact ⟨a, vs, i, y2, rfl, rfl, h, by rw [p.length]; omega, hf.1.1, hf.1.2, q _ _ (((p.take _).append (.cons py2 .nil)).append (p.drop _)) .non⟩
    · cases e
  · cases e
section
variable {X : Cx} {e e2 : Expr} {fe fe2 : Ef} {x : Str} {p2 : Pos} {pos apos : Pos} {name : Str} {id : String}
theorem xe_mut2 (i : Nat) {r : V → List V → Hp → VK → Prop} {g : List D → D → D → Option (List D × D)} (slot : Slot "list" name id) (hty : typeOf (.builtin id) = pure (.type "method_descriptor")) (hm : MtR X id r) (hg : GM2 r g) (ha : XE X e fe) (hb : XE X e2 fe2) (hN : X.N[i]? = some x := by rfl) (hv : Vis X.env.scope x := by first | exact Or.inl rfl | exact Or.inr (Or.inl rfl) | exact Or.inr (Or.inr rfl))
    (hd : (x == ("__debug__" : Str)) = false := by decide) (hcd : (x == ("__classdict__" : Str)) = false := by decide)
    (hbase : attributeBase (.Name x p2) name X.env (eval (.Name x p2) X.env) = eval (.Name x p2) X.env := by rfl)
    (hfew : ((backTo pos (starEach [e, e2] X.env)).all (fun x => !x.1) && (backToKw pos (keywordEach [] X.env)).all (fun x => x.1.isSome)
      && decide (([e, e2] : List Expr).length + ([] : List Keyword).length + (if ([] : List Keyword).isEmpty then 0 else 1) < 30)) = true := by rfl)
    (hline : (apos.endLine == pos.line) = true := by rfl) (hs : starEach [e, e2] X.env = (false, eval e X.env) :: starEach [e2] X.env := by rfl) (hs2 : starEach [e2] X.env = (false, eval e2 X.env) :: starEach [] X.env := by rfl) (hplain : (backTo pos (starEach [e2] X.env)).any (·.1) = false := by rfl) :
    XE X (.Call (.Attribute (.Name x p2) name apos) [e, e2] [] pos) (eMut2 g i fe fe2) :=
  let ⟨_, h1, h2⟩ := ha.ex
  let ⟨_, h3, h4⟩ := hb.ex
  ⟨_, pe_bm PySem.F.plainAttrs_list slot hty hm (pe_var hN hv hd hcd) (pa_cons h1 (pa_cons h3 pa_nil hs2) hs) hbase hfew hline hs hplain, re_mut2 hg h2 h4⟩
end
theorem we_mut2 {env : En} {f f2 : Ef} {i : Nat} {g : List D → D → D → Option (List D × D)} {Q : D → En → Prop} {b : Bool} {ds0 : List D} (h0 : env[i]? = some (.own b ds0)) (h : WE f env fun x e => WE f2 e fun y e2 => Own e2[i]? fun l ds => WO (g ds x y) fun r => Nrm (e2.set i (.own l r.1)) (Q r.2)) : WE (eMut2 g i f f2) env Q := by
  obtain ⟨x, e, h1, y, e2, h4, l, ds, h2, r, h3, q⟩ := h
  exact ⟨_, _, by unfold eMut2 isOwn; rw [h0]; simp only [if_true, h1, h4, Option.bind_some, h2, h3]; (try rfl), q⟩
theorem wo_insert {ds : List D} {i : Int} {d : D} {Q : List D × D → Prop} (h0 : 0 ≤ i) (h1 : i ≤ ds.length) (hl : ds.length < 1000000) (q : Q (ds.take i.toNat ++ d :: ds.drop i.toNat, .none)) : WO (mInsert ds (.int i) d) Q := by
  refine ⟨(ds.take i.toNat ++ [d] ++ ds.drop i.toNat, .none), ?_, by rw [List.append_assoc]; exact q⟩
  unfold mInsert
  dsimp only
  rw [decide_eq_true h0, decide_eq_true (show i < 2 ^ 63 by omega), fits_of (show ds.length + 1 ≤ 16777216 by omega)]
  rfl
end M

namespace M
open PySem PySem.Spec PyProof.Rows L2
/-! ### zip of two, each a list or a tuple -/
/-! ### a text's index of another one -/
/-! ### i ** j of a greater i -/
def CPowW (i j : Int) : Prop := 0 ≤ j ∧ j ≤ 1000 ∧ i.natAbs < 10 ^ 100
theorem bitsW {i : Int} (h : i.natAbs < 10 ^ 100) : Builtin.Int.intBits i ≤ 400 := by
  unfold Builtin.Int.intBits
  split
  · omega
  · rename_i hi
    have h0 : i.natAbs ≠ 0 := fun e => hi (by simp [Int.natAbs_eq_zero.mp e])
    have := (Nat.log2_lt h0 (k := 399)).mpr (Nat.lt_of_lt_of_le h (by decide +kernel))
    omega
theorem op_powW {X : Cx} : OpR X (binaryOp .Pow) (rI CPowW fun i j => .int (i ^ j.toNat)) := opI fun i j _ _ _ _ _ hc q => PyProof.Rows.pow_int hc.1 (by
  have h1 := bitsW hc.2.2
  have h2 : (Builtin.Int.intBits i : Int) * j ≤ 400 * j := Int.mul_le_mul_of_nonneg_right (by omega) hc.1
  have := hc.2.1
  omega) q
def gPowW : D → D → Option D
  | .int i, .int j => if decide (0 ≤ j) && decide (j ≤ 1000) && decide (i.natAbs < 10 ^ 100) then some (.int (i ^ j.toNat)) else none
  | _, _ => none
theorem go_powW {K : Frg} : GO K (rI CPowW fun i j => .int (i ^ j.toNat)) gPowW := by
  intro G F env s H x y d e z k h1 h2 h3 Q q
  unfold gPowW at h3
  split at h3
  · split at h3
    · rename_i hf
      cases h1; cases h2; cases h3
      simp only [Bool.and_eq_true, decide_eq_true_eq] at hf
      exact ⟨_, _, rfl, rfl, ⟨hf.1.1, hf.1.2, hf.2⟩, q F H _ k (Same.refl F) (.int _)⟩
    · cases h3
  · cases h3
theorem xe_powW {X : Cx} {a b : Expr} {fa fb : Ef} {pos : Pos} (ha : XE X a fa) (hb : XE X b fb) : XE X (.BinOp a .Pow b pos) (eBin gPowW fa fb) := xe_op op_powW go_powW ha hb
theorem wo_pow2 {a : Int} {Q : D → Prop} (h : a.natAbs < 10 ^ 100) (q : Q (.int (a ^ 2))) : WO (gPowW (.int a) (.int 2)) Q := by
  refine ⟨_, ?_, q⟩
  unfold gPowW
  dsimp only
  rw [decide_eq_true h]
  rfl
end M

namespace M
open PySem PySem.Spec PyProof.Rows L2
/-! ### min and max of a list of data that are alike -/
def noNone (ds : List D) : Bool := ds.all fun d => match d with | .none => false | _ => true
theorem noNone_ok {ds : List D} (h : noNone ds = true) : ∀ d ∈ ds, d ≠ .none := fun d hd e => by
  have := List.all_eq_true.mp h d hd
  subst e
  cases this
theorem depthAll_le : ∀ {ds : List D} {n : Nat}, (∀ d ∈ ds, d.depth ≤ n) → PyData.depthAll ds ≤ n
  | [], n, _ => by unfold PyData.depthAll; omega
  | d :: ds, n, h => by
    have h1 := h d List.mem_cons_self
    have h2 := depthAll_le fun e he => h e (List.mem_cons_of_mem _ he)
    unfold PyData.depthAll
    omega
theorem best_mem {f : D → D → Bool} : ∀ (ds : List D) (d : D), ds.foldl (fun a y => if f y a then y else a) d ∈ d :: ds
  | [], d => List.mem_cons_self
  | e :: ds, d => by
    rw [List.foldl_cons]
    have h := best_mem (f := f) ds (if f e d then e else d)
    rcases List.mem_cons.mp h with h | h
    · rw [h]
      split
      · exact List.mem_cons_of_mem _ List.mem_cons_self
      · exact List.mem_cons_self
    · exact List.mem_cons_of_mem _ (List.mem_cons_of_mem _ h)
def rBestD (g : D → List D → D) (K : Frg) : List V → Hp → VK → Prop := fun vs H Q => ∃ (a : Addr) (xs : List V) (d : D) (ds : List D), vs = [V.ref a] ∧ SqL K H a xs ∧ DpAll K H xs (d :: ds) ∧ PySem.W.AllAlike (d :: ds) ∧ noNone (d :: ds) = true ∧ shallow (d :: ds) = true ∧
  ∀ p : V × D, p ∈ xs.zip (d :: ds) → p.2 = g d ds → Q p.1 H
theorem dpAll_at {K : Frg} {H : Hp} : ∀ {xs : List V} {ds : List D}, DpAll K H xs ds → ∀ (i : Nat) (h1 : i < xs.length) (h2 : i < ds.length), Dp K H xs[i] ds[i]
  | [], _, _, i, h1, _ => by simp at h1
  | _ :: _, [], h, _, _, _ => by cases h
  | _ :: _, _ :: _, h, 0, _, _ => by cases h with | cons h1 t => exact h1
  | _ :: _, _ :: _, h, i + 1, h1, h2 => by
    cases h with
    | cons h3 t => exact dpAll_at t i (by simpa using h1) (by simpa using h2)
section
variable {X : Cx}
theorem best_post {pins : List (Addr × Obj)} {σ : L2.St} {H : Hp} {s : Shared} {xs : List V} {ds : List D} {its : List Value} {g : D} {Q : V → Hp → Prop} (I : Inv X pins σ H s) (rv : Vals xs its) (hd : DpAll X.K H xs ds) (hal : PySem.W.AllAlike ds) (hg : g ∈ ds) (q : ∀ p : V × D, p ∈ xs.zip ds → p.2 = g → Q p.1 H)
    {i : Nat} {v : Value} {h' : Heap} {tk : Nat} {bs : List Addr} (hi : its[i]? = some v) (hr : Reads h' v g bs) (hk : ∀ b o, s.heap.get? b = some o → h'.get? b = some o) :
    ∃ x H', Inv X pins σ H' { s with heap := h', toks := tk } ∧ RelV x v ∧ Q x H' := by
  have hlen := dpAll_len hd
  have hvl := rv.length
  have hil : i < its.length := (List.getElem?_eq_some_iff.mp hi).1
  obtain ⟨u, h1, h2⟩ := rv.get (i := i) (x := xs[i]'(by omega)) (List.getElem?_eq_getElem _)
  rw [hi] at h1
  cases h1
  have hD := dpAll_at hd i (by omega) (by omega)
  obtain ⟨as2, r2⟩ := Dp.reads I _ _ _ hD h2
  have e := PySem.W.alike_unique _ _ v _ _ (hal _ (List.getElem_mem _) _ hg) (PySem.W.reads_keeps hk r2) hr
  exact ⟨xs[i], H, I.kept hk, h2, q (xs[i], ds[i]'(by omega)) (List.mem_iff_getElem.mpr ⟨i, by rw [List.length_zip]; omega, by rw [List.getElem_zip]⟩) e⟩
theorem cr_minD (hc : X.calm = true) (hu : X.A.units + 65 < cLine) : CallR X (.builtin "min") (rBestD PySem.W.minD X.K) := by
  intro pins s σ H vs us Q I r h
  obtain ⟨a, xs, d, ds, rfl, hs, hd, hal, hnn, hsh, q⟩ := h
  obtain ⟨its, rv, hl, hz⟩ := I.list hs
  rw [Vals.ref1 r]
  obtain ⟨as, hr⟩ := Dp.readsAll I (d :: ds) xs its hd rv
  refine PySem.W.min_list_data (x := d) (xs := ds) (I.ok.hd hc) hl.isList (by simpa using hr) ⟨fun x hx y hy => hal x hx y hy, noNone_ok hnn⟩ ?_ fun i v h' tk bs hi hrd hk => ?_
  · have := depthAll_le (ds := d :: ds) (n := 60) fun e he => of_decide_eq_true (List.all_eq_true.mp hsh e he)
    omega
  · exact best_post I rv hd hal (best_mem ds d) q (by simpa using hi) hrd hk
end
def gBest (g : D → List D → D) : D → Option D
  | .list (d :: ds) => if alikeB (d :: ds) && noNone (d :: ds) && shallow (d :: ds) then some (g d ds) else none
  | _ => none
def gMinL : D → Option D := gBest PySem.W.minD
theorem gc_best {K : Frg} {g : D → List D → D} : GC K (rBestD g K) (gBest g) := by
  intro G F env s H x d z k h1 h3 Q q
  unfold gBest at h3
  split at h3
  · rename_i d0 ds
    split at h3
    · rename_i hf
      cases h3
      simp only [Bool.and_eq_true] at hf
      obtain ⟨p, vs, rfl, h4, h5⟩ := h1.list k.fr
      refine ⟨p, vs, d0, ds, rfl, h4, Da.dp _ _ (ndA_of fun d hd => nd_alike d (alikeB_ok hf.1.1 d hd d hd)) (Da.mono k.fr _ _ h5), alikeB_ok hf.1.1, hf.1.2, hf.2, fun p' hp e => ?_⟩
      have := Da.zip h5 p' hp
      rw [e] at this
      exact q F H _ k (Same.refl F) this
    · cases h3
  · cases h3
theorem xe_minL {X : Cx} {f : Ef} {e : Expr} {p pos : Pos} (hu : X.A.units + 65 < cLine) (hm : X.mg "min" = none) (ha : XO X e f) (hc : X.calm = true := by rfl) (hg : Gl X "min" := by rfl) (he : starEach [e] X.env = (false, eval e X.env) :: starEach [] X.env := by rfl) (hpl : (backTo pos (starEach [] X.env)).any (·.1) = false := by rfl) : XE X (.Call (.Name "min" p) [e] [] pos) (eUn gMinL f) :=
  xe_cbB (cr_minD hc hu) (by decide +kernel) gc_best hm ha hg (by decide) (by decide) he hpl
theorem wo_minL {d : D} {ds : List D} {Q : D → Prop} (h1 : alikeB (d :: ds) = true) (h2 : noNone (d :: ds) = true) (h3 : shallow (d :: ds) = true) (q : Q (PySem.W.minD d ds)) : WO (gMinL (.list (d :: ds))) Q := by
  refine ⟨_, ?_, q⟩
  unfold gMinL gBest
  dsimp only
  rw [if_pos (by rw [h1, h2, h3]; rfl)]
/-! ### the rest by a number of either sign -/
/-! ### how often a list has a thing -/
section
variable {X : Cx}
end
/-! ### a list from its end to its beginning -/
theorem Da.rev {F : Hp} : ∀ {vs : List V} {ds : List D}, Da F vs ds → Da F vs.reverse ds.reverse
  | _, _, .nil => .nil
  | _, _, .cons h t => by
    rw [List.reverse_cons, List.reverse_cons]
    exact (Da.rev t).append (.cons h .nil)
end M

namespace M
open PySem PySem.Spec PyProof.Rows L2
/-! ### a tuple told with a new list at its end, and the list changed by the one who asked -/
def unT : List Ar → Option (List D × Nat)
  | [] => none
  | .r i :: as => match as with
    | [] => some ([], i)
    | _ :: _ => none
  | .v d :: as => (unT as).map fun r => (d :: r.1, r.2)
  | .o _ :: _ => none
def sRetT (fa : Af) : Sf := fun env => (fa env).bind fun r => (unT r.1).bind fun q => match r.2[q.2]? with
  | some (.own true ds) => if fits (q.1.length + 1) then some (.rp q.1 ds (r.2.set q.2 .no)) else none
  | _ => none
section
variable {X : Cx} {K : Frg} {st : Stmt} {rest es : List Stmt} {e a b : Expr} {f g : Sf} {fe fa fb : Ef} {pos : Pos}
end
section
variable {P : Program} {w : World} {K : Frg} {mg : Str → Option Value} {base : Heap}
end
/-! the one who asked: slot i holds what was told -/
abbrev Td := En → List D → List D → Option Out
theorem set_same {s : L2.St} {i : Nat} {x : Option V} (h : s[i]? = some x) : s.set i x = s := by
  refine List.ext_getElem? fun j => ?_
  by_cases hj : i = j
  · subst hj
    rw [List.getElem?_set_self (List.getElem?_eq_some_iff.mp h).1, h]
  · rw [List.getElem?_set_ne hj]
section
variable {K : Frg} {G : Gm} {F : Hp} {env : En} {s : L2.St} {H H' : Hp} {i : Nat}
theorem ok_know {v : V} {d : D} (k : Ok K G F env s H) (hs : s[i]? = some (some v)) (p : Dt F v d) : Ok K G F (env.set i (.val d)) s H := by
  have := ok_set (i := i) k p
  rwa [set_same hs] at this
theorem ok_forget {x : Option V} (k : Ok K G F env s H) : Ok K G F (env.set i .no) (s.set i x) H := by
  refine ok_weak (ok_drop i k) (by simp) fun j y e hy => ?_
  rcases set_get e with ⟨_, _, z⟩ | ⟨hj, _⟩
  · exact absurd z.symm hy
  · rw [List.getElem?_set_ne hj]
end
section
variable {X : Cx} {K : Frg} {st : Stmt} {rest sts : List Stmt} {e a b : Expr} {f : Sf} {fe : Ef} {pos : Pos} {i : Nat}
/-- from here on it is a value -/
def tdP (i : Nat) (f : Sf) : Td := fun env as ds => f (env.set i (.val (.tuple (as ++ [.list ds]))))
/-! statements that only look: they go on or hand back something flat -/
abbrev Gpu := En → Option (Option D)
def RPu (K : Frg) (t : TS) (f : Gpu) : Prop := ∀ G F env s H r, Ok K G F env s H → f env = some r → ∀ E : Ends, (r = none → ∀ F' H', Ok K G F' env s H' → Same F F' → E.nx s H') → (∀ d, r = some d → flatD d = true ∧ ∀ F' H' v, Ok K G F' env s H' → Same F F' → Dt F' v d → E.rt v H') → t E s H
structure XPu (X : Cx) (st : Stmt) (f : Gpu) : Prop where
  ex : ∃ t, PS X st t ∧ RPu X.K t f
structure XPus (X : Cx) (sts : List Stmt) (f : Gpu) : Prop where
  ex : ∃ t, PSs X sts t ∧ RPu X.K t f
def pNil : Gpu := fun _ => some none
def pSeq (f g : Gpu) : Gpu := fun env => (f env).bind fun r => match r with
  | none => g env
  | some d => some (some d)
def pRet (f : Ef) : Gpu := fun env => (eBor f env).map fun r => some r.1
def pIf (c : Bf) (f g : Gpu) : Gpu := fun env => (bBor c env).bind fun r => if r.1 then f env else g env
theorem eBor_some {f : Ef} {env env' : En} {d : D} (h : eBor f env = some (d, env')) : env' = env ∧ flatD d = true := by
  unfold eBor at h
  obtain ⟨⟨d1, e1⟩, h1, h⟩ := Option.bind_eq_some_iff.mp h
  dsimp only at h
  split at h
  · rename_i hf
    cases h; exact ⟨rfl, hf⟩
  · cases h
theorem bBor_some {f : Bf} {env env' : En} {d : Bool} (h : bBor f env = some (d, env')) : env' = env := by
  unfold bBor at h
  obtain ⟨⟨d1, e1⟩, h1, h⟩ := Option.map_eq_some_iff.mp h
  cases h; rfl
theorem xpu_ret (he : XE X e fe) : XPu X (.Return (some e) pos) (pRet fe) := by
  obtain ⟨t, h1, h2⟩ := he.ex
  refine ⟨_, ps_ret h1, fun G F env s H r k e E q1 q2 => ?_⟩
  unfold pRet at e
  obtain ⟨⟨d, e1⟩, h3, e⟩ := Option.map_eq_some_iff.mp e
  cases e
  obtain ⟨rfl, hf⟩ := eBor_some h3
  exact re_bor h2 G F _ s H d _ k h3 _ fun F1 H1 v k1 s1 p1 => (q2 d rfl).2 F1 H1 v k1 s1 p1
theorem xpus_nil : XPus X [] pNil := ⟨_, pss_nil, fun G F env s H r k h E q1 q2 => by cases h; exact q1 rfl F H k (Same.refl F)⟩
theorem xpus_one {f : Gpu} (h1 : XPu X st f) : XPus X [st] f := let ⟨_, p1, q1⟩ := h1.ex; ⟨_, pss_one p1, q1⟩
theorem xpu_if {c : Expr} {p1 p2 : List Stmt} {gc : Bf} {f g : Gpu} (hc : XB X c gc) (ha : XPus X p1 f) (hb : XPus X p2 g) : XPu X (.If c p1 p2 pos) (pIf gc f g) := by
  obtain ⟨t, h1, h2⟩ := hc.ex
  obtain ⟨ta, h3, h4⟩ := ha.ex
  obtain ⟨tb, h5, h6⟩ := hb.ex
  refine ⟨_, ps_if h1 h3 h5, fun G F env s H r k e E q1 q2 => ?_⟩
  unfold pIf at e
  obtain ⟨⟨c, e1⟩, h7, e⟩ := Option.bind_eq_some_iff.mp e
  have he := bBor_some h7
  subst he
  have up1 : ∀ {F1 : Hp}, Same F F1 → r = none → ∀ F' H', Ok X.K G F' e1 s H' → Same F1 F' → E.nx s H' := fun s1 hr F2 H2 k2 s2 => q1 hr F2 H2 k2 (s1.trans s2)
  have up2 : ∀ {F1 : Hp}, Same F F1 → ∀ d, r = some d → flatD d = true ∧ ∀ F' H' v, Ok X.K G F' e1 s H' → Same F1 F' → Dt F' v d → E.rt v H' := fun s1 d hr => ⟨(q2 d hr).1, fun F2 H2 v k2 s2 p2 => (q2 d hr).2 F2 H2 v k2 (s1.trans s2) p2⟩
  refine rb_bor h2 G F e1 s H c e1 k h7 _ fun F1 H1 k1 s1 => ?_
  cases c with
  | true =>
    rw [if_pos rfl] at e ⊢
    exact h4 G F1 e1 s H1 r k1 e E (up1 s1) (up2 s1)
  | false =>
    rw [if_neg Bool.false_ne_true] at e ⊢
    exact h6 G F1 e1 s H1 r k1 e E (up1 s1) (up2 s1)
/-- a look at what was told, the told tuple a value for so long -/
def lookT (i : Nat) (env : En) (as ds : List D) : En := unowns (env.set i (.val (.tuple (as ++ [.list ds]))))
def tdG (i : Nat) (fp : Gpu) (fr : Td) : Td := fun env as ds => (fp (lookT i env as ds)).bind fun r => match r with
  | none => fr env as ds
  | some d => if flatD d then some (.rt d env) else none
/-- a parting -/
def thenS (fr : Sf) : Out → Option Out
  | .nx env1 => fr env1
  | o => some o
def tdIf (i : Nat) (c : Bf) (fa fb : Td) (fr : Sf) : Td := fun env as ds => (c (lookT i env as ds)).bind fun r => (if r.1 then fa env as ds else fb env as ds).bind (thenS fr)
/-! a whole number written down -/
/-- y = list(x[j]) -/
def tdK (i ik : Nat) (j : Int) (fr : Td) : Td := fun env as ds => if ixN (as.length + 1) j = some as.length ∧ ik ≠ i then fr (env.set ik (.val (.list ds))) as ds else none
def tdA (i : Nat) (j c : Int) (fr : Td) : Td := fun env as ds => if ixN (as.length + 1) j = some as.length ∧ fits (ds.length + 1) = true then fr env as (ds ++ [.int c]) else none
def tdC (i : Nat) (j : Int) (fr : Td) : Td := fun env as ds => if ixN (as.length + 1) j = some as.length then fr env as [] else none
/-- a, b = x: the list is the def's own -/
def tdU (i ia ib : Nat) (f : Sf) : Td := fun env as ds => match as with
  | [d] => if ia ≠ i ∧ ib ≠ i then f ((env.set ia (.val d)).set ib (.own true ds)) else none
  | _ => none
end
/-! what it leaves -/
def RetT (ars : List Ar) (e : En) (R : D → En → Prop) : Prop := ∃ as i ds, unT ars = some (as, i) ∧ e[i]? = some (.own true ds) ∧ fits (as.length + 1) = true ∧ R (.tuple (as ++ [.list ds])) (e.set i .no)
section
variable {env : En} {N : En → Prop} {R : D → En → Prop} {L : List D → En → Prop} {i ik : Nat} {as ds : List D} {j c : Int} {Q : Po} {A : Prop} {B : D → Prop}
theorem ws_retT {fa : Af} (h : WA fa env fun ars e => RetT ars e R) : WS (sRetT fa) env ⟨N, R, L⟩ := by
  obtain ⟨ars, e, h1, as, i, ds, h2, h3, h4, q⟩ := h
  exact ⟨.rp as ds (e.set i .no), by unfold sRetT; simp only [h1, h2, h3, h4, Option.bind_some, if_true], q⟩
theorem retT1 {a : D} (h : env[i]? = some (.own true ds)) (q : Nrm (env.set i .no) (R (.tuple [a, .list ds]))) : RetT [.v a, .r i] env R := ⟨[a], i, ds, rfl, h, rfl, q⟩
theorem retT2 {a b : D} (h : env[i]? = some (.own true ds)) (q : Nrm (env.set i .no) (R (.tuple [a, b, .list ds]))) : RetT [.v a, .v b, .r i] env R := ⟨[a, b], i, ds, rfl, h, rfl, q⟩
def WTd (f : Td) (env : En) (as ds : List D) (Q : Po) : Prop := ∃ o, f env as ds = some o ∧ Q.at o
def WPu (f : Gpu) (env : En) (A : Prop) (B : D → Prop) : Prop := ∃ r, f env = some r ∧ match r with
  | none => A
  | some d => B d
theorem wpu_nil (q : A) : WPu pNil env A B := ⟨none, rfl, q⟩
theorem wpu_seq {f g : Gpu} (h : WPu f env (WPu g env A B) B) : WPu (pSeq f g) env A B := by
  obtain ⟨r, h1, h2⟩ := h
  cases r with
  | none => obtain ⟨r, h3, q⟩ := h2; exact ⟨r, by unfold pSeq; rw [h1]; exact h3, q⟩
  | some d => exact ⟨some d, by unfold pSeq; rw [h1]; rfl, h2⟩
theorem wpu_ret {f : Ef} (h : WE (eBor f) env fun d _ => B d) : WPu (pRet f) env A B := by
  obtain ⟨d, e, h1, q⟩ := h
  exact ⟨some d, by unfold pRet; rw [h1]; rfl, q⟩
theorem wpu_if {c : Bf} {f g : Gpu} (h : WB (bBor c) env fun b _ => IfB b (WPu f env A B) (WPu g env A B)) : WPu (pIf c f g) env A B := by
  obtain ⟨b, e, h1, h2⟩ := h
  cases b with
  | true => obtain ⟨r, h3, q⟩ : WPu f env A B := h2; exact ⟨r, by unfold pIf; rw [h1]; exact h3, q⟩
  | false => obtain ⟨r, h3, q⟩ : WPu g env A B := h2; exact ⟨r, by unfold pIf; rw [h1]; exact h3, q⟩
theorem wtd_P {f : Sf} (h : Nrm (env.set i (.val (.tuple (as ++ [.list ds])))) fun e => WS f e Q) : WTd (tdP i f) env as ds Q := h
theorem wtd_G {fp : Gpu} {fr : Td} (h : Nrm (unowns (env.set i (.val (.tuple (as ++ [.list ds]))))) fun e => WPu fp e (WTd fr env as ds ⟨N, R, L⟩) fun d => flatD d = true ∧ R d env) : WTd (tdG i fp fr) env as ds ⟨N, R, L⟩ := by
  obtain ⟨r, h1, h2⟩ : WPu fp (lookT i env as ds) (WTd fr env as ds ⟨N, R, L⟩) fun d => flatD d = true ∧ R d env := h
  cases r with
  | none => obtain ⟨o, h3, q⟩ := h2; exact ⟨o, by unfold tdG; rw [h1]; exact h3, q⟩
  | some d => exact ⟨.rt d env, by unfold tdG; rw [h1]; simp only [Option.bind_some, h2.1, if_true], h2.2⟩
theorem wtd_If {gc : Bf} {fa fb : Td} {fr : Sf} (h : Nrm (unowns (env.set i (.val (.tuple (as ++ [.list ds]))))) fun e => WB (bBor gc) e fun b _ => IfB b (WTd fa env as ds ⟨fun e => WS fr e ⟨N, R, L⟩, R, L⟩) (WTd fb env as ds ⟨fun e => WS fr e ⟨N, R, L⟩, R, L⟩)) : WTd (tdIf i (bBor gc) fa fb fr) env as ds ⟨N, R, L⟩ := by
  obtain ⟨b, e, h1, h2⟩ : WB (bBor gc) (lookT i env as ds) fun b _ => IfB b (WTd fa env as ds ⟨fun e => WS fr e ⟨N, R, L⟩, R, L⟩) (WTd fb env as ds ⟨fun e => WS fr e ⟨N, R, L⟩, R, L⟩) := h
  have fin : ∀ o, (⟨fun e => WS fr e ⟨N, R, L⟩, R, L⟩ : Po).at o → ∃ o', thenS fr o = some o' ∧ (⟨N, R, L⟩ : Po).at o' := fun o q => by
    cases o with
    | nx e => exact q
    | rt d e => exact ⟨_, rfl, q⟩
    | rn d e => exact ⟨_, rfl, q⟩
    | rp d d2 e => exact ⟨_, rfl, q⟩
  cases b with
  | true =>
    obtain ⟨o, h3, q⟩ : WTd fa env as ds ⟨fun e => WS fr e ⟨N, R, L⟩, R, L⟩ := h2
    obtain ⟨o', h4, q'⟩ := fin o q
    exact ⟨o', by unfold tdIf; rw [h1]; simp only [Option.bind_some, if_true, h3]; exact h4, q'⟩
  | false =>
    obtain ⟨o, h3, q⟩ : WTd fb env as ds ⟨fun e => WS fr e ⟨N, R, L⟩, R, L⟩ := h2
    obtain ⟨o', h4, q'⟩ := fin o q
    exact ⟨o', by unfold tdIf; rw [h1]; simp only [Option.bind_some, Bool.false_eq_true, if_false, h3]; exact h4, q'⟩
theorem wtd_K {fr : Td} (h : ixN (as.length + 1) j = some as.length ∧ ik ≠ i) (q : Nrm (env.set ik (.val (.list ds))) fun e => WTd fr e as ds Q) : WTd (tdK i ik j fr) env as ds Q := by
  obtain ⟨o, h1, q⟩ : WTd fr (env.set ik (.val (.list ds))) as ds Q := q
  exact ⟨o, by unfold tdK; rw [if_pos h]; exact h1, q⟩
theorem wtd_A {fr : Td} (h : ixN (as.length + 1) j = some as.length) (hf : fits (ds.length + 1) = true) (q : WTd fr env as (ds ++ [.int c]) Q) : WTd (tdA i j c fr) env as ds Q := by
  obtain ⟨o, h1, q⟩ := q
  exact ⟨o, by unfold tdA; rw [if_pos ⟨h, hf⟩]; exact h1, q⟩
theorem wtd_C {fr : Td} (h : ixN (as.length + 1) j = some as.length) (q : WTd fr env as [] Q) : WTd (tdC i j fr) env as ds Q := by
  obtain ⟨o, h1, q⟩ := q
  exact ⟨o, by unfold tdC; rw [if_pos h]; exact h1, q⟩
theorem wtd_U {f : Sf} {ia ib : Nat} {d : D} (h : ia ≠ i ∧ ib ≠ i) (q : Nrm ((env.set ia (.val d)).set ib (.own true ds)) fun e => WS f e Q) : WTd (tdU i ia ib f) env [d] ds Q := by
  obtain ⟨o, h1, q⟩ : WS f ((env.set ia (.val d)).set ib (.own true ds)) Q := q
  exact ⟨o, by unfold tdU; dsimp only; rw [if_pos h]; exact h1, q⟩
end
/-! what a body hands back that isn't told -/
section
variable {p : D → Prop} {f g : Sf}
end
end M

namespace M
open PySem PySem.Spec PyProof.Rows L2
/-! ### a new list handed in to be changed, and forgotten -/
def valsA : List Ar → Option (List D)
  | [] => some []
  | .v d :: as => (valsA as).map fun r => d :: r
  | _ :: _ => none
def eCallN (g : Gf) (fl : Lf) (fa : Af) : Ef := fun env => (fl env).bind fun r => (fa r.2).bind fun q => (valsA q.1).bind fun ds => (g (.own false r.1 :: ds.map .val)).map fun w => (w.1, q.2)
section
variable {X : Cx} {k : Nat} {fx : Addr} {fd : FuncData} {ps : List Str} {x : Str} {p pos : Pos} {e : Expr} {es : List Expr} {fa : Af} {fl : Lf} {g : Gf}
end
theorem we_callN {env : En} {g : Gf} {fl : Lf} {fa : Af} {Q : D → En → Prop} (h : WL fl env fun ls e => WA fa e fun ars e2 => WO (valsA ars) fun ds => WG g (.own false ls :: ds.map .val) fun d _ => Q d e2) : WE (eCallN g fl fa) env Q := by
  obtain ⟨ls, e1, h1, ars, e2, h2, ds, h3, d, a', h4, q⟩ := h
  exact ⟨d, e2, by unfold eCallN; simp only [h1, h2, h3, h4, Option.bind_some, Option.map_some], q⟩
theorem vals_nil {Q : List D → Prop} (q : Q []) : WO (valsA []) Q := ⟨_, rfl, q⟩
theorem vals_v {d : D} {as : List Ar} {Q : List D → Prop} (h : WO (valsA as) fun ds => Q (d :: ds)) : WO (valsA (.v d :: as)) Q := by
  obtain ⟨ds, h1, q⟩ := h
  exact ⟨_, by unfold valsA; rw [h1]; rfl, q⟩
end M

namespace M
open PySem PySem.Spec PyProof.Rows L2

/-! ### refusals: a def that may raise -/
/-- an exception: its class, the field it bears -/
structure Xc where
  C : Addr
  fd : Option (Str × Int)
/-- it as a value, once it is caught -/
def xD (x : Xc) : D := .dict [(.int (x.C : Int), match x.fd with
  | none => .none
  | some p => .tuple [.str p.1, .int p.2])]
/-- how it lies while it flies: its dict is newer than H0 -/
def IsX (H0 F H : Hp) (x : Xc) (cls : Value) (d : Option Addr) : Prop := cls = .ref x.C ∧ match x.fd with
  | none => d = none
  | some p => ∃ a, d = some a ∧ H a = some (.xd [(p.1, .int p.2)]) ∧ F a = none ∧ H0 a = none
abbrev Ox := Out ⊕ (Xc × En)
abbrev Sfx := En → Option Ox
abbrev Efx := En → Option ((D × En) ⊕ (Xc × En))
def RSX (K : Frg) (G : Gm) (F : Hp) (E : Ends) (W : WX) : Ox → Prop
  | .inl o => RSx K G F E o
  | .inr (x, env) => ∀ F' s' H' cls d, Ok K G F' env s' H' → Same F F' → IsX G.H0 F' H' x cls d → W cls d s' H'
theorem RSX.up {K : Frg} {G : Gm} {F F' : Hp} {E : Ends} {W : WX} {o : Ox} (s : Same F F') (h : RSX K G F E W o) : RSX K G F' E W o := by
  cases o with
  | inl o => exact RSx.up (F := F) s h
  | inr p =>
    obtain ⟨x, env⟩ := p
    exact fun F2 s2 H2 cls d k e q => h F2 s2 H2 cls d k (s.trans e) q
section
variable {X : Cx}
theorem PS.imp {st : Stmt} {t u : TS} (h : PS X st t) (i : ∀ D s H, u D s H → t D s H) : PS X st u := ⟨fun pins s σ H D I q => h.run pins s σ H D I (i D σ H q)⟩
theorem PSs.imp {st : List Stmt} {t u : TS} (h : PSs X st t) (i : ∀ D s H, u D s H → t D s H) : PSs X st u := ⟨fun pins s σ H D I q => h.run pins s σ H D I (i D σ H q)⟩
theorem PE.imp {e : Expr} {t u : TE} (h : PE X e t) (i : ∀ s H Q, u s H Q → t s H Q) : PE X e u := ⟨fun pins s σ H Q I q => h.run pins s σ H Q I (i σ H Q q)⟩
variable {W : WX} {st : Stmt} {rest : List Stmt} {e : Expr} {f g : Sf} {fx gx : Sfx} {fe : Efx} {pos : Pos}
def sLift (f : Sf) : Sfx := fun env => (f env).map .inl
def sSeqX (f g : Sfx) : Sfx := fun env => (f env).bind fun o => match o with
  | .inl (.nx env1) => g env1
  | o => some o
def sIfX (c : Bf) (f g : Sfx) : Sfx := fun env => (c env).bind fun r => if r.1 then f r.2 else g r.2
/-! ### raise X('..') -/
def sRaise0 (C : Addr) : Sfx := fun env => some (.inr (⟨C, none⟩, env))
/-! ### a def that may raise -/
abbrev Gfx := List Sl → Option ((D × List Sl) ⊕ (Xc × List Sl))
section
variable {P : Program} {w : World} {K : Frg} {mg : Str → Option Value} {base : Heap}
end

/-! ### its call -/
def eCallX (g : Gfx) (fa : Af) : Efx := fun env => (fa env).bind fun r => match rSlots r.1 with
  | [] => (resArs r.2 r.1).bind fun args => (g args).map fun q => match q with
    | .inl (d, _) => .inl (d, r.2)
    | .inr (x, _) => .inr (x, r.2)
  | _ => none
def eUp (f : Efx) (h : D → En → Out) : Sfx := fun env => (f env).map fun r => match r with
  | .inl (d, e) => .inl (h d e)
  | .inr p => .inr p
def sExprX (f : Efx) : Sfx := eUp f fun _ e => .nx e
def sRetX (f : Efx) : Sfx := eUp f fun d e => .rt d e
def sSetX (i : Nat) (f : Efx) : Sfx := eUp f fun d e => .nx (e.set i (.val d))
/-! ### for, in a def that may raise -/
end

/-! ### except D as e: in the suite e is a value -/
section
variable {X : Cx} {x n : Str} {CD : Addr} {i : Nat} {body sts : List Stmt} {st0 : Stmt} {np pos pos' : Pos} {tb : WX → TS} {ts : TS}
end
/-- a reading that hangs on the mirror alone -/
def cS (K : Frg) (f : Sf) : TS := fun E s H => ∃ G F env o, Ok K G F env s H ∧ f env = some o ∧ RSx K G F E o
theorem XSs.can {X : Cx} {sts : List Stmt} {f : Sf} (h : XSs X sts f) : PSs X sts (cS X.K f) := by
  obtain ⟨t, h1, h2⟩ := h.ex
  exact PSs.imp h1 fun E s H ⟨G, F, env, o, k, e, q⟩ => h2 G F env s H o k e E q
def outNo (i : Nat) : Out → Out
  | .nx env => .nx (env.set i .no)
  | o => o
def sTry (cat : Addr → Bool) (i : Nat) (f : Sfx) (g : Sf) : Sf := fun env => (f env).bind fun r => match r with
  | .inl o => some o
  | .inr (x, env1) => if cat x.C then (g (env1.set i (.val (xD x)))).map (outNo i) else none
section
variable {X : Cx} {x n : Str} {CD : Addr} {body sts : List Stmt} {st0 : Stmt} {np pos pos' : Pos} {f : Sfx} {g : Sf}
end

/-! ### isinstance and fields of a caught exception -/
/-- what is told of an exception, by its class; of None it is no -/
def gIsO (tab : List (Addr × Bool)) : D → Option D
  | .none => some (.bool false)
  | .dict [(.int c, _)] => (tab.lookup c.toNat).map .bool
  | _ => none
/-- the classes' answers for one class cv, or for a row of them -/
def TabOk (K : Frg) (tab : List (Addr × Bool)) (cv : Value) : Prop := PySem.W.kitOne K (.type "NoneType") cv = some false ∧ ∀ r ∈ tab, ExcC K r.1 ∧ PySem.W.kitOne K (.ref r.1) cv = some r.2
def TabsOk (K : Frg) (tab : List (Addr × Bool)) (cvs : List Value) : Prop := PySem.W.kitAny K (.type "NoneType") cvs = some false ∧ ∀ r ∈ tab, ExcC K r.1 ∧ PySem.W.kitAny K (.ref r.1) cvs = some r.2
section
variable {X : Cx} {e : Expr} {f : Ef} {p pos p2 : Pos}
/-- a row of own classes -/
inductive PCs (X : Cx) : List Expr → List Value → Prop
  | nil : PCs X [] []
  | cons {y : Str} {p : Pos} {C : Addr} {es : List Expr} {cvs : List Value} (hm : X.mg y = some (.ref C)) (t : PCs X es cvs) (hg : Gl X y := by rfl) (hdb : (y == ("__debug__" : Str)) = false := by decide)
      (he : starEach (.Name y p :: es) X.env = (false, eval (.Name y p) X.env) :: starEach es X.env := by rfl) : PCs X (.Name y p :: es) (.ref C :: cvs)
theorem PCs.pa {es : List Expr} {cvs : List Value} (h : PCs X es cvs) : ∃ t, PA X es t ∧ ∃ cs, Paired ClsV cs cvs ∧ cs.length = es.length ∧ ∀ s H Q, Q cs H → t s H Q := by
  induction h with
  | nil => exact ⟨_, pa_nil, [], .nil, rfl, fun s H Q q => q⟩
  | @cons y p C es cvs hm t hg hdb he ih =>
    obtain ⟨u, h1, cs, h2, h3, h4⟩ := ih
    exact ⟨_, pa_cons (pe_glob (v := .ref C) hg hm rfl hdb) h1 he, .ref C :: cs, .cons (.own C) h2, by simp [h3], fun s H Q q => h4 s H _ q⟩
/-- e.f -/
def gAttr (C : Addr) (n : Str) : D → Option D
  | .dict [(.int c, .tuple [.str g, .int z])] => if decide (c = (C : Int)) && (g == n) then some (.int z) else none
  | _ => none
end
/-! ### the classes' facts -/
theorem any_cons {K : Frg} {t c : Value} {cs : List Value} {b r : Bool} (h : PySem.W.kitOne K t c = some b) (hr : PySem.W.kitAny K t cs = some r) : PySem.W.kitAny K t (c :: cs) = some (b || r) := by
  unfold PySem.W.kitAny
  rw [h]
  cases b with
  | true => rfl
  | false => exact hr
theorem TabOk.nil {K : Frg} {cv : Value} (h : PySem.W.kitOne K (.type "NoneType") cv = some false) : TabOk K [] cv := ⟨h, fun _ z => nomatch z⟩
theorem TabsOk.nil {K : Frg} {cvs : List Value} (h : PySem.W.kitAny K (.type "NoneType") cvs = some false) : TabsOk K [] cvs := ⟨h, fun _ z => nomatch z⟩
end M

namespace M
open PySem PySem.Spec PyProof.Rows L2
/-! ### rules about the mirrors of what may raise -/
structure Px where
  n : En → Prop
  r : D → En → Prop
  l : List D → En → Prop
  x : Xc → En → Prop
def Px.at (Q : Px) : Ox → Prop
  | .inl o => Po.at ⟨Q.n, Q.r, Q.l⟩ o
  | .inr (x, e) => Q.x x e
def WSX (f : Sfx) (env : En) (Q : Px) : Prop := ∃ o, f env = some o ∧ Q.at o
def WEX (f : Efx) (env : En) (Q : D → En → Prop) (X : Xc → En → Prop) : Prop := ∃ o, f env = some o ∧ match o with
  | .inl (d, e) => Q d e
  | .inr (x, e) => X x e
def WGX (g : Gfx) (args : List Sl) (Q : D → List Sl → Prop) (X : Xc → Prop) : Prop := ∃ o, g args = some o ∧ match o with
  | .inl (d, a) => Q d a
  | .inr (x, _) => X x
def CallGX (g : Gfx) (as : List Ar) (e : En) (Q : D → En → Prop) (X : Xc → En → Prop) : Prop := rSlots as = [] ∧ WO (resArs e as) fun args => WGX g args (fun d _ => Q d e) fun x => X x e
section
variable {env : En} {N : En → Prop} {R : D → En → Prop} {L : List D → En → Prop} {X : Xc → En → Prop} {f g : Sfx} {fe : Efx} {c : Bf} {i : Nat}
theorem WGX.mono {g : Gfx} {as : List Sl} {Q Q' : D → List Sl → Prop} {X X' : Xc → Prop} (h : WGX g as Q X) (m1 : ∀ d a, Q d a → Q' d a) (m2 : ∀ x, X x → X' x) : WGX g as Q' X' := by
  obtain ⟨o, h1, h2⟩ := h
  refine ⟨o, h1, ?_⟩
  cases o with
  | inl o => exact m1 _ _ h2
  | inr o => exact m2 _ h2
theorem wsx_lift {f : Sf} (h : WS f env ⟨N, R, L⟩) : WSX (sLift f) env ⟨N, R, L, X⟩ := by
  obtain ⟨o, h1, h2⟩ := h
  exact ⟨.inl o, by unfold sLift; rw [h1]; rfl, h2⟩
theorem wsx_seq (h : WSX f env ⟨fun e => WSX g e ⟨N, R, L, X⟩, R, L, X⟩) : WSX (sSeqX f g) env ⟨N, R, L, X⟩ := by
  obtain ⟨o, h1, h2⟩ := h
  cases o with
  | inr p => exact ⟨.inr p, by unfold sSeqX; rw [h1]; rfl, h2⟩
  | inl o =>
    cases o with
    | nx e =>
      obtain ⟨o, h3, h4⟩ : WSX g e ⟨N, R, L, X⟩ := h2
      exact ⟨o, by unfold sSeqX; rw [h1]; exact h3, h4⟩
    | rt d e => exact ⟨.inl (.rt d e), by unfold sSeqX; rw [h1]; rfl, h2⟩
    | rn d e => exact ⟨.inl (.rn d e), by unfold sSeqX; rw [h1]; rfl, h2⟩
    | rp as ds e => exact ⟨.inl (.rp as ds e), by unfold sSeqX; rw [h1]; rfl, h2⟩
theorem wsx_if (h : WB c env fun b e => IfB b (WSX f e ⟨N, R, L, X⟩) (WSX g e ⟨N, R, L, X⟩)) : WSX (sIfX c f g) env ⟨N, R, L, X⟩ := by
  obtain ⟨b, e, h1, h2⟩ := h
  cases b with
  | true => obtain ⟨o, h3, q⟩ : WSX f e ⟨N, R, L, X⟩ := h2; exact ⟨o, by unfold sIfX; rw [h1]; exact h3, q⟩
  | false => obtain ⟨o, h3, q⟩ : WSX g e ⟨N, R, L, X⟩ := h2; exact ⟨o, by unfold sIfX; rw [h1]; exact h3, q⟩
theorem wsx_raise0 {C : Addr} (h : X ⟨C, none⟩ env) : WSX (sRaise0 C) env ⟨N, R, L, X⟩ := ⟨_, rfl, h⟩
theorem wsx_up {h : D → En → Out} {Q : Px} (w : WEX fe env (fun d e => Q.at (.inl (h d e))) Q.x) : WSX (eUp fe h) env Q := by
  obtain ⟨o, h1, h2⟩ := w
  cases o with
  | inl o => exact ⟨.inl (h o.1 o.2), by unfold eUp; rw [h1]; rfl, h2⟩
  | inr o => exact ⟨.inr o, by unfold eUp; rw [h1]; rfl, h2⟩
theorem wsx_expr (h : WEX fe env (fun _ e => N e) X) : WSX (sExprX fe) env ⟨N, R, L, X⟩ := wsx_up h
theorem wsx_ret (h : WEX fe env R X) : WSX (sRetX fe) env ⟨N, R, L, X⟩ := wsx_up h
theorem wsx_set (h : WEX fe env (fun d e => Nrm (e.set i (.val d)) N) X) : WSX (sSetX i fe) env ⟨N, R, L, X⟩ := wsx_up h
theorem wex_call {g : Gfx} {fa : Af} {Q : D → En → Prop} (h : WA fa env fun as e => CallGX g as e Q X) : WEX (eCallX g fa) env Q X := by
  obtain ⟨as, e, h1, h2, args, h3, o, h4, h5⟩ := h
  cases o with
  | inl o => exact ⟨.inl (o.1, e), by unfold eCallX; simp [h1, h2, h3, h4], h5⟩
  | inr o => exact ⟨.inr (o.1, e), by unfold eCallX; simp [h1, h2, h3, h4], h5⟩
theorem cgx0 {g : Gfx} {as : List Ar} {Q : D → En → Prop} (hr : rSlots as = []) (h : WO (resArs env as) fun args => WGX g args (fun d _ => Q d env) fun x => X x env) : CallGX g as env Q X := ⟨hr, h⟩
theorem ws_try {cat : Addr → Bool} {g : Sf} (h : WSX f env ⟨N, R, L, fun x e => cat x.C = true ∧ WS g (e.set i (.val (xD x))) ⟨fun e => N (e.set i .no), R, L⟩⟩) : WS (sTry cat i f g) env ⟨N, R, L⟩ := by
  obtain ⟨o, h1, h2⟩ := h
  cases o with
  | inl o => exact ⟨o, by unfold sTry; rw [h1]; rfl, h2⟩
  | inr o =>
    obtain ⟨x, e⟩ := o
    obtain ⟨h3, o, h4, h5⟩ : cat x.C = true ∧ WS g (e.set i (.val (xD x))) ⟨fun e => N (e.set i .no), R, L⟩ := h2
    refine ⟨outNo i o, by unfold sTry; rw [h1]; simp [h3, h4], ?_⟩
    cases o <;> exact h5
theorem wo_isO {tab : List (Addr × Bool)} {x : Xc} {b : Bool} {Q : D → Prop} (h : tab.lookup x.C = some b) (q : Q (.bool b)) : WO (gIsO tab (xD x)) Q := ⟨_, by
  unfold gIsO xD
  obtain ⟨C, fd⟩ := x
  have : (Int.toNat (C : Int)) = C := rfl
  simp only [this, h]
  rfl, q⟩
theorem wo_isON {tab : List (Addr × Bool)} {Q : D → Prop} (q : Q (.bool false)) : WO (gIsO tab .none) Q := ⟨_, rfl, q⟩
theorem wo_attr {C : Addr} {n : Str} {z : Int} {Q : D → Prop} (q : Q (.int z)) : WO (gAttr C n (xD ⟨C, some (n, z)⟩)) Q := ⟨_, by unfold gAttr xD; simp, q⟩
end
end M

namespace M
open PySem PySem.Spec PyProof.Rows L2
/-! ### a list unpacked into names -/
def tTL (n : Nat) (r : List D → En → Option En) : Tf := fun d env => match d with
  | .list ds => if ds.length = n then r ds env else none
  | _ => none
theorem wt_unl {env : En} {n : Nat} {r : List D → En → Option En} {ds : List D} {Q : En → Prop} (hl : ds.length = n) (h : WTs r ds env Q) : WT (tTL n r) (.list ds) env Q := by
  obtain ⟨e, h, q⟩ := h
  exact ⟨e, by unfold tTL; simp [hl, h], q⟩
end M

namespace M
open PySem PySem.Spec PyProof.Rows L2
/-! ### dicts: keys as data -/
section
variable {P : Program} {w : World} {F H : Hp} {h : Heap}
end
def isTK (d : D) : Bool := match nkOf d with
  | some (.tup ks) => decide ((NestedKey.tup ks).depth ≤ 8)
  | _ => false
def isLK : D → Bool
  | .str _ => true
  | .int _ => true
  | _ => false
def kmode (kvs : List (D × D)) (kd : D) : Bool := (isTK kd && kvs.all fun p => isTK p.1) || (isLK kd && kvs.all fun p => isLK p.1)
def dFind (kvs : List (D × D)) (kd : D) : Option D := (kvs.find? fun p => decide (nkOf p.1 = nkOf kd)).map (·.2)
def dPut (kvs : List (D × D)) (kd vd : D) : List (D × D) := if (dFind kvs kd).isSome then kvs.map fun p => if nkOf p.1 = nkOf kd then (p.1, vd) else p else kvs ++ [(kd, vd)]
theorem isTK_some {d : D} (h : isTK d = true) : ∃ ks, nkOf d = some (.tup ks) ∧ (NestedKey.tup ks).depth ≤ 8 := by
  unfold isTK at h
  split at h
  · rename_i ks e
    exact ⟨ks, e, of_decide_eq_true h⟩
  · cases h
theorem tk_ref {F : Hp} {v : V} {d : D} (p : Dt F v d) (h : isTK d = true) : ∃ b, v = .ref b := by
  obtain ⟨ks, e, _⟩ := isTK_some h
  cases p with
  | tup s a => exact ⟨_, rfl⟩
  | lst s a => exact ⟨_, rfl⟩
  | xc s => exact ⟨_, rfl⟩
  | xf s a => exact ⟨_, rfl⟩
  | _ => unfold nkOf at e; cases e
/-- entries, data, the kit's entries -/
inductive T3 (F : Hp) (w : World) : List (Int × V × V) → List (D × D) → List (NestedKey × Addr × Value) → Prop
  | nil : T3 F w [] [] []
  | cons {e : Int × V × V} {p : D × D} {x : NestedKey × Addr × Value} {es ps xs} : nkOf p.1 = some x.1 → e.1 = x.1.hash w → e.2.1 = .ref x.2.1 → RelV e.2.2 x.2.2 → Dt F e.2.1 p.1 → Dt F e.2.2 p.2 → T3 F w es ps xs → T3 F w (e :: es) (p :: ps) (x :: xs)
section
variable {F : Hp} {w : World} {es : List (Int × V × V)} {kvs : List (D × D)} {xs : List (NestedKey × Addr × Value)}
theorem T3.len (t : T3 F w es kvs xs) : kvs.length = xs.length := by
  induction t with
  | nil => rfl
  | cons _ _ _ _ _ _ _ ih => simp [ih]
theorem T3.keys (t : T3 F w es kvs xs) : (kvs.map fun p => nkOf p.1) = (xs.map (·.1)).map some := by
  induction t with
  | nil => rfl
  | cons h1 h2 h3 h4 h5 h6 _ ih => rw [List.map_cons, List.map_cons, List.map_cons, ih, h1]
end
/-- what is known of a dict that is looked into -/
structure Look (H : Hp) (w : World) (a : Addr) (y : V) (F : Hp) (es : List (Int × V × V)) (kvs : List (D × D)) (kd : D) : Prop where
  sm : Same F H
  at' : H a = some (DicO a es)
  en : EntsOk F w es kvs
  key : Dt F y kd
  mode : kmode kvs kd = true
section
variable {P : Program} {w : World} {F H : Hp} {h : Heap} {a : Addr} {es : List (Int × V × V)} {kvs : List (D × D)}
end
/-! keys that are texts or numbers -/
def kOf : D → Option Key
  | .int i => some (.inl i)
  | .str x => some (.inr x)
  | _ => none
theorem kOf_nk {d : D} {k : Key} (h : kOf d = some k) : ∃ nk, nkOf d = some nk ∧ (∀ w : World, nk.hash w = keyH w k) ∧ ∀ (e : D) (j : Key), kOf e = some j → (nkOf e = some nk ↔ j = k) := by
  cases d <;> cases h
  · rename_i i
    refine ⟨.num i, by unfold nkOf; rfl, fun w => by unfold NestedKey.hash keyH; rfl, fun e j h => ?_⟩
    cases e <;> cases h
    · unfold nkOf
      exact ⟨fun h => by cases h; rfl, fun h => by cases h; rfl⟩
    · unfold nkOf
      exact ⟨fun h => (by cases h), fun h => (by cases h)⟩
  · rename_i x
    refine ⟨.text x, by unfold nkOf; rfl, fun w => by unfold NestedKey.hash keyH; rfl, fun e j h => ?_⟩
    cases e <;> cases h
    · unfold nkOf
      exact ⟨fun h => (by cases h), fun h => (by cases h)⟩
    · unfold nkOf
      exact ⟨fun h => by cases h; rfl, fun h => by cases h; rfl⟩
inductive L3 (F : Hp) (w : World) : List (Int × V × V) → List (D × D) → List (Key × Value) → Prop
  | nil : L3 F w [] [] []
  | cons {e : Int × V × V} {p : D × D} {x : Key × Value} {es ps xs} : kOf p.1 = some x.1 → e.1 = keyH w x.1 → e.2.1 = kV x.1 → RelV e.2.2 x.2 → Dt F e.2.1 p.1 → Dt F e.2.2 p.2 → L3 F w es ps xs → L3 F w (e :: es) (p :: ps) (x :: xs)
section
variable {F : Hp} {w : World} {es : List (Int × V × V)} {kvs : List (D × D)} {xs : List (Key × Value)}
theorem L3.nd (t : L3 F w es kvs xs) : (xs.map (·.1)).Nodup ↔ (kvs.map fun p => nkOf p.1).Nodup := by
  have mem : ∀ {es : List (Int × V × V)} {kvs : List (D × D)} {xs : List (Key × Value)}, L3 F w es kvs xs → ∀ {p : D} {k : Key}, kOf p = some k → (k ∈ xs.map (·.1) ↔ nkOf p ∈ kvs.map fun p => nkOf p.1) := by
    intro es kvs xs t p k hk
    obtain ⟨nk, n1, _, n3⟩ := kOf_nk hk
    induction t with
    | nil => simp
    | @cons e q x es ps xs h1 h2 h3 h4 h5 h6 _ ih =>
      rw [List.map_cons, List.map_cons, List.mem_cons, List.mem_cons, ih, n1]
      have := n3 q.1 x.1 h1
      constructor
      · rintro (h | h)
        · exact .inl (this.mpr h.symm).symm
        · exact .inr h
      · rintro (h | h)
        · exact .inl (this.mp h.symm).symm
        · exact .inr h
  induction t with
  | nil => simp
  | cons h1 h2 h3 h4 h5 h6 t ih =>
    rw [List.map_cons, List.map_cons, List.nodup_cons, List.nodup_cons]
    exact and_congr (not_congr (mem t h1)) ih
end
section
variable {P : Program} {w : World} {F H : Hp} {h : Heap} {a : Addr} {es : List (Int × V × V)} {kvs : List (D × D)}
end
/-! ### the operations -/
section
variable {X : Cx} {pins : List (Addr × Obj)} {σ : L2.St} {F H : Hp} {s : Shared} {a : Addr} {es : List (Int × V × V)} {kvs : List (D × D)} {kd dd : D} {y z : V} {u r : Value} {A : Around} {E : Value → Shared → Prop}
theorem Look.ref (L : Look H X.w a y F es kvs kd) (h : isTK kd = true) : ∃ b nk, y = .ref b ∧ nkOf kd = some nk ∧ nk.depth ≤ 8 := by
  obtain ⟨b, hb⟩ := tk_ref L.key h
  obtain ⟨ks, q1, q2⟩ := isTK_some h
  exact ⟨b, _, hb, q1, q2⟩
theorem Look.two (L : Look H X.w a y F es kvs kd) : (isTK kd = true ∧ (kvs.all fun p => isTK p.1) = true) ∨ (isLK kd = true ∧ (kvs.all fun p => isLK p.1) = true) := by
  have := L.mode
  unfold kmode at this
  rcases Bool.or_eq_true_iff.mp this with h | h
  · exact .inl (Bool.and_eq_true_iff.mp h)
  · exact .inr (Bool.and_eq_true_iff.mp h)
end
/-! ### readings -/
section
variable {X : Cx} {o i e f : Expr} {pos apos cpos : Pos} {td ty tx : TE}
end
/-! ### slots that hold dicts -/
open Classical in
noncomputable def eDGet2 (w : World) (i : Nat) (fk fx : Ef) : Ef := fun env => if isDct env i = true then (fk env).bind fun r => (fx r.2).bind fun q => match q.2[i]? with
  | some (.dct w' kvs) => if w' = w ∧ kmode kvs r.1 = true then some ((dFind kvs r.1).getD q.1, q.2) else none
  | _ => none
  else none
open Classical in
noncomputable def eDIdx (w : World) (i : Nat) (fk : Ef) : Ef := fun env => if isDct env i = true then (fk env).bind fun r => match r.2[i]? with
  | some (.dct w' kvs) => if w' = w ∧ kmode kvs r.1 = true then (dFind kvs r.1).map fun d => (d, r.2) else none
  | _ => none
  else none
open Classical in
noncomputable def eDIn (w : World) (i : Nat) (fk : Ef) : Ef := fun env => (fk env).bind fun r => match r.2[i]? with
  | some (.dct w' kvs) => if w' = w ∧ kmode kvs r.1 = true then some (.bool (dFind kvs r.1).isSome, r.2) else none
  | _ => none
open Classical in
noncomputable def sDPut (w : World) (i : Nat) (fk fv : Ef) : Sf := fun env => (fv env).bind fun r => if isDct r.2 i = true then (fk r.2).bind fun q => match q.2[i]? with
  | some (.dct w' kvs) => if w' = w ∧ kmode kvs q.1 = true ∧ kvs.length < 1000000 then some (.nx (q.2.set i (.dct w (dPut kvs q.1 r.1)))) else none
  | _ => none
  else none
def sDNew (w : World) (i : Nat) : Sf := fun env => some (.nx (env.set i (.dct w [])))
section
variable {K : Frg} {w : World} {ty tx : TE} {fk fx fv : Ef}
end
section
variable {X : Cx} {x : Str} {p2 p3 pos apos cpos : Pos} {e f ke : Expr} {fk fx fv : Ef}
end
/-! ### to reason about them -/
section
variable {env : En} {w : World} {i : Nat} {fk fx fv : Ef} {kvs : List (D × D)}
theorem we_dget2 {Q : D → En → Prop} {kvs0 : List (D × D)} (h0 : env[i]? = some (.dct w kvs0)) (h : WE fk env fun kd e1 => WE fx e1 fun dd e2 => ∃ kvs, e2[i]? = some (.dct w kvs) ∧ kmode kvs kd = true ∧ Q ((dFind kvs kd).getD dd) e2) : WE (eDGet2 w i fk fx) env Q := by
  obtain ⟨kd, e1, h1, dd, e2, h2, kvs, h3, h4, q⟩ := h
  refine ⟨_, e2, ?_, q⟩
  unfold eDGet2 isDct
  rw [h0]
  simp only [if_true, h1, h2, Option.bind_some, h3, h4, and_self]
theorem we_didx {Q : D → En → Prop} {kvs0 : List (D × D)} (h0 : env[i]? = some (.dct w kvs0)) (h : WE fk env fun kd e1 => ∃ kvs d, e1[i]? = some (.dct w kvs) ∧ kmode kvs kd = true ∧ dFind kvs kd = some d ∧ Q d e1) : WE (eDIdx w i fk) env Q := by
  obtain ⟨kd, e1, h1, kvs, d, h3, h4, h5, q⟩ := h
  refine ⟨d, e1, ?_, q⟩
  unfold eDIdx isDct
  rw [h0]
  simp only [if_true, h1, Option.bind_some, h3, h4, and_self, h5, Option.map_some]
theorem we_din {Q : D → En → Prop} (h : WE fk env fun kd e1 => ∃ kvs, e1[i]? = some (.dct w kvs) ∧ kmode kvs kd = true ∧ Q (.bool (dFind kvs kd).isSome) e1) : WE (eDIn w i fk) env Q := by
  obtain ⟨kd, e1, h1, kvs, h3, h4, q⟩ := h
  refine ⟨_, e1, ?_, q⟩
  unfold eDIn
  simp only [h1, Option.bind_some, h3, h4, and_self, if_true]
theorem ws_dput {N : En → Prop} {R : D → En → Prop} {L : List D → En → Prop} (h : WE fv env fun vd e1 => isDct e1 i = true ∧ WE fk e1 fun kd e2 => ∃ kvs, e2[i]? = some (.dct w kvs) ∧ kmode kvs kd = true ∧ kvs.length < 1000000 ∧ Nrm (e2.set i (.dct w (dPut kvs kd vd))) N) : WS (sDPut w i fk fv) env ⟨N, R, L⟩ := by
  obtain ⟨vd, e1, h1, h0, kd, e2, h2, kvs, h3, h4, h5, q⟩ := h
  refine ⟨.nx _, ?_, q⟩
  unfold sDPut
  simp only [h1, Option.bind_some, h0, if_true, h2, h3, h4, h5, and_self]
theorem ws_dnew {N : En → Prop} {R : D → En → Prop} {L : List D → En → Prop} (q : Nrm (env.set i (.dct w [])) N) : WS (sDNew w i) env ⟨N, R, L⟩ := ⟨.nx _, rfl, q⟩
end
end M

namespace M
open PySem PySem.Spec PyProof.Rows L2
/-! ### own lists as values while an expression runs whose answer holds no list -/
def eBorL (f : Ef) : Ef := fun env => (f (unowns env)).bind fun r => if lfree r.1 then some (r.1, env) else none
section
variable {K : Frg} {G : Gm} {F F' : Hp} {env env' : En} {s : L2.St} {H H' : Hp}
end
theorem we_borL {f : Ef} {env : En} {Q : D → En → Prop} (h : Nrm (unowns env) fun e => WE f e fun d _ => lfree d = true ∧ Q d env) : WE (eBorL f) env Q := by
  obtain ⟨d, e, h1, h2, q⟩ := h
  exact ⟨d, env, by unfold eBorL; rw [h1]; simp [h2], q⟩
end M

namespace M
open PySem PySem.Spec PyProof.Rows L2
/-! ### for x in [xs, e]: looks, xs the def's own list -/
theorem unowns_map : ∀ env : En, unowns env = env.map unown
  | [] => rfl
  | x :: xs => by
    unfold unowns
    rw [unowns_map xs]
    rfl
theorem own_look {K : Frg} {G : Gm} {F H : Hp} {env : En} {s : L2.St} {i j : Nat} {l : Bool} {ds : List D} {a : Addr} (k : Ok K G F env s H) (hi : env[i]? = some (.own l ds)) (ha : s[i]? = some (some (.ref a))) (hj : s[j]? = some (some (.ref a))) :
    ∃ G' F1, Ok K G' F1 ((unowns env).set j (.val (.list ds))) s H ∧ Same F F1 ∧ ∀ F' H' env', Ok K G' F' env' s H' → Same F1 F' → Ok K G F env s H' := by
  have kb := ok_bor k
  rw [← unowns_map] at kb
  have hu : (unowns env)[i]? = some (.val (.list ds)) := by
    rw [unowns_map, List.getElem?_map, hi]
    rfl
  obtain ⟨v, h1, h2⟩ := kb.val i _ hu
  rw [ha] at h1
  cases h1
  exact ⟨_, _, ok_know kb hj h2, fb_same k, fun F' H' env' k' e => ok_unbor k k' e⟩
theorem all_look {K : Frg} {G : Gm} {F H : Hp} {env : En} {s : L2.St} (k : Ok K G F env s H) :
    ∃ G' F1, Ok K G' F1 (unowns env) s H ∧ Same F F1 ∧ ∀ F' H' env', Ok K G' F' env' s H' → Same F1 F' → Ok K G F env s H' :=
  ⟨_, _, by rw [unowns_map]; exact ok_bor k, fb_same k, fun F' H' env' k' e => ok_unbor k k' e⟩
def sForTw (i j : Nat) (fe : Ef) (look : Gpu) : Sf := fun env => match env[i]? with
  | some (.own _ _) => if i ≠ j ∧ j < env.length then (fe env).bind fun r => match r.2[i]? with
    | some (.own _ ds) => (look ((unowns (r.2.set j .no)).set j (.val (.list ds)))).bind fun q => match q with
      | some d => if flatD d then some (.rt d (r.2.set j .no)) else none
      | none => (look (unowns (r.2.set j (.val r.1)))).bind fun q => match q with
        | some d => if flatD d then some (.rt d (r.2.set j (.val r.1))) else none
        | none => some (.nx (r.2.set j (.val r.1)))
    | _ => none
    else none
  | _ => none
theorem xs_forTw {X : Cx} (i j : Nat) {x y : Str} {px py lpos pos : Pos} {e : Expr} {st : Stmt} {fe : Ef} {look : Gpu} (hp : PassesOwn (model X.prog X.w) X.A X.env X.xe) (he : XE X e fe) (hb : XPu X st look) (hNd : X.N.Nodup)
    (hN : X.N[i]? = some x := by rfl) (hv : Vis X.env.scope x := by first | exact Or.inl rfl | exact Or.inr (Or.inl rfl) | exact Or.inr (Or.inr rfl)) (hd : (x == ("__debug__" : Str)) = false := by decide) (hcd : (x == ("__classdict__" : Str)) = false := by decide)
    (hi : X.N[j]? = some y := by rfl) (hx : Loc X.env.scope y := by first | exact Or.inl rfl | exact Or.inr rfl) (hf : X.fn y = true ∨ X.env.scope.names.lookup y = some .local := by first | exact .inl rfl | exact .inr rfl | assumption)
    (hs1 : starEach [.Name x px, e] X.env = (false, eval (.Name x px) X.env) :: starEach [e] X.env := by rfl) (hs2 : starEach [e] X.env = (false, eval e X.env) :: starEach [] X.env := by rfl)
    (hc : X.calm = true := by rfl) (hs : ∀ z, foldedSetIterable (.List [.Name x px, e] lpos) X.env z = pure z := by intro _; rfl) : XS X (.For (.Name y py) (.List [.Name x px, e] lpos) [st] [] pos) (sForTw i j fe look) := by
  obtain ⟨te, p1, q1⟩ := he.ex
  obtain ⟨tb, p3, q3⟩ := hb.ex
  refine ⟨_, ps_for hp hc (pi_list (pe_lst (pa_cons (pe_var hN hv hd hcd) (pa_cons p1 pa_nil hs2) hs1))) (pg_name hNd hi hx hf) (pss_one p3) hs, fun G F env s H o k e0 E q => ?_⟩
  unfold sForTw at e0
  split at e0
  · rename_i l ds h0
    split at e0
    · rename_i hne
      obtain ⟨hne, hjl⟩ := hne
      obtain ⟨⟨d2, env1⟩, h1, e1⟩ := Option.bind_eq_some_iff.mp e0
      dsimp only at e1
      split at e1
      · rename_i l2 ds2 h2
        obtain ⟨r1, h3, e1⟩ := Option.bind_eq_some_iff.mp e1
        obtain ⟨a, us, ha, _⟩ := k.own i l ds h0
        refine ⟨_, ha, ?_⟩
        refine q1 G F env s H d2 env1 k h1 _ fun F1 H1 v2 k1 s1 pd2 => ?_
        refine ⟨fits_line (n := 2) rfl, fun p hp => ?_⟩
        refine ⟨p, rfl, ⟨_, SqL.of upd_same⟩, ?_⟩
        have k2 : Ok X.K G (upd F1 p (.lst [.ref a, v2])) env1 s (upd H1 p (.lst [.ref a, v2])) := k1.alloc hp
        have hF2 : (upd F1 p (HO.lst [.ref a, v2])) p = some (.lst [.ref a, v2]) := upd_same
        have s2 : Same F (upd F1 p (.lst [.ref a, v2])) := s1.trans (same_upd (k1.fr.free hp))
        have pd3 : Dt (upd F1 p (.lst [.ref a, v2])) v2 d2 := Dt.mono (same_upd (k1.fr.free hp)) d2 v2 pd2
        generalize upd F1 p (HO.lst [.ref a, v2]) = F2 at *
        generalize upd H1 p (HO.lst [.ref a, v2]) = H2 at *
        have hjs : j < s.length := by rw [k.len]; exact hjl
        refine for_it (walk_list (K := X.K) (a := p) (xs := [.ref a, v2])) (fun n σ H' => (n = 0 ∧ σ = s ∧ Ok X.K G F2 env1 σ H') ∨ (n = 1 ∧ σ = s.set j (some (.ref a)) ∧ look ((unowns (env1.set j .no)).set j (.val (.list ds2))) = some none ∧ Ok X.K G F2 (env1.set j .no) σ H') ∨ (n = 2 ∧ look ((unowns (env1.set j .no)).set j (.val (.list ds2))) = some none ∧ look (unowns (env1.set j (.val d2))) = some none ∧ Ok X.K G F2 (env1.set j (.val d2)) σ H')) (.inl ⟨rfl, rfl, k2⟩) (fun n σ H' hn hI => ?_) (fun n x' σ H' H'' hn hI y => ?_) fun σ H' hI => ?_
        · rcases hI with ⟨_, _, kk⟩ | ⟨_, _, _, kk⟩ | ⟨_, _, _, kk⟩ <;> exact SqL.of (kk.fr _ _ hF2)
        · obtain ⟨rfl, hx⟩ := y
          rcases hI with ⟨rfl, rfl, kk⟩ | ⟨rfl, rfl, hl1, kk⟩ | ⟨rfl, _⟩
          · cases hx
            have k0 := ok_forget (i := j) (x := some (.ref a)) kk
            obtain ⟨G', F3, k3, s3, back⟩ := own_look (j := j) k0 (by rw [List.getElem?_set_ne (Ne.symm hne)]; exact h2) (by rw [List.getElem?_set_ne (Ne.symm hne)]; exact ha) (by rw [List.getElem?_set_self hjs])
            refine q3 G' F3 _ _ H'' r1 k3 h3 _ (fun hr F4 H4 k4 s4 => ?_) (fun d hr => ?_)
            · subst hr
              exact .inr (.inl ⟨rfl, rfl, h3, back F4 H4 _ k4 s4⟩)
            · subst hr
              dsimp only at e1
              split at e1
              · rename_i hf
                cases e1
                exact ⟨hf, fun F4 H4 v k4 s4 p4 => q F2 _ H4 v (back F4 H4 _ k4 s4) s2 (dt_flat p4 hf)⟩
              · cases e1
          · cases hx
            rw [h3] at hl1
            cases hl1
            dsimp only at e1
            obtain ⟨r2, h5, e1⟩ := Option.bind_eq_some_iff.mp e1
            have k0 := ok_set (i := j) kk pd3
            rw [List.set_set, List.set_set] at k0
            obtain ⟨G', F3, k3, s3, back⟩ := all_look k0
            show tb _ ((s.set j (some (.ref a))).set j (some v2)) H''
            rw [List.set_set]
            refine q3 G' F3 _ _ H'' r2 k3 h5 _ (fun hr F4 H4 k4 s4 => ?_) (fun d hr => ?_)
            · subst hr
              exact .inr (.inr ⟨rfl, h3, h5, back F4 H4 _ k4 s4⟩)
            · subst hr
              dsimp only at e1
              split at e1
              · rename_i hf
                cases e1
                exact ⟨hf, fun F4 H4 v k4 s4 p4 => q F2 _ H4 v (back F4 H4 _ k4 s4) s2 (dt_flat p4 hf)⟩
              · cases e1
          · exact absurd hn (Nat.lt_irrefl 2)
        · rcases hI with ⟨h, _⟩ | ⟨h, _⟩ | ⟨_, hl1, hl2, kk⟩
          · cases h
          · cases h
          · rw [h3] at hl1
            cases hl1
            dsimp only at e1
            rw [hl2] at e1
            cases e1
            exact q F2 σ H' kk s2
      · cases e1
    · cases e0
  · cases e0
theorem ws_forTw {env : En} {i j : Nat} {l : Bool} {ds0 : List D} {fe : Ef} {look : Gpu} {N : En → Prop} {R : D → En → Prop} {L : List D → En → Prop} (h0 : env[i]? = some (.own l ds0)) (hne : i ≠ j ∧ j < env.length)
    (h : WE fe env fun d2 e1 => Own e1[i]? fun _ ds => Nrm ((unowns (e1.set j .no)).set j (.val (.list ds))) fun e2 => WPu look e2 (Nrm (unowns (e1.set j (.val d2))) fun e3 => WPu look e3 (Nrm (e1.set j (.val d2)) N) fun _ => False) fun _ => False) : WS (sForTw i j fe look) env ⟨N, R, L⟩ := by
  obtain ⟨d2, e1, h1, b, ds, h2, r1, h3, h⟩ := h
  cases r1 with
  | some d => exact h.elim
  | none =>
    obtain ⟨r2, h4, h⟩ := h
    cases r2 with
    | some d => exact h.elim
    | none =>
      refine ⟨.nx _, ?_, h⟩
      unfold sForTw
      rw [h0]
      simp only [h1, Option.bind_some, h2, h3, h4, hne, ne_eq, not_false_eq_true, and_self, if_true]
/-! ### a list that may be the def's own, turned round -/
def lRevO (f : Ef) : Lf := fun env => (f env).bind fun r => match r.1 with
  | .list ds => some (ds.reverse, r.2)
  | _ => none
theorem xn_revO {X : Cx} {a : Expr} {fa : Ef} {k : Nat} {p1 p2 p3 pos : Pos} (ha : XO X a fa) : XN X (.Subscript a (.Slice none none (some (.UnaryOp .USub (.Constant (.int 1) k p1) p2)) p3) pos) (lRevO fa) := by
  obtain ⟨ta, h1, h2⟩ := ha.ex
  refine ⟨_, pe_revL h1, fun G F env s H ds env' k e Q q => ?_⟩
  unfold lRevO at e
  obtain ⟨⟨d1, e1⟩, g1, e⟩ := Option.bind_eq_some_iff.mp e
  refine h2 G F env s H d1 e1 k g1 _ fun F1 H1 v1 k1 s1 p1 => ?_
  dsimp only at e
  split at e
  · cases e
    obtain ⟨a, vs, rfl, h3, h4⟩ := p1.list k1.fr
    exact ⟨a, vs, rfl, h3, fun p hp => q F1 _ p _ (k1.laid hp) s1 upd_same (k1.fr.free hp) (k1.dom p hp) (k1.pin.free hp) (k1.notown hp) h4.rev⟩
  · cases e
theorem wl_revO {f : Ef} {env : En} {Q : List D → En → Prop} (h : WE f env fun x e => ∃ ds, x = .list ds ∧ Q ds.reverse e) : WL (lRevO f) env Q := by
  obtain ⟨x, e, h1, ds, rfl, q⟩ := h
  exact ⟨_, e, by unfold lRevO; rw [h1]; rfl, q⟩
end M

namespace M
open PySem PySem.Spec PyProof.Rows L2
/-! ### clocks as data -/
abbrev Hd := Int × Int × Str
def hD (h : Hd) : D := .tuple [.int h.1, .int h.2.1, .str h.2.2]
def isLk (x : Str) : Prop := ∃ c : Nat, 97 ≤ c ∧ c ≤ 122 ∧ x = ⟨#[c]⟩
def HandsOk (m : Int) (hs : List Hd) : Prop := ∀ h ∈ hs, 0 ≤ h.1 ∧ h.1 < m ∧ 0 ≤ h.2.1 ∧ h.2.1 < m ∧ isLk h.2.2
abbrev clockD (m : Int) (hs : List Hd) (b r : Bool) : D := .tuple [.int m, .tuple (hs.map hD), .bool b, .bool r]
def tO (o : List Nat) : D := .tuple (o.map fun (j : Nat) => PyData.int (j : Int))
/-! shapes -/
def Lay (n : Nat) (d : D) : Prop := d.canLay0 = true ∧ d.depth ≤ n
theorem lay_int {n : Nat} (i : Int) : Lay n (.int i) := ⟨rfl, Nat.zero_le _⟩
theorem lay_lk {n : Nat} {x : Str} (h : isLk x) : Lay n (.str x) := by
  obtain ⟨c, h1, h2, rfl⟩ := h
  refine ⟨?_, Nat.zero_le _⟩
  have : ∀ k : Fin 26, PyData.strOk ⟨#[97 + k.val]⟩ = true := by decide +kernel
  have := this ⟨c - 97, by omega⟩
  rw [show 97 + (⟨c - 97, by omega⟩ : Fin 26).val = c from by show 97 + (c - 97) = c; omega] at this
  exact this
theorem lay_all {n : Nat} : ∀ {ds : List D}, (∀ d ∈ ds, Lay n d) → PyData.canLayAll0 ds = true ∧ PyData.depthAll ds ≤ n
  | [], _ => ⟨rfl, Nat.zero_le _⟩
  | d :: ds, h => by
    obtain ⟨h1, h2⟩ := h d List.mem_cons_self
    obtain ⟨h3, h4⟩ := lay_all (ds := ds) fun e he => h e (List.mem_cons_of_mem _ he)
    refine ⟨?_, ?_⟩
    · show (PyData.canLay0 d && PyData.canLayAll0 ds) = true
      rw [h1, h3]; rfl
    · show max d.depth (PyData.depthAll ds) ≤ n
      omega
theorem lay_tup {n : Nat} {ds : List D} (h : ∀ d ∈ ds, Lay n d) : Lay (n + 1) (.tuple ds) := by
  obtain ⟨h1, h2⟩ := lay_all h
  refine ⟨h1, ?_⟩
  show PyData.depthAll ds + 1 ≤ n + 1
  omega
theorem lay_lst {n : Nat} {ds : List D} (h : ∀ d ∈ ds, Lay n d) : Lay (n + 1) (.list ds) := by
  obtain ⟨h1, h2⟩ := lay_all h
  refine ⟨h1, ?_⟩
  show PyData.depthAll ds + 1 ≤ n + 1
  omega
theorem Lay.shp {n : Nat} {d : D} (h : Lay n d) (hn : n ≤ 64) : M.shp d = true := by
  unfold M.shp SeqAt.shaped
  rw [h.1, decide_eq_true (show d.depth ≤ 64 by have := h.2; omega)]
  rfl
theorem Lay.mono {n m : Nat} {d : D} (h : Lay n d) (hn : n ≤ m) : Lay m d := ⟨h.1, Nat.le_trans h.2 hn⟩
theorem lay_all2 {n : Nat} {d e : D} (h1 : Lay n d) (h2 : Lay n e) : ∀ x ∈ [d, e], Lay n x := fun x hx => by
  simp only [List.mem_cons, List.not_mem_nil, or_false] at hx
  rcases hx with rfl | rfl
  · exact h1
  · exact h2
theorem lay_ints {n : Nat} (ns : List Int) : Lay (n + 1) (.list (ns.map .int)) := lay_lst fun d hd => by
  obtain ⟨j, _, rfl⟩ := List.mem_map.mp hd
  exact lay_int _

/-! letters -/
def letters : List Nat := [97, 98, 99, 100, 101, 102, 103, 104, 105, 106, 107, 108, 109, 110, 111, 112, 113, 114, 115, 116, 117, 118, 119, 120, 121, 122]
theorem eqv_str {x y : Str} : PyData.eqv (.str x) (.str y) = decide (x = y) := by
  unfold PyData.eqv
  by_cases h : x = y
  · subst h; simp
  · simp [h]
theorem wo_eqS {x y : Str} {Q : D → Prop} (hx : isLk x) (hy : isLk y) (q : Q (.bool (decide (x = y)))) : WO (gEq (.str x) (.str y)) Q :=
  wo_eqD ((lay_lk (n := 0) hx).shp (by omega)) ((lay_lk (n := 0) hy).shp (by omega)) (by rw [eqv_str]; exact q)
theorem wo_popAt {ds : List D} {k : Int} {Q : List D × D → Prop} (h0 : 0 ≤ k) (h1 : k < ds.length) (hl : ds.length < 4611686018427387904) (q : ∀ d, ds[k.toNat]? = some d → d ∈ ds → Q (ds.eraseIdx k.toNat, d)) : WO (mPopAt ds (.int k)) Q := by
  have hk : k.toNat < ds.length := by omega
  refine ⟨(ds.eraseIdx k.toNat, ds[k.toNat]), ?_, q _ (List.getElem?_eq_getElem hk) (List.getElem_mem _)⟩
  have e : seqIndex? k ds.length = some k.toNat := by
    unfold seqIndex?
    simp [show ¬ k < 0 by omega, h0, h1]
  unfold mPopAt
  dsimp only
  rw [if_pos (by simp; omega), e]
  simp [List.getElem?_eq_getElem hk]
/-! ### swaps -/
def nextS (looks : List Str) (l : Str) (some_ : List Nat) : List (List Nat) := ((List.range looks.length).filter fun j => decide (j ∉ some_) && decide (looks[j]? = some l)).map fun j => some_ ++ [j]
def swapsGo (looks : List Str) : List Str → List (List Nat) → List (List Nat)
  | [], acc => acc
  | l :: ls, acc => swapsGo looks ls (acc.flatMap (nextS looks l))
def swapsL (looks : List Str) : List (List Nat) := swapsGo looks looks [[]]
theorem swapsGo_snoc (looks : List Str) (l : Str) : ∀ (ls : List Str) (acc : List (List Nat)), swapsGo looks (ls ++ [l]) acc = (swapsGo looks ls acc).flatMap (nextS looks l)
  | [], _ => rfl
  | k :: ls, acc => swapsGo_snoc looks l ls _
theorem flatMap_len {α β : Type} {f : α → List β} {n : Nat} : ∀ {l : List α}, (∀ x ∈ l, (f x).length ≤ n) → (l.flatMap f).length ≤ l.length * n
  | [], _ => by simp
  | x :: l, h => by
    rw [List.flatMap_cons, List.length_append, List.length_cons, Nat.add_mul, Nat.one_mul]
    have h1 := h x List.mem_cons_self
    have h2 := flatMap_len (l := l) fun y hy => h y (List.mem_cons_of_mem _ hy)
    omega
theorem nextS_len (looks : List Str) (l : Str) (o : List Nat) : (nextS looks l o).length ≤ looks.length := by
  unfold nextS
  rw [List.length_map]
  have := List.length_filter_le (fun j => decide (j ∉ o) && decide (looks[j]? = some l)) (List.range looks.length)
  rw [List.length_range] at this
  exact this
theorem swapsGo_len (looks : List Str) (hn : looks.length ≤ 5) : ∀ (k : Nat), k ≤ looks.length → (swapsGo looks (looks.take k) [[]]).length ≤ 5 ^ k
  | 0, _ => by simp [swapsGo]
  | k + 1, h => by
    have hk : k < looks.length := by omega
    rw [List.take_succ_eq_append_getElem hk, swapsGo_snoc]
    have ih := swapsGo_len looks hn k (by omega)
    have h2 := flatMap_len (f := nextS looks looks[k]) (n := 5) (l := swapsGo looks (looks.take k) [[]]) fun x _ => Nat.le_trans (nextS_len _ _ _) hn
    rw [Nat.pow_succ]
    omega
theorem pow5 {k : Nat} (h : k ≤ 5) : (5 : Nat) ^ k ≤ 3125 := by
  have := Nat.pow_le_pow_right (show 0 < 5 by omega) h
  exact this
/-- what holds of each swap -/
structure SwOk (n : Nat) (o : List Nat) : Prop where
  len : o.length = n
  lt : ∀ j ∈ o, j < n
  nd : o.Nodup
theorem swapsGo_ok (looks : List Str) : ∀ (k : Nat), k ≤ looks.length → ∀ o ∈ swapsGo looks (looks.take k) [[]], o.length = k ∧ (∀ j ∈ o, j < looks.length) ∧ o.Nodup ∧ ∀ i, i < k → ∃ j, o[i]? = some j ∧ looks[j]? = looks[i]?
  | 0, _, o, ho => by
    rw [List.take_zero] at ho
    simp only [swapsGo, List.mem_singleton] at ho
    subst ho
    exact ⟨rfl, fun j hj => (by cases hj), List.nodup_nil, fun i hi => absurd hi (Nat.not_lt_zero _)⟩
  | k + 1, h, o, ho => by
    have hk : k < looks.length := by omega
    rw [List.take_succ_eq_append_getElem hk, swapsGo_snoc] at ho
    obtain ⟨p, hp, hx⟩ := List.mem_flatMap.mp ho
    obtain ⟨h1, h2, h3, h4⟩ := swapsGo_ok looks k (by omega) p hp
    unfold nextS at hx
    obtain ⟨j, hj, rfl⟩ := List.mem_map.mp hx
    obtain ⟨hj1, hj2⟩ := List.mem_filter.mp hj
    simp only [Bool.and_eq_true, decide_eq_true_eq] at hj2
    refine ⟨by simp [h1], fun i hi => ?_, ?_, fun i hi => ?_⟩
    · rcases List.mem_append.mp hi with hi | hi
      · exact h2 i hi
      · rw [List.mem_singleton] at hi; subst hi; exact List.mem_range.mp hj1
    · refine List.nodup_append.mpr ⟨h3, by simp, fun a ha b hb e => ?_⟩
      rw [List.mem_singleton] at hb
      subst hb; subst e
      exact hj2.1 ha
    · by_cases hi' : i < k
      · obtain ⟨j', e1, e2⟩ := h4 i hi'
        exact ⟨j', by rw [List.getElem?_append_left (by omega)]; exact e1, e2⟩
      · have : i = k := by omega
        subst this
        refine ⟨j, by rw [List.getElem?_append_right (by omega), h1]; simp, ?_⟩
        rw [hj2.2, List.getElem?_eq_getElem hk]
theorem swapsL_ok {looks : List Str} {o : List Nat} (h : o ∈ swapsL looks) : SwOk looks.length o ∧ ∀ i, i < looks.length → ∃ j, o[i]? = some j ∧ looks[j]? = looks[i]? := by
  have := swapsGo_ok looks looks.length (Nat.le_refl _)
  rw [List.take_length] at this
  obtain ⟨h1, h2, h3, h4⟩ := this o h
  exact ⟨⟨h1, h2, h3⟩, h4⟩
/-- the first one is the plain one -/
theorem filter_first {p : Nat → Bool} {n k : Nat} (hk : k < n) (h1 : ∀ j, j < k → p j = false) (h2 : p k = true) : ∃ r, (List.range n).filter p = k :: r := by
  obtain ⟨d, rfl⟩ : ∃ d, n = k + (d + 1) := ⟨n - k - 1, by omega⟩
  rw [List.range_add, List.filter_append]
  have : (List.range k).filter p = [] := List.filter_eq_nil_iff.mpr fun j hj => by rw [h1 j (List.mem_range.mp hj)]; simp
  rw [this, List.nil_append, List.range_succ_eq_map, List.map_cons, Nat.add_zero, List.filter_cons_of_pos h2]
  exact ⟨_, rfl⟩
theorem swapsGo_head (looks : List Str) : ∀ (k : Nat), k ≤ looks.length → ∃ r, swapsGo looks (looks.take k) [[]] = List.range k :: r
  | 0, _ => ⟨[], by simp [swapsGo]⟩
  | k + 1, h => by
    have hk : k < looks.length := by omega
    obtain ⟨r, e⟩ := swapsGo_head looks k (by omega)
    rw [List.take_succ_eq_append_getElem hk, swapsGo_snoc, e, List.flatMap_cons]
    obtain ⟨r2, e2⟩ := filter_first (p := fun j => decide (j ∉ List.range k) && decide (looks[j]? = some looks[k])) (n := looks.length) (k := k) hk (fun j hj => by simp [hj]) (by simp [List.getElem?_eq_getElem hk])
    unfold nextS
    rw [e2, List.map_cons, List.cons_append, List.range_succ]
    exact ⟨_, rfl⟩
theorem swapsL_head (looks : List Str) : ∃ r, swapsL looks = List.range looks.length :: r := by
  have := swapsGo_head looks looks.length (Nat.le_refl _)
  rw [List.take_length] at this
  exact this
/-! readings -/
abbrev Rd := List Nat × Bool
def rD (r : Rd) : D := .tuple [tO r.1, .bool r.2]
def readL (mir : Bool) (sw : List (List Nat)) : List Rd := sw.flatMap fun o => if mir then [(o, false), (o, true)] else [(o, false)]
theorem readL_snoc (mir : Bool) (sw : List (List Nat)) (o : List Nat) : readL mir (sw ++ [o]) = readL mir sw ++ (if mir then [(o, false), (o, true)] else [(o, false)]) := by
  unfold readL
  simp
theorem readL_len (mir : Bool) (sw : List (List Nat)) : (readL mir sw).length ≤ sw.length * 2 := by
  unfold readL
  exact flatMap_len fun x _ => by cases mir <;> simp
theorem readL_mem {mir : Bool} {sw : List (List Nat)} {r : Rd} (h : r ∈ readL mir sw) : r.1 ∈ sw ∧ (r.2 = true → mir = true) := by
  unfold readL at h
  obtain ⟨o, ho, hr⟩ := List.mem_flatMap.mp h
  cases mir
  · simp only [Bool.false_eq_true, if_false, List.mem_singleton] at hr; subst hr; exact ⟨ho, fun z => by cases z⟩
  · simp only [if_true, List.mem_cons, List.not_mem_nil, or_false] at hr
    rcases hr with rfl | rfl
    · exact ⟨ho, fun _ => rfl⟩
    · exact ⟨ho, fun _ => rfl⟩
theorem readL_head {mir : Bool} {o : List Nat} {r : List (List Nat)} : ∃ t, readL mir (o :: r) = (o, false) :: t := by
  unfold readL
  cases mir
  · exact ⟨_, rfl⟩
  · exact ⟨_, rfl⟩
abbrev looksOf (hs : List Hd) : List Str := hs.map fun h => h.2.2
abbrev readOf (hs : List Hd) (mir : Bool) : List Rd := readL mir (swapsL (looksOf hs))
/-! rows -/
abbrev Rw := Int × Int × Int
def rwD (r : Rw) : D := .tuple [.int r.1, .int r.2.1, .int r.2.2]
def sgn (mir : Bool) : Int := if mir then -1 else 1
def row1 (m : Int) (hs : List Hd) (mir : Bool) (j : Nat) (h : Hd) : Rw := ((hs.getD j (0, 0, ⟨#[]⟩)).1, sgn mir * h.1 % m, (sgn mir * h.2.1 - (hs.getD j (0, 0, ⟨#[]⟩)).2.1) % m)
def rows0 (m : Int) (hs : List Hd) (r : Rd) : List Rw := List.zipWith (row1 m hs r.2) r.1 hs
def lessR (m : Int) (a b : Rw) : Rw := ((a.1 - b.1) % m, (a.2.1 - b.2.1) % m, (a.2.2 - b.2.2) % m)
def rowsL (m : Int) (hs : List Hd) (bl : Bool) (r : Rd) : List Rw := if bl then (rows0 m hs r).tail.map (fun x => lessR m x ((rows0 m hs r).headD (0, 0, 0))) else rows0 m hs r
/-! ### rules for tuples of numbers of hands -/
theorem eqv_nat {a b : Nat} : PyData.eqv (.int (a : Int)) (.int (b : Int)) = decide (a = b) := by
  rw [eqv_int]
  exact decide_eq_decide.mpr ⟨fun h => by omega, fun h => by omega⟩
theorem any_tO (j : Nat) : ∀ o : List Nat, ((o.map fun (j : Nat) => PyData.int (j : Int)).any fun e => PyData.eqv e (.int (j : Int))) = decide (j ∈ o)
  | [] => by simp
  | a :: o => by
    rw [List.map_cons, List.any_cons, any_tO j o, eqv_nat, ← Bool.decide_or]
    refine decide_eq_decide.mpr ?_
    rw [List.mem_cons]
    constructor
    · rintro (h | h)
      · exact .inl h.symm
      · exact .inr h
    · rintro (h | h)
      · exact .inl h.symm
      · exact .inr h
theorem flat_tO (o : List Nat) : (o.map fun (j : Nat) => PyData.int (j : Int)).all flatD = true := by
  rw [List.all_map]
  exact List.all_eq_true.mpr fun _ _ => rfl
theorem wo_niO {j : Nat} {o : List Nat} {Q : D → Prop} (q : Q (.bool (decide (j ∉ o)))) : WO (gNi (.int (j : Int)) (tO o)) Q := by
  refine ⟨_, ?_, q⟩
  unfold gNi tO isIn
  dsimp only
  rw [if_pos (by rw [flat_tO]; rfl), any_tO]
  simp
theorem wo_idxHs {hs : List Hd} {j : Nat} {Q : D → Prop} (h : j < hs.length) (q : Q (hD hs[j])) : WO (gIdx (.tuple (hs.map hD)) (.int (j : Int))) Q := by
  refine wo_idxT (by omega) (by rw [List.length_map]; omega) fun d hd _ => ?_
  rw [List.getElem?_map, Int.toNat_natCast, List.getElem?_eq_getElem h] at hd
  cases hd
  exact q
theorem wo_addO {o : List Nat} {j : Nat} {Q : D → Prop} (h : o.length ≤ 1000000) (q : Q (tO (o ++ [j]))) : WO (gAdd (tO o) (.tuple [.int (j : Int)])) Q := by
  unfold tO
  refine wo_addT (fits_of (by simp; omega)) ?_
  unfold tO at q
  rw [List.map_append] at q
  exact q
theorem pairs_len (xs ys : List D) : (pairs xs ys).length = min xs.length ys.length := by unfold pairs; rw [List.length_map, List.length_zip]
theorem pairs_get {xs ys : List D} {k : Nat} {d : D} (h : (pairs xs ys)[k]? = some d) : ∃ x y, xs[k]? = some x ∧ ys[k]? = some y ∧ d = .tuple [x, y] := by
  unfold pairs at h
  rw [List.getElem?_map] at h
  cases hz : (xs.zip ys)[k]? with
  | none => rw [hz] at h; cases h
  | some p =>
    rw [hz] at h
    cases h
    obtain ⟨h1, h2⟩ := List.getElem?_zip_eq_some.mp hz
    exact ⟨_, _, h1, h2, rfl⟩
theorem getD_eq {α : Type} {l : List α} {j : Nat} {d : α} (h : j < l.length) : l.getD j d = l[j] := by
  rw [List.getD_eq_getElem?_getD, List.getElem?_eq_getElem h]
  rfl
def mapR (f : Rw → Rw) : D → D
  | .tuple [.int a, .int b, .int c] => rwD (f (a, b, c))
  | d => d
theorem mapR_rows (f : Rw → Rw) (rs : List Rw) : (rs.map rwD).map (mapR f) = (rs.map f).map rwD := by
  rw [List.map_map, List.map_map]
  rfl
/-! first numbers of the plain rows -/
def firstsL (m : Int) (hs : List Hd) (bl : Bool) : List Int := if bl then hs.tail.map (fun h => (h.1 - (hs.headD (0, 0, ⟨#[]⟩)).1) % m) else hs.map (·.1)
theorem firstsL_len (m : Int) (hs : List Hd) (bl : Bool) : (firstsL m hs bl).length ≤ hs.length := by
  unfold firstsL
  cases bl
  · simp
  · simp
theorem swOk_range (n : Nat) : SwOk n (List.range n) := ⟨List.length_range, fun j h => List.mem_range.mp h, List.nodup_range⟩
theorem rows0_plain (m : Int) (hs : List Hd) : (rows0 m hs (List.range hs.length, false)).map (·.1) = hs.map (·.1) := by
  refine List.ext_getElem? fun k => ?_
  unfold rows0
  rw [List.map_zipWith, List.getElem?_zipWith, List.getElem?_map]
  by_cases hk : k < hs.length
  · rw [List.getElem?_range hk, List.getElem?_eq_getElem hk]
    show some (row1 m hs false k hs[k]).1 = some hs[k].1
    unfold row1
    rw [getD_eq hk]
  · rw [List.getElem?_eq_none (by omega : hs.length ≤ k), List.getElem?_eq_none (by rw [List.length_range]; omega)]
    rfl
theorem rowsL_firsts {m : Int} (hm : 0 < m) (hs : List Hd) (bl : Bool) : (rowsL m hs bl (List.range hs.length, false)).map (·.1) = firstsL m hs bl := by
  have h := rows0_plain m hs
  unfold rowsL firstsL
  cases bl
  · exact h
  · generalize rows0 m hs (List.range hs.length, false) = R at *
    cases R with
    | nil => cases hs with
      | nil => rfl
      | cons _ _ => cases h
    | cons r0 R => cases hs with
      | nil => cases h
      | cons h0 hs =>
        rw [List.map_cons, List.map_cons] at h
        injection h with e1 e2
        show ((R.map fun x => lessR m x r0).map (·.1)) = hs.map fun h => (h.1 - h0.1) % m
        have e3 : hs.map (fun h => (h.1 - h0.1) % m) = (hs.map (·.1)).map (fun x => (x - h0.1) % m) := by rw [List.map_map]; rfl
        rw [e3, ← e2, List.map_map, List.map_map, ← e1]
        rfl
def fstR : D → D
  | .tuple (a :: _) => a
  | d => d
theorem fstR_rows (rs : List Rw) : (rs.map rwD).map fstR = (rs.map (·.1)).map .int := by
  rw [List.map_map, List.map_map]
  rfl
theorem lay_rw {n : Nat} (r : Rw) : Lay (n + 1) (rwD r) := lay_tup fun d hd => by
  simp only [List.mem_cons, List.not_mem_nil, or_false] at hd
  rcases hd with rfl | rfl | rfl <;> exact lay_int _
theorem lay_rws {n : Nat} (rs : List Rw) : Lay (n + 2) (.list (rs.map rwD)) := lay_lst fun d hd => by
  obtain ⟨x, _, rfl⟩ := List.mem_map.mp hd
  exact lay_rw x
theorem wo_eqNil {n : Nat} {ds : List D} {Q : D → Prop} (h : Lay n (.list ds)) (q : Q (.bool ds.isEmpty)) (hn : n ≤ 64 := by omega) : WO (gEq (.list ds) (.list [])) Q := by
  refine wo_eqD (h.shp hn) rfl ?_
  cases ds with
  | nil => exact q
  | cons _ _ => exact q
/-- the greatest number that divides a dial and some numbers -/
structure Gd (m : Int) (ns : List Int) (g : Int) : Prop where
  pos : 0 < g
  dm : g ∣ m
  dn : ∀ n ∈ ns, g ∣ n
  all : ∀ d : Int, d ∣ m → (∀ n ∈ ns, d ∣ n) → d ∣ g
theorem We.gd {m g : Int} {ns ws : List Int} (W : We m ns g ws) : Gd m ns g := ⟨W.pos, W.dm, W.dn, W.all⟩
theorem Gd.uniq {m g h : Int} {ns : List Int} (x : Gd m ns g) (y : Gd m ns h) : g = h :=
  Int.dvd_antisymm (by have := x.pos; omega) (by have := y.pos; omega) (y.all g x.dm x.dn) (x.all h y.dm y.dn)
theorem Gd.start {m : Int} (hm : 0 < m) : Gd m [] m := ⟨hm, Int.dvd_refl _, fun n h => (by cases h), fun d h _ => h⟩
theorem Gd.step {m g n g' : Int} {ns : List Int} (x : Gd m ns g) (G : IsG g n g') : Gd m (ns ++ [n]) g' := by
  have hp := G.symm.ne x.pos
  refine ⟨hp, Int.dvd_trans G.da x.dm, fun y hy => ?_, fun d d1 d2 => G.all d (x.all d d1 fun y hy => d2 y (List.mem_append_left _ hy)) (d2 n (by simp))⟩
  rcases List.mem_append.mp hy with hy | hy
  · exact Int.dvd_trans G.da (x.dn y hy)
  · rw [List.mem_singleton] at hy; subst hy; exact G.db
/-- by how many all come round -/
theorem We.round {m g t : Int} {ns ws : List Int} (W : We m ns g ws) : (∀ n ∈ ns, n * t % m = 0) ↔ t % (m / g) = 0 := by
  obtain ⟨k, hk⟩ := W.dm
  have hg := W.pos
  have e : m / g = k := by rw [hk, Int.mul_ediv_cancel_left _ (by omega)]
  rw [e]
  constructor
  · intro h
    obtain ⟨c, hc⟩ := W.dot
    have h2 : m ∣ M.dot ws ns * t := by
      have : ∀ (ws ns : List Int), (∀ n ∈ ns, n * t % m = 0) → m ∣ M.dot ws ns * t := by
        intro ws
        induction ws with
        | nil => intro ns _; exact ⟨0, by simp [M.dot]⟩
        | cons w ws ih =>
          intro ns hns
          cases ns with
          | nil => exact ⟨0, by simp [M.dot]⟩
          | cons n ns =>
            obtain ⟨a, ha⟩ := ih ns fun x hx => hns x (List.mem_cons_of_mem _ hx)
            obtain ⟨b, hb⟩ := Int.dvd_of_emod_eq_zero (hns n List.mem_cons_self)
            refine ⟨w * b + a, ?_⟩
            show (w * n + M.dot ws ns) * t = _
            grind
      exact this ws ns h
    obtain ⟨d, hd⟩ := h2
    have : g * t = g * (k * (d - c * t)) := by grind
    have := Int.eq_of_mul_eq_mul_left (show g ≠ 0 by omega) this
    exact Int.emod_eq_zero_of_dvd ⟨_, this⟩
  · intro h n hn
    obtain ⟨c, hc⟩ := Int.dvd_of_emod_eq_zero h
    obtain ⟨d, hd⟩ := W.dn n hn
    exact Int.emod_eq_zero_of_dvd ⟨d * c, by rw [hc, hd, hk]; grind⟩
theorem HandsOk.mono {m n : Int} {hs : List Hd} (h : HandsOk m hs) (hn : m ≤ n) : HandsOk n hs := fun x hx => by
  obtain ⟨h1, h2, h3, h4, h5⟩ := h x hx
  exact ⟨h1, by omega, h3, by omega, h5⟩
def bolI (f : Int → Bool) : D → D
  | .int a => .bool (f a)
  | d => d
theorem bolI_ints (f : Int → Bool) (ns : List Int) : (ns.map PyData.int).map (bolI f) = (ns.map f).map .bool := by
  rw [List.map_map, List.map_map]
  rfl
theorem eqvAll_ints : ∀ xs ys : List Int, PyData.eqvAll (xs.map .int) (ys.map .int) = decide (xs = ys)
  | [], [] => by unfold PyData.eqvAll; rfl
  | [], y :: ys => by unfold PyData.eqvAll; rfl
  | x :: xs, [] => by unfold PyData.eqvAll; rfl
  | x :: xs, y :: ys => by
    show (PyData.eqv (.int x) (.int y) && PyData.eqvAll (xs.map .int) (ys.map .int)) = _
    rw [eqvAll_ints xs ys, eqv_int, ← Bool.decide_and]
    exact decide_eq_decide.mpr (by rw [List.cons.injEq])
theorem wo_neInts {xs ys : List Int} {Q : D → Prop} (q : Q (.bool (!decide (xs = ys)))) : WO (gNe (.list (xs.map .int)) (.list (ys.map .int))) Q :=
  wo_neD (shp_ints xs) (shp_ints ys) (by
    have : PyData.eqv (.list (xs.map .int)) (.list (ys.map .int)) = decide (xs = ys) := by unfold PyData.eqv; exact eqvAll_ints xs ys
    rw [this]; exact q)
/-! ### what a reading takes for a tick -/
def takenB (m : Int) (R : List Rw) (t u : Int) : Bool := R.all fun r => decide ((r.1 * u - r.2.1 * t - r.2.2) % m = 0)
/-- a hand's turn by a reading -/
def turn1 (m : Int) (hs : List Hd) (mir : Bool) (t u : Int) (j : Nat) (h : Hd) : Int := ((hs.getD j (0, 0, ⟨#[]⟩)).2.1 + (hs.getD j (0, 0, ⟨#[]⟩)).1 * u - (if mir then 0 - (h.2.1 + h.1 * t) else h.2.1 + h.1 * t)) % m
def turnsL (m : Int) (hs : List Hd) (r : Rd) (t u : Int) : List Int := List.zipWith (turn1 m hs r.2 t u) r.1 hs
theorem row_turn {m : Int} {hs : List Hd} {mir : Bool} {t u : Int} {j : Nat} {h : Hd} : m ∣ (row1 m hs mir j h).1 * u - (row1 m hs mir j h).2.1 * t - (row1 m hs mir j h).2.2 - turn1 m hs mir t u j h := by
  unfold row1 turn1
  dsimp only
  generalize hs.getD j (0, 0, ⟨#[]⟩) = g
  have hsg : sgn mir = 1 ∧ mir = false ∨ sgn mir = -1 ∧ mir = true := by cases mir; exact .inl ⟨rfl, rfl⟩; exact .inr ⟨rfl, rfl⟩
  have e1 := Int.mul_ediv_add_emod (sgn mir * h.1) m
  have e2 := Int.mul_ediv_add_emod (sgn mir * h.2.1 - g.2.1) m
  have e3 := Int.mul_ediv_add_emod (g.2.1 + g.1 * u - (if mir then 0 - (h.2.1 + h.1 * t) else h.2.1 + h.1 * t)) m
  rcases hsg with ⟨a, b⟩ | ⟨a, b⟩
  · rw [b] at e3 ⊢
    simp only [Bool.false_eq_true, if_false] at e3 ⊢
    rw [show sgn false = 1 from rfl, Int.one_mul, Int.one_mul] at *
    rw [b] at e1 e2
    rw [show sgn false = 1 from rfl] at e1 e2
    rw [Int.one_mul] at e1 e2
    refine ⟨h.1 / m * t + (h.2.1 - g.2.1) / m + (g.2.1 + g.1 * u - (h.2.1 + h.1 * t)) / m, ?_⟩
    grind
  · rw [b] at e1 e2 e3 ⊢
    simp only [if_true] at e3 ⊢
    rw [show sgn true = -1 from rfl] at e1 e2 ⊢
    refine ⟨-1 * h.1 / m * t + (-1 * h.2.1 - g.2.1) / m + (g.2.1 + g.1 * u - (0 - (h.2.1 + h.1 * t))) / m, ?_⟩
    grind
end M

namespace Lw
open PySem PySem.Spec PyProof.Rows L2 M
def topS (i : Nat) : Stmt := PySem.Challenge.pw_dialdoubt_k23_whole_one_picture_one_row.main.body.getD i (.Pass ⟨0, 0, 0, 0⟩)
abbrev s_common_parts : Stmt := topS 4
abbrev N_common_parts : List Str := ["one", "other", "first", "second", "times", "rest", "a", "b"]
theorem sc_common_parts : FnScope N_common_parts ["one", "other"] (defScope s_common_parts) := ⟨rfl, rfl, rfl, by decide +kernel, rfl, by decide +kernel, by decide +kernel⟩
abbrev s_weights_of : Stmt := topS 5
abbrev N_weights_of : List Str := ["many", "numbers", "greatest", "found", "number", "times", "more", "weight"]
theorem sc_weights_of : FnScope N_weights_of ["many", "numbers"] (defScope s_weights_of) := ⟨rfl, rfl, rfl, by decide +kernel, rfl, by decide +kernel, by decide +kernel⟩
abbrev s_swaps_of : Stmt := topS 7
abbrev N_swaps_of : List Str := ["hands", "found", "gear", "start", "look", "longer", "some", "hand"]
theorem sc_swaps_of : FnScope N_swaps_of ["hands"] (defScope s_swaps_of) := ⟨rfl, rfl, rfl, by decide +kernel, rfl, by decide +kernel, by decide +kernel⟩
abbrev s_readings_of : Stmt := topS 8
abbrev N_readings_of : List Str := ["clock", "found", "swap"]
theorem sc_readings_of : FnScope N_readings_of ["clock"] (defScope s_readings_of) := ⟨rfl, rfl, rfl, by decide +kernel, rfl, by decide +kernel, by decide +kernel⟩
abbrev s_rows_of : Stmt := topS 9
abbrev N_rows_of : List Str := ["clock", "reading", "many", "hands", "blank", "mirror", "swap", "mirrored", "sign", "rows", "hand", "gear", "start", "look", "row", "one", "other"]
theorem sc_rows_of : FnScope N_rows_of ["clock", "reading"] (defScope s_rows_of) := ⟨rfl, rfl, rfl, by decide +kernel, rfl, by decide +kernel, by decide +kernel⟩
abbrev s_coarse_step : Stmt := topS 10
abbrev N_coarse_step : List Str := ["clock", "rows", "a", "b", "c"]
theorem sc_coarse_step : FnScope N_coarse_step ["clock"] (defScope s_coarse_step) := ⟨rfl, rfl, rfl, by decide +kernel, rfl, by decide +kernel, by decide +kernel⟩
abbrev s_ask_fine : Stmt := topS 12
abbrev N_ask_fine : List Str := ["clock", "step"]
theorem sc_ask_fine : FnScope N_ask_fine ["clock"] (defScope s_ask_fine) := ⟨rfl, rfl, rfl, by decide +kernel, rfl, by decide +kernel, by decide +kernel⟩
abbrev s_numbers_solved : Stmt := topS 13
abbrev N_numbers_solved : List Str := ["many", "factors", "dues", "greatest", "weights", "due", "at", "factor", "times", "weight", "one", "to"]
theorem sc_numbers_solved : FnScope N_numbers_solved ["many", "factors", "dues"] (defScope s_numbers_solved) := ⟨rfl, rfl, rfl, by decide +kernel, rfl, by decide +kernel, by decide +kernel⟩
abbrev s_reading_solved : Stmt := topS 14
abbrev N_reading_solved : List Str := ["clock", "reading", "tick", "many", "rows", "a", "b", "c"]
theorem sc_reading_solved : FnScope N_reading_solved ["clock", "reading", "tick"] (defScope s_reading_solved) := ⟨rfl, rfl, rfl, by decide +kernel, rfl, by decide +kernel, by decide +kernel⟩
abbrev s_tick_paper : Stmt := topS 15
abbrev N_tick_paper : List Str := ["clock", "tick", "many", "papers", "reading", "found"]
theorem sc_tick_paper : FnScope N_tick_paper ["clock", "tick"] (defScope s_tick_paper) := ⟨rfl, rfl, rfl, by decide +kernel, rfl, by decide +kernel, by decide +kernel⟩
abbrev s_rivals_of : Stmt := topS 16
abbrev N_rivals_of : List Str := ["clock", "tick", "met", "reading", "found"]
theorem sc_rivals_of : FnScope N_rivals_of ["clock", "tick"] (defScope s_rivals_of) := ⟨rfl, rfl, rfl, by decide +kernel, rfl, by decide +kernel, by decide +kernel⟩
abbrev s_marks_by_hand : Stmt := topS 17
abbrev N_marks_by_hand : List Str := ["clock", "picture", "left", "found", "gear", "start", "look", "some", "pair"]
theorem sc_marks_by_hand : FnScope N_marks_by_hand ["clock", "picture"] (defScope s_marks_by_hand) := ⟨rfl, rfl, rfl, by decide +kernel, rfl, by decide +kernel, by decide +kernel⟩
abbrev s_marks_solved : Stmt := topS 18
abbrev N_marks_solved : List Str := ["clock", "reading", "marks", "many", "sign", "moved", "rows", "mark", "hand", "one", "row"]
theorem sc_marks_solved : FnScope N_marks_solved ["clock", "reading", "marks"] (defScope s_marks_solved) := ⟨rfl, rfl, rfl, by decide +kernel, rfl, by decide +kernel, by decide +kernel⟩
abbrev s_read_picture : Stmt := topS 19
abbrev N_read_picture : List Str := ["clock", "picture", "marks", "met", "reading", "found"]
theorem sc_read_picture : FnScope N_read_picture ["clock", "picture"] (defScope s_read_picture) := ⟨rfl, rfl, rfl, by decide +kernel, rfl, by decide +kernel, by decide +kernel⟩
abbrev s_picture_of : Stmt := topS 21
abbrev N_picture_of : List Str := ["clock", "tick", "gear", "start", "look"]
theorem sc_picture_of : FnScope N_picture_of ["clock", "tick"] (defScope s_picture_of) := ⟨rfl, rfl, rfl, by decide +kernel, rfl, by decide +kernel, by decide +kernel⟩
abbrev s_moved : Stmt := topS 22
abbrev N_moved : List Str := ["many", "picture", "sign", "more", "look", "mark"]
theorem sc_moved : FnScope N_moved ["many", "picture", "sign", "more"] (defScope s_moved) := ⟨rfl, rfl, rfl, by decide +kernel, rfl, by decide +kernel, by decide +kernel⟩
abbrev s_same_picture : Stmt := topS 23
abbrev N_same_picture : List Str := ["clock", "one", "other", "many", "hands", "blank", "mirror", "first", "last", "sign", "moves", "look", "mark", "more"]
theorem sc_same_picture : FnScope N_same_picture ["clock", "one", "other"] (defScope s_same_picture) := ⟨rfl, rfl, rfl, by decide +kernel, rfl, by decide +kernel, by decide +kernel⟩
abbrev s__law_purse : Stmt := topS 25
abbrev N__law_purse : List Str := ["_law_script", "_law_k", "_law_cell", "_law_mix", "_law_found", "_law_turn"]
theorem sc__law_purse : FnScope N__law_purse ["_law_script", "_law_k"] (defScope s__law_purse) := ⟨rfl, rfl, rfl, by decide +kernel, rfl, by decide +kernel, by decide +kernel⟩
abbrev s__law_take : Stmt := topS 26
abbrev N__law_take : List Str := ["_law_purse_here", "_law_many", "_law_found"]
theorem sc__law_take : FnScope N__law_take ["_law_purse_here", "_law_many"] (defScope s__law_take) := ⟨rfl, rfl, rfl, by decide +kernel, rfl, by decide +kernel, by decide +kernel⟩
abbrev s__law_looks : Stmt := topS 27
abbrev N__law_looks : List Str := ["_law_purse_here", "_law_many", "_law_first", "_law_step", "_law_row", "_law_k", "_law_way", "_law_found", "_law_look"]
theorem sc__law_looks : FnScope N__law_looks ["_law_purse_here", "_law_many"] (defScope s__law_looks) := ⟨rfl, rfl, rfl, by decide +kernel, rfl, by decide +kernel, by decide +kernel⟩
abbrev s__law_number : Stmt := topS 28
abbrev N__law_number : List Str := ["_law_purse_here", "_law_many", "_law_part", "_law_some"]
theorem sc__law_number : FnScope N__law_number ["_law_purse_here", "_law_many"] (defScope s__law_number) := ⟨rfl, rfl, rfl, by decide +kernel, rfl, by decide +kernel, by decide +kernel⟩
abbrev s__law_marks : Stmt := topS 29
abbrev N__law_marks : List Str := ["_law_purse_here", "_law_small", "_law_some"]
theorem sc__law_marks : FnScope N__law_marks ["_law_purse_here", "_law_small"] (defScope s__law_marks) := ⟨rfl, rfl, rfl, by decide +kernel, rfl, by decide +kernel, by decide +kernel⟩
abbrev s__law_clock : Stmt := topS 30
abbrev N__law_clock : List Str := ["_law_script", "_law_small", "_law_purse_here", "_law_many", "_law_count", "_law_letters", "_law_blank", "_law_mirror", "_law_hands", "_law_k", "_law_own", "_law_gear", "_law_start"]
theorem sc__law_clock : FnScope N__law_clock ["_law_script", "_law_small"] (defScope s__law_clock) := ⟨rfl, rfl, rfl, by decide +kernel, rfl, by decide +kernel, by decide +kernel⟩
abbrev s__law_picture : Stmt := topS 31
abbrev N__law_picture : List Str := ["_law_clock_here", "_law_tick", "_law_gear", "_law_start", "_law_look"]
theorem sc__law_picture : FnScope N__law_picture ["_law_clock_here", "_law_tick"] (defScope s__law_picture) := ⟨rfl, rfl, rfl, by decide +kernel, rfl, by decide +kernel, by decide +kernel⟩
abbrev s__law_normal : Stmt := topS 32
abbrev N__law_normal : List Str := ["_law_clock_here", "_law_pairs", "_law_many", "_law_hands", "_law_blank", "_law_mirror", "_law_some", "_law_sign", "_law_row", "_law_back", "_law_moved", "_law_look", "_law_mark", "_law_pair"]
theorem sc__law_normal : FnScope N__law_normal ["_law_clock_here", "_law_pairs"] (defScope s__law_normal) := ⟨rfl, rfl, rfl, by decide +kernel, rfl, by decide +kernel, by decide +kernel⟩
abbrev s__law_same : Stmt := topS 33
abbrev N__law_same : List Str := ["_law_clock_here", "_law_one", "_law_other", "_law_normals", "_law_tick"]
theorem sc__law_same : FnScope N__law_same ["_law_clock_here", "_law_one", "_law_other"] (defScope s__law_same) := ⟨rfl, rfl, rfl, by decide +kernel, rfl, by decide +kernel, by decide +kernel⟩
abbrev s__law_other_picture : Stmt := topS 34
abbrev N__law_other_picture : List Str := ["_law_clock_here", "_law_pairs", "_law_purse_here", "_law_many", "_law_hands", "_law_blank", "_law_mirror", "_law_sign", "_law_more", "_law_look", "_law_mark"]
theorem sc__law_other_picture : FnScope N__law_other_picture ["_law_clock_here", "_law_pairs", "_law_purse_here"] (defScope s__law_other_picture) := ⟨rfl, rfl, rfl, by decide +kernel, rfl, by decide +kernel, by decide +kernel⟩
abbrev s__law_right : Stmt := topS 35
abbrev N__law_right : List Str := ["_law_clock_here", "_law_tick", "_law_purse_here", "_law_many", "_law_all", "_law_other", "_law_pairs", "_law_some", "_law_at", "_law_look", "_law_mark", "_law_there", "_law_told", "_law_turn"]
theorem sc__law_right : FnScope N__law_right ["_law_clock_here", "_law_tick", "_law_purse_here"] (defScope s__law_right) := ⟨rfl, rfl, rfl, by decide +kernel, rfl, by decide +kernel, by decide +kernel⟩
abbrev s_law : Stmt := topS 36
abbrev N_law : List Str := ["_law_script", "_law_purse_here", "_law_clock_here", "_law_many", "_law_step_here", "_law_k", "_law_tick", "_law_told"]
theorem sc_law : FnScope N_law ["_law_script"] (defScope s_law) := ⟨rfl, rfl, rfl, by decide +kernel, rfl, by decide +kernel, by decide +kernel⟩
/-! ### the mirrors -/
noncomputable section
def b_common_parts : Sf :=
  (sSeq (sPar 2 3 (lCons (eTup (lCons (eV 0) (lCons (eC (.int 1)) (lCons (eC (.int 0)) lNil)))) (lCons (eTup (lCons (eV 1) (lCons (eC (.int 0)) (lCons (eC (.int 1)) lNil)))) lNil)))
  (sSeq (sWh FU (bV (eBin gNe (eBin gIdx (eV 3) (eC (.int 0))) (eC (.int 0))))
  (sSeq (sSet 4 (eBin gDiv (eBin gIdx (eV 2) (eC (.int 0))) (eBin gIdx (eV 3) (eC (.int 0)))))
  (sSeq (sSet 5 (eUn gTuple (eFz (lComp (lZip (eV 2) (eV 3)) [6, 7] (tT 2 (gsC (tN 6) (gsC (tN 7) gsN))) bYes (eBin gSub (eV 6) (eBin gMul (eV 4) (eV 7)))))))
  (sPar 2 3 (lCons (eV 3) (lCons (eV 5) lNil))))))
  (sRet (eV 2))))
def g_common_parts : Gf := fnRun 8 2 b_common_parts
def b_weights_of : Sf :=
  (sSeq (sSet 2 (eV 0))
  (sSeq (sSet 3 (eFz (lLst lNil)))
  (sSeq (sFor (lIt (eV 1)) (tN 4)
  (sSeq (sAsg (eCall g_common_parts (aV (eV 2) (aV (eBin gMod (eV 4) (eV 0)) aNil))) (tT 3 (gsC (tN 2) (gsC (tN 5) (gsC (tN 6) gsN)))))
  (sSet 3 (eBin gAdd (eFz (lComp (lIt (eV 3)) [7] (tN 7) bYes (eBin gMod (eBin gMul (eV 7) (eV 5)) (eV 0)))) (eFz (lLst (lCons (eBin gMod (eV 6) (eV 0)) lNil)))))))
  (sRet (eTup (lCons (eV 2) (lCons (eV 3) lNil)))))))
def g_weights_of : Gf := fnRun 8 2 b_weights_of
def b_swaps_of : Sf :=
  (sSeq (sSet 1 (eFz (lLst (lCons (eTup lNil) lNil))))
  (sSeq (sFor (lIt (eV 0)) (tT 3 (gsC (tN 2) (gsC (tN 3) (gsC (tN 4) gsN))))
  (sSeq (sSetO 5 (lLst lNil))
  (sSeq (sFor (lIt (eV 1)) (tN 6)
  (sFor (lRng1 (eUn gLen (eV 0))) (tN 7)
  (sIf (bAnd (bV (eBin gNi (eV 7) (eV 6))) (bV (eBin gEq (eBin gIdx (eBin gIdx (eV 0) (eV 7)) (eC (.int 2))) (eV 4))))
  (sExpr (eMut mAppend 5 (eBin gAdd (eV 6) (eTup (lCons (eV 7) lNil)))))
  sNil)))
  (sFrz 5 (sSet 1 (eV 5))))))
  (sRet (eV 1))))
def g_swaps_of : Gf := fnRun 8 1 b_swaps_of
def b_readings_of : Sf :=
  (sSeq (sSetO 1 (lLst lNil))
  (sSeq (sFor (lIt (eCall g_swaps_of (aV (eBin gIdx (eV 0) (eC (.int 1))) aNil))) (tN 2)
  (sSeq (sExpr (eMut mAppend 1 (eTup (lCons (eV 2) (lCons (eC (.bool false)) lNil)))))
  (sIf (bV (eBin gIdx (eV 0) (eC (.int 3))))
  (sExpr (eMut mAppend 1 (eTup (lCons (eV 2) (lCons (eC (.bool true)) lNil)))))
  sNil)))
  (sFrz 1 (sRet (eV 1)))))
def g_readings_of : Gf := fnRun 3 1 b_readings_of
def b_rows_of : Sf :=
  (sSeq (sAsg (eV 0) (tT 4 (gsC (tN 2) (gsC (tN 3) (gsC (tN 4) (gsC (tN 5) gsN))))))
  (sSeq (sAsg (eV 1) (tT 2 (gsC (tN 6) (gsC (tN 7) gsN))))
  (sSeq (sSet 8 (eBin gSub (eC (.int 1)) (eBin gMul (eC (.int 2)) (eUn gInt (eV 7)))))
  (sSeq (sSetO 9 (lLst lNil))
  (sSeq (sFor (lZip (eV 6) (eV 3)) (tT 2 (gsC (tN 10) (gsC (tT 3 (gsC (tN 11) (gsC (tN 12) (gsC (tN 13) gsN)))) gsN)))
  (sExpr (eMut mAppend 9 (eTup (lCons (eBin gIdx (eBin gIdx (eV 3) (eV 10)) (eC (.int 0))) (lCons (eBin gMod (eBin gMul (eV 8) (eV 11)) (eV 2)) (lCons (eBin gMod (eBin gSub (eBin gMul (eV 8) (eV 12)) (eBin gIdx (eBin gIdx (eV 3) (eV 10)) (eC (.int 1)))) (eV 2)) lNil)))))))
  (sSeq (sIf (bNot (bV (eV 4)))
  (sFrz 9 (sRet (eV 9)))
  sNil)
  (sRet (eFz (lComp (lIt (eFz (lSlV 9 (pE (eC (.int 1))) pNo))) [14] (tN 14) bYes (eUn gTuple (eFz (lComp (lZip (eV 14) (eBinV gIdx 9 (eC (.int 0)))) [15, 16] (tT 2 (gsC (tN 15) (gsC (tN 16) gsN))) bYes (eBin gMod (eBin gSub (eV 15) (eV 16)) (eV 2))))))))))))))
def g_rows_of : Gf := fnRun 17 2 b_rows_of
def b_coarse_step : Sf :=
  (sSeq (sSet 1 (eCall g_rows_of (aV (eV 0) (aV (eBin gIdx (eCall g_readings_of (aV (eV 0) aNil)) (eC (.int 0))) aNil))))
  (sSeq (sIf (bV (eBin gEq (eV 1) (eFz (lLst lNil))))
  (sRet (eC (.int 1)))
  sNil)
  (sRet (eBin gDiv (eBin gIdx (eV 0) (eC (.int 0))) (eBin gIdx (eCall g_weights_of (aV (eBin gIdx (eV 0) (eC (.int 0))) (aV (eFz (lComp (lIt (eV 1)) [2, 3, 4] (tT 3 (gsC (tN 2) (gsC (tN 3) (gsC (tN 4) gsN)))) bYes (eV 2))) aNil))) (eC (.int 0)))))))
def g_coarse_step : Gf := fnRun 5 1 b_coarse_step
def b_ask_fine : Sf :=
  (sSeq (sSet 1 (eCall g_coarse_step (aV (eV 0) aNil)))
  (sIf (bV (eBin gNe (eV 1) (eBin gIdx (eV 0) (eC (.int 0)))))
  sNo
  sNil))
def g_ask_fine : Gf := fnRun 2 1 b_ask_fine
def b_numbers_solved : Sf :=
  (sSeq (sIf (bV (eBin gEq (eV 1) (eFz (lLst lNil))))
  (sRet (eTup (lCons (eC (.str "all")) (lCons (eC (.int 0)) (lCons (eC (.int 1)) (lCons (eFz (lLst lNil)) lNil))))))
  sNil)
  (sSeq (sAsg (eCall g_weights_of (aV (eV 0) (aV (eV 1) aNil))) (tT 2 (gsC (tN 3) (gsC (tN 4) gsN))))
  (sSeq (sSet 5 (eBin gMod (eUn gSum (eFz (lComp (lZip (eV 4) (eV 2)) [9, 10] (tT 2 (gsC (tN 9) (gsC (tN 10) gsN))) bYes (eBin gMul (eV 9) (eV 10))))) (eV 0)))
  (sSeq (sFor (lEnum (eV 1)) (tT 2 (gsC (tN 6) (gsC (tN 7) gsN)))
  (sSeq (sSet 8 (eBin gDiv (eV 7) (eV 3)))
  (sIf (bV (eBin gNe (eBin gMod (eBin gSub (eBin gIdx (eV 2) (eV 6)) (eBin gMul (eV 8) (eV 5))) (eV 0)) (eC (.int 0))))
  (sRet (eTup (lCons (eC (.str "not")) (lCons (eFz (lComp (lEnum (eV 4)) [11, 9] (tT 2 (gsC (tN 11) (gsC (tN 9) gsN))) bYes (eBin gSub (eUn gInt (eBin gEq (eV 11) (eV 6))) (eBin gMul (eV 8) (eV 9))))) lNil))))
  sNil)))
  (sRet (eTup (lCons (eC (.str "all")) (lCons (eBin gMod (eBin gDiv (eV 5) (eV 3)) (eBin gDiv (eV 0) (eV 3))) (lCons (eBin gDiv (eV 0) (eV 3)) (lCons (eV 4) lNil))))))))))
def g_numbers_solved : Gf := fnRun 12 3 b_numbers_solved
def b_reading_solved : Sf :=
  (sSeq (sSet 3 (eBin gIdx (eV 0) (eC (.int 0))))
  (sSeq (sSet 4 (eCall g_rows_of (aV (eV 0) (aV (eV 1) aNil))))
  (sRet (eCall g_numbers_solved (aV (eV 3) (aV (eFz (lComp (lIt (eV 4)) [5, 6, 7] (tT 3 (gsC (tN 5) (gsC (tN 6) (gsC (tN 7) gsN)))) bYes (eV 5))) (aV (eFz (lComp (lIt (eV 4)) [5, 6, 7] (tT 3 (gsC (tN 5) (gsC (tN 6) (gsC (tN 7) gsN)))) bYes (eBin gMod (eBin gAdd (eBin gMul (eV 6) (eV 2)) (eV 7)) (eV 3)))) aNil)))))))
def g_reading_solved : Gf := fnRun 8 3 b_reading_solved
def b_tick_paper : Sf :=
  (sSeq (sSet 2 (eBin gIdx (eV 0) (eC (.int 0))))
  (sSeq (sSetO 3 (lLst lNil))
  (sSeq (sFor (lIt (eCall g_readings_of (aV (eV 0) aNil))) (tN 4)
  (sSeq (sSet 5 (eCall g_reading_solved (aV (eV 0) (aV (eV 4) (aV (eV 1) aNil)))))
  (sIf (bV (eBin gEq (eBin gIdx (eV 5) (eC (.int 0))) (eC (.str "not"))))
  (sExpr (eMut mAppend 3 (eTup (lCons (eC (.str "not")) (lCons (eUn gTuple (eBin gIdx (eV 5) (eC (.int 1)))) lNil)))))
  (sIf (bV (eBin gNe (eBin gIdx (eV 5) (eC (.int 1))) (eBin gMod (eV 1) (eBin gIdx (eV 5) (eC (.int 2))))))
  (sRet (eTup (lCons (eC (.str "rival")) (lCons (eBin gIdx (eV 5) (eC (.int 1))) (lCons (eV 4) lNil)))))
  (sIf (bV (eBin gLt (eBin gIdx (eV 5) (eC (.int 2))) (eV 2)))
  (sRet (eTup (lCons (eC (.str "rival")) (lCons (eBin gMod (eBin gAdd (eV 1) (eBin gIdx (eV 5) (eC (.int 2)))) (eV 2)) (lCons (eV 4) lNil)))))
  (sExpr (eMut mAppend 3 (eTup (lCons (eC (.str "one")) (lCons (eUn gTuple (eBin gIdx (eV 5) (eC (.int 3)))) lNil))))))))))
  (sFrz 3 (sRet (eTup (lCons (eC (.str "clear")) (lCons (eV 3) lNil))))))))
def g_tick_paper : Gf := fnRun 6 2 b_tick_paper
def b_rivals_of : Sf :=
  (sSeq (sExpr (eCall g_ask_fine (aV (eV 0) aNil)))
  (sSeq (sSetO 2 (lLst lNil))
  (sSeq (sFor (lIt (eCall g_readings_of (aV (eV 0) aNil))) (tN 3)
  (sSeq (sSet 4 (eCall g_reading_solved (aV (eV 0) (aV (eV 3) (aV (eV 1) aNil)))))
  (sIf (bAnd (bV (eBin gEq (eBin gIdx (eV 4) (eC (.int 0))) (eC (.str "all")))) (bAnd (bV (eBin gNe (eBin gIdx (eV 4) (eC (.int 1))) (eBin gMod (eV 1) (eBin gIdx (eV 0) (eC (.int 0)))))) (bV (eBin gNi (eBin gIdx (eV 4) (eC (.int 1))) (eO 2)))))
  (sExpr (eMut mAppend 2 (eBin gIdx (eV 4) (eC (.int 1)))))
  sNil)))
  (sRet (eFz (lUn gSorted (eO 2)))))))
def g_rivals_of : Gf := fnRun 5 2 b_rivals_of
def b_marks_by_hand : Sf :=
  (sSeq (sSetO 2 (lUn gSorted (eV 1)))
  (sSeq (sSetO 3 (lLst lNil))
  (sSeq (sFor (lIt (eBin gIdx (eV 0) (eC (.int 1)))) (tT 3 (gsC (tN 4) (gsC (tN 5) (gsC (tN 6) gsN))))
  (sSeq (sSet 7 (eFz (lBor (lComp (lIt (eV 2)) [8] (tN 8) (bV (eBin gEq (eBin gIdx (eV 8) (eC (.int 0))) (eV 6))) (eV 8)))))
  (sSeq (sIf (bV (eBin gEq (eV 7) (eFz (lLst lNil))))
  (sRet (eC .none))
  sNil)
  (sSeq (sExpr (eMut mAppend 3 (eBin gIdx (eBin gIdx (eV 7) (eC (.int 0))) (eC (.int 1)))))
  (sExpr (eMut mRemove 2 (eBin gIdx (eV 7) (eC (.int 0)))))))))
  (sSeq (sIf (bV (eBinV gNe 2 (eFz (lLst lNil))))
  (sRet (eC .none))
  sNil)
  (sFrz 3 (sRet (eV 3)))))))
def g_marks_by_hand : Gf := fnRun 9 2 b_marks_by_hand
def b_marks_solved : Sf :=
  (sSeq (sSet 3 (eBin gIdx (eV 0) (eC (.int 0))))
  (sSeq (sSet 4 (eIf (bV (eBin gIdx (eV 1) (eC (.int 1)))) (eUn gNeg (eC (.int 1))) (eC (.int 1))))
  (sSeq (sSet 5 (eFz (lComp (lZipM (eV 2) (eBin gIdx (eV 0) (eC (.int 1)))) [7, 8] (tT 2 (gsC (tN 7) (gsC (tN 8) gsN))) bYes (eBin gMul (eV 4) (eBin gSub (eV 7) (eBin gIdx (eV 8) (eC (.int 1))))))))
  (sSeq (sIf (bV (eBin gIdx (eV 0) (eC (.int 2))))
  (sSet 5 (eFz (lComp (lIt (eSl (eV 5) (pE (eC (.int 1))) pNo)) [9] (tN 9) bYes (eBin gSub (eV 9) (eBin gIdx (eV 5) (eC (.int 0)))))))
  sNil)
  (sSeq (sSet 6 (eCall g_rows_of (aV (eV 0) (aV (eV 1) aNil))))
  (sRet (eCall g_numbers_solved (aV (eV 3) (aV (eFz (lComp (lIt (eV 6)) [10] (tN 10) bYes (eBin gIdx (eV 10) (eC (.int 0))))) (aV (eFz (lComp (lZip (eV 6) (eV 5)) [10, 9] (tT 2 (gsC (tN 10) (gsC (tN 9) gsN))) bYes (eBin gMod (eBin gAdd (eBin gIdx (eV 10) (eC (.int 2))) (eV 9)) (eV 3)))) aNil))))))))))
def g_marks_solved : Gf := fnRun 11 3 b_marks_solved
def b_read_picture : Sf :=
  (sSeq (sExpr (eCall g_ask_fine (aV (eV 0) aNil)))
  (sSeq (sSet 2 (eCall g_marks_by_hand (aV (eV 0) (aV (eV 1) aNil))))
  (sSeq (sSetO 3 (lLst lNil))
  (sSeq (sIf (bV (eBin gNtN (eV 2) (eC .none)))
  (sFor (lIt (eCall g_readings_of (aV (eV 0) aNil))) (tN 4)
  (sSeq (sSet 5 (eCall g_marks_solved (aV (eV 0) (aV (eV 4) (aV (eV 2) aNil)))))
  (sIf (bAnd (bV (eBin gEq (eBin gIdx (eV 5) (eC (.int 0))) (eC (.str "all")))) (bV (eBin gNi (eBin gIdx (eV 5) (eC (.int 1))) (eO 3))))
  (sExpr (eMut mAppend 3 (eBin gIdx (eV 5) (eC (.int 1)))))
  sNil)))
  sNil)
  (sRet (eFz (lUn gSorted (eO 3))))))))
def g_read_picture : Gf := fnRun 6 2 b_read_picture
def b_picture_of : Sf :=
  (sRet (eFz (lUn gSorted (eFz (lComp (lIt (eBin gIdx (eV 0) (eC (.int 1)))) [2, 3, 4] (tT 3 (gsC (tN 2) (gsC (tN 3) (gsC (tN 4) gsN)))) bYes (eTup (lCons (eV 4) (lCons (eBin gMod (eBin gAdd (eV 3) (eBin gMul (eV 2) (eV 1))) (eBin gIdx (eV 0) (eC (.int 0)))) lNil))))))))
def g_picture_of : Gf := fnRun 5 2 b_picture_of
def b_moved : Sf :=
  (sRet (eFz (lUn gSorted (eFz (lComp (lIt (eV 1)) [4, 5] (tT 2 (gsC (tN 4) (gsC (tN 5) gsN))) bYes (eTup (lCons (eV 4) (lCons (eBin gMod (eBin gAdd (eBin gMul (eV 2) (eV 5)) (eV 3)) (eV 0)) lNil))))))))
def g_moved : Gf := fnRun 6 4 b_moved
def b_same_picture : Sf :=
  (sSeq (sAsg (eV 0) (tT 4 (gsC (tN 3) (gsC (tN 4) (gsC (tN 5) (gsC (tN 6) gsN))))))
  (sSeq (sSet 7 (eCall g_picture_of (aV (eV 0) (aV (eV 1) aNil))))
  (sSeq (sSet 8 (eCall g_picture_of (aV (eV 0) (aV (eV 2) aNil))))
  (sSeq (sFor (lIt (eSl (eFz (lLst (lCons (eC (.int 1)) (lCons (eUn gNeg (eC (.int 1))) lNil)))) pNo (pE (eBin gAdd (eC (.int 1)) (eUn gInt (eV 6)))))) (tN 9)
  (sSeq (sSet 10 (eFz (lLst (lCons (eC (.int 0)) lNil))))
  (sSeq (sIf (bV (eV 5))
  (sSet 10 (eFz (lComp (lIt (eV 8)) [11, 12] (tT 2 (gsC (tN 11) (gsC (tN 12) gsN))) bYes (eBin gSub (eV 12) (eBin gMul (eV 9) (eBin gIdx (eBin gIdx (eV 7) (eC (.int 0))) (eC (.int 1))))))))
  sNil)
  (sIf (bV (eUn gAny (eFz (lComp (lIt (eV 10)) [13] (tN 13) bYes (eBin gEq (eCall g_moved (aV (eV 3) (aV (eV 7) (aV (eV 9) (aV (eV 13) aNil))))) (eV 8))))))
  (sRet (eC (.bool true)))
  sNil))))
  (sRet (eC (.bool false)))))))
def g_same_picture : Gf := fnRun 14 3 b_same_picture
def b__law_purse : Sf :=
  (sSeq (sSet 2 (eC (.int 0)))
  (sSeq (sIf (bV (eBin gLt (eV 1) (eUn gLen (eO 0))))
  (sSet 2 (eBinV gIdx 0 (eV 1)))
  (sIf (bV (eBinV gNe 0 (eFz (lLst lNil))))
  (sSet 2 (eBin gAdd (eBin gMod (eBinV gIdx 0 (eBin gMod (eV 1) (eUn gLen (eO 0)))) (eC (.int 1000003))) (eBin gMul (eC (.int 104729)) (eV 1))))
  sNil))
  (sSeq (sIf (bV (eBin gGe (eV 2) (eBin gPow (eC (.int 10)) (eC (.int 18)))))
  (sRetL (lLst (lCons (eV 2) lNil)))
  sNil)
  (sSeq (sSet 3 (eBin gMod (eBin gPowW (eBin gAdd (eBin gAdd (eBin gMod (eV 2) (eBin gAdd (eBin gPow (eC (.int 10)) (eC (.int 30))) (eC (.int 57)))) (eBin gMul (eC (.int 7919)) (eV 1))) (eC (.int 101))) (eC (.int 2))) (eBin gAdd (eBin gPow (eC (.int 10)) (eC (.int 30))) (eC (.int 57)))))
  (sSeq (sSet 4 (eC (.int 0)))
  (sSeq (sFor (lRng1 (eC (.int 6))) (tN 5)
  (sSeq (sSet 3 (eBin gAdd (eBin gAdd (eBin gAdd (eBin gMul (eV 3) (eC (.int 618033988749894848204586834365))) (eBin gMul (eC (.int 977)) (eV 1))) (eV 5)) (eC (.int 5))))
  (sSeq (sSet 3 (eBin gMod (eV 3) (eBin gAdd (eBin gPow (eC (.int 10)) (eC (.int 30))) (eC (.int 57)))))
  (sSet 4 (eBin gAdd (eBin gMul (eV 4) (eBin gAdd (eBin gPow (eC (.int 10)) (eC (.int 30))) (eC (.int 57)))) (eV 3))))))
  (sRetL (lLst (lCons (eV 4) lNil)))))))))
def g__law_purse : Hf := fnNew 6 2 b__law_purse
def b__law_take : Sf :=
  (sSeq (sSet 2 (eBin gMod (eBinV gIdx 0 (eC (.int 0))) (eV 1)))
  (sSeq (sPutI 0 (eC (.int 0)) (eBin gDiv (eBinV gIdx 0 (eC (.int 0))) (eV 1)))
  (sRet (eV 2))))
def g__law_take : Gf := fnRun 3 2 b__law_take
def b__law_looks : Sf :=
  (sSeq (sSet 2 (eCall g__law_take (aR 0 (aV (eC (.int 26)) aNil))))
  (sSeq (sSet 3 (eBin gIdx (eFz (lLst (lCons (eC (.int 1)) (lCons (eC (.int 3)) (lCons (eC (.int 5)) (lCons (eC (.int 7)) (lCons (eC (.int 9)) (lCons (eC (.int 11)) (lCons (eC (.int 15)) (lCons (eC (.int 25)) lNil)))))))))) (eCall g__law_take (aR 0 (aV (eC (.int 8)) aNil)))))
  (sSeq (sSetO 4 (lLst lNil))
  (sSeq (sFor (lRng1 (eV 1)) (tN 5)
  (sExpr (eMut mAppend 4 (eBin gIdx (eC (.str "abcdefghijklmnopqrstuvwxyz")) (eBin gMod (eBin gAdd (eV 2) (eBin gMul (eV 3) (eV 5))) (eC (.int 26)))))))
  (sSeq (sSet 6 (eCall g__law_take (aR 0 (aV (eC (.int 8)) aNil))))
  (sSeq (sIf (bAnd (bV (eBin gGt (eV 6) (eC (.int 3)))) (bV (eBin gGt (eV 1) (eC (.int 1)))))
  (sPutI 4 (eC (.int 1)) (eBinV gIdx 4 (eC (.int 0))))
  sNil)
  (sSeq (sIf (bAnd (bV (eBin gEq (eV 6) (eC (.int 6)))) (bV (eBin gGt (eV 1) (eC (.int 3)))))
  (sPutI 4 (eC (.int 3)) (eBinV gIdx 4 (eC (.int 2))))
  sNil)
  (sSeq (sIf (bAnd (bV (eBin gEq (eV 6) (eC (.int 7)))) (bV (eBin gGt (eV 1) (eC (.int 2)))))
  (sPutI 4 (eC (.int 2)) (eBinV gIdx 4 (eC (.int 0))))
  sNil)
  (sSeq (sSetO 7 (lLst lNil))
  (sSeq (sFrz 4 (sFor (lIt (eV 4)) (tN 8)
  (sExpr (eMut2 mInsert 7 (eCall g__law_take (aR 0 (aV (eBin gAdd (eUn gLen (eO 7)) (eC (.int 1))) aNil))) (eV 8)))))
  (sFrz 7 (sRet (eV 7)))))))))))))
def g__law_looks : Gf := fnRun 9 2 b__law_looks
def b__law_number : Sf :=
  (sSeq (sSet 2 (eBin gIdx (eFz (lLst (lCons (eC (.int 2)) (lCons (eC (.int 3)) (lCons (eC (.int 4)) (lCons (eC (.int 5)) (lCons (eC (.int 6)) (lCons (eC (.int 12)) lNil)))))))) (eCall g__law_take (aR 0 (aV (eC (.int 6)) aNil)))))
  (sSeq (sSetO 3 (lLst (lCons (eC (.int 0)) (lCons (eC (.int 1)) (lCons (eBin gSub (eV 1) (eC (.int 1))) (lCons (eBin gMod (eCall g__law_take (aR 0 (aV (eC (.int 13)) aNil))) (eV 1)) lNil))))))
  (sSeq (sExpr (eMut mAppend 3 (eCall g__law_take (aR 0 (aV (eV 1) aNil)))))
  (sSeq (sIf (bV (eBin gEq (eBin gMod (eV 1) (eV 2)) (eC (.int 0))))
  (sSeq (sExpr (eMut mAppend 3 (eBin gMul (eBin gDiv (eV 1) (eV 2)) (eCall g__law_take (aR 0 (aV (eV 2) aNil))))))
  (sExpr (eMut mAppend 3 (eBin gMul (eV 2) (eCall g__law_take (aR 0 (aV (eBin gDiv (eV 1) (eV 2)) aNil)))))))
  sNil)
  (sRet (eBinV gIdx 3 (eCall g__law_take (aR 0 (aV (eUn gLen (eO 3)) aNil)))))))))
def g__law_number : Gf := fnRun 4 2 b__law_number
def b__law_marks : Sf :=
  (sSeq (sIf (bV (eV 1))
  (sRet (eBin gAdd (eC (.int 2)) (eCall g__law_take (aR 0 (aV (eC (.int 59)) aNil)))))
  sNil)
  (sSeq (sSetO 2 (lLst (lCons (eC (.int 720)) (lCons (eC (.int 5040)) (lCons (eC (.int 1716)) (lCons (eC (.int 2310)) (lCons (eBin gPow (eC (.int 2)) (eC (.int 40))) (lCons (eBin gPow (eC (.int 3)) (eC (.int 30))) (lCons (eBin gPow (eC (.int 10)) (eC (.int 60))) (lCons (eBin gAdd (eC (.int 2)) (eCall g__law_take (aR 0 (aV (eBin gSub (eBin gPow (eC (.int 10)) (eC (.int 60))) (eC (.int 1))) aNil)))) lNil))))))))))
  (sSeq (sExpr (eMut mAppend 2 (eBin gMul (eC (.int 360360)) (eBin gAdd (eC (.int 1)) (eCall g__law_take (aR 0 (aV (eBin gPow (eC (.int 10)) (eC (.int 54))) aNil)))))))
  (sRet (eBinV gIdx 2 (eCall g__law_take (aR 0 (aV (eC (.int 9)) aNil))))))))
def g__law_marks : Gf := fnRun 3 2 b__law_marks
def b__law_clock : Sf :=
  (sSeq (sSetO 2 (lCall g__law_purse (aO 0 (aV (eC (.int 0)) aNil))))
  (sSeq (sSet 3 (eCall g__law_marks (aR 2 (aV (eV 1) aNil))))
  (sSeq (sSet 4 (eBin gIdx (eFz (lLst (lCons (eC (.int 3)) (lCons (eC (.int 2)) (lCons (eC (.int 4)) (lCons (eC (.int 5)) (lCons (eC (.int 1)) (lCons (eC (.int 3)) (lCons (eC (.int 2)) (lCons (eC (.int 4)) lNil)))))))))) (eCall g__law_take (aR 2 (aV (eC (.int 8)) aNil)))))
  (sSeq (sSet 5 (eCall g__law_looks (aR 2 (aV (eV 4) aNil))))
  (sSeq (sSet 6 (eBin gEq (eCall g__law_take (aR 2 (aV (eC (.int 3)) aNil))) (eC (.int 0))))
  (sSeq (sSet 7 (eAnd (eBin gEq (eCall g__law_take (aR 2 (aV (eC (.int 2)) aNil))) (eC (.int 0))) (eBin gGt (eUn gLenSet (eV 5)) (eBin gSub (eV 4) (eC (.int 2))))))
  (sSeq (sSetO 8 (lLst lNil))
  (sSeq (sFor (lRng1 (eV 4)) (tN 9)
  (sSeq (sSetO 10 (lCall g__law_purse (aO 0 (aV (eBin gAdd (eC (.int 1)) (eV 9)) aNil))))
  (sSeq (sSet 11 (eCall g__law_number (aR 10 (aV (eV 3) aNil))))
  (sSeq (sSet 12 (eBin gIdx (eFz (lLst (lCons (eC (.int 0)) (lCons (eCall g__law_take (aR 10 (aV (eV 3) aNil))) (lCons (eCall g__law_number (aR 10 (aV (eV 3) aNil))) lNil))))) (eCall g__law_take (aR 10 (aV (eC (.int 3)) aNil)))))
  (sExpr (eMut mAppend 8 (eTup (lCons (eV 11) (lCons (eV 12) (lCons (eBin gIdx (eV 5) (eV 9)) lNil))))))))))
  (sRet (eTup (lCons (eV 3) (lCons (eUn gTuple (eO 8)) (lCons (eV 6) (lCons (eV 7) lNil))))))))))))))
def g__law_clock : Gf := fnRun 13 2 b__law_clock
def b__law_picture : Sf :=
  (sRetL (lUn gSorted (eFz (lComp (lIt (eBin gIdx (eV 0) (eC (.int 1)))) [2, 3, 4] (tT 3 (gsC (tN 2) (gsC (tN 3) (gsC (tN 4) gsN)))) bYes (eTup (lCons (eV 4) (lCons (eBin gMod (eBin gAdd (eV 3) (eBin gMul (eV 2) (eV 1))) (eBin gIdx (eV 0) (eC (.int 0)))) lNil)))))))
def g__law_picture : Hf := fnNew 5 2 b__law_picture
def b__law_normal : Sf :=
  (sSeq (sAsg (eV 0) (tT 4 (gsC (tN 2) (gsC (tN 3) (gsC (tN 4) (gsC (tN 5) gsN))))))
  (sSeq (sSetO 6 (lLst lNil))
  (sSeq (sFor (lIt (eSl (eFz (lLst (lCons (eC (.int 1)) (lCons (eUn gNeg (eC (.int 1))) lNil)))) pNo (pE (eBin gAdd (eC (.int 1)) (eUn gInt (eV 5)))))) (tN 7)
  (sSeq (sSet 8 (eFz (lComp (lIt (eV 1)) [11, 12] (tT 2 (gsC (tN 11) (gsC (tN 12) gsN))) bYes (eTup (lCons (eV 11) (lCons (eBin gMod (eBin gMul (eV 7) (eV 12)) (eV 2)) lNil))))))
  (sFor (lIt (eBin gAdd (eBin gMul (eFz (lLst (lCons (eC (.int 0)) lNil))) (eUn gInt (eNot (eV 4)))) (eBin gMul (eFz (lComp (lIt (eV 8)) [13] (tN 13) bYes (eBin gIdx (eV 13) (eC (.int 1))))) (eUn gInt (eV 4))))) (tN 9)
  (sSeq (sSet 10 (eFz (lComp (lIt (eV 8)) [11, 12] (tT 2 (gsC (tN 11) (gsC (tN 12) gsN))) bYes (eTup (lCons (eV 11) (lCons (eBin gMod (eBin gSub (eV 12) (eV 9)) (eV 2)) lNil))))))
  (sExpr (eMut mAppend 6 (eFz (lUn gSorted (eV 10)))))))))
  (sRet (eUn gMinL (eO 6))))))
def g__law_normal : Gf := fnRun 14 2 b__law_normal
def b__law_same : Sf :=
  (sSeq (sSet 3 (eFz (lComp (lIt (eTup (lCons (eV 1) (lCons (eV 2) lNil)))) [4] (tN 4) bYes (eCall g__law_normal (aV (eV 0) (aV (eFz (lCall g__law_picture (aV (eV 0) (aV (eV 4) aNil)))) aNil))))))
  (sRet (eBin gEq (eBin gIdx (eV 3) (eC (.int 0))) (eBin gIdx (eV 3) (eC (.int 1))))))
def g__law_same : Gf := fnRun 5 3 b__law_same
def b__law_other_picture : Sf :=
  (sSeq (sAsg (eV 0) (tT 4 (gsC (tN 3) (gsC (tN 4) (gsC (tN 5) (gsC (tN 6) gsN))))))
  (sSeq (sSet 7 (eBin gSub (eC (.int 1)) (eBin gMul (eC (.int 2)) (eCall g__law_take (aR 2 (aV (eBin gAdd (eC (.int 1)) (eUn gInt (eV 6))) aNil))))))
  (sSeq (sSet 8 (eBin gMul (eCall g__law_take (aR 2 (aV (eV 3) aNil))) (eUn gInt (eV 5))))
  (sRet (eFz (lComp (lIt (eFz (lRevO (eO 1)))) [9, 10] (tT 2 (gsC (tN 9) (gsC (tN 10) gsN))) bYes (eTup (lCons (eV 9) (lCons (eBin gMod (eBin gAdd (eBin gMul (eV 7) (eV 10)) (eV 8)) (eV 3)) lNil)))))))))
def g__law_other_picture : Gf := fnRun 11 3 b__law_other_picture
def b__law_right : Sf :=
  (sSeq (sSet 3 (eBin gIdx (eV 0) (eC (.int 0))))
  (sSeq (sSet 4 (eFz (lUn gSorted (eBin gAdd (eCall g_rivals_of (aV (eV 0) (aV (eV 1) aNil))) (eFz (lLst (lCons (eV 1) lNil)))))))
  (sSeq (sFor (lIt (eV 4)) (tN 5)
  (sSeq (sIf (bV (eBin gNe (eFz (lUn gSorted (eBin gAdd (eCall g_rivals_of (aV (eV 0) (aV (eV 5) aNil))) (eFz (lLst (lCons (eV 5) lNil)))))) (eV 4)))
  (sRet (eC (.bool false)))
  sNil)
  (sSeq (sIf (bNot (bV (eCall g__law_same (aV (eV 0) (aV (eV 1) (aV (eV 5) aNil))))))
  (sRet (eC (.bool false)))
  sNil)
  (sIf (bV (eBin gNtB (eCall g_same_picture (aV (eV 0) (aV (eV 5) (aV (eV 1) aNil)))) (eC (.bool true))))
  (sRet (eC (.bool false)))
  sNil))))
  (sSeq (sSetO 6 (lCall g__law_picture (aV (eV 0) (aV (eV 1) aNil))))
  (sSeq (sIf (bV (eBin gNe (eCall g_picture_of (aV (eV 0) (aV (eV 1) aNil))) (eO 6)))
  (sRet (eC (.bool false)))
  sNil)
  (sSeq (sForTw 6 7 (eCall g__law_other_picture (aV (eV 0) (aO 6 (aR 2 aNil))))
  (pIf (bV (eBin gNe (eCall g_read_picture (aV (eV 0) (aV (eV 7) aNil))) (eV 4))) (pRet (eC (.bool false))) pNil))
  (sSeq (sSet 8 (eCall g__law_take (aR 2 (aV (eUn gLen (eO 6)) aNil))))
  (sSeq (sAsg (eMut mPopAt 6 (eV 8)) (tT 2 (gsC (tN 9) (gsC (tN 10) gsN))))
  (sSeq (sExpr (eMut2 mInsert 6 (eV 8) (eTup (lCons (eV 9) (lCons (eBin gMod (eBin gAdd (eBin gAdd (eV 10) (eC (.int 1))) (eCall g__law_take (aR 2 (aV (eC (.int 3)) aNil)))) (eV 3)) lNil)))))
  (sSeq (sFrz 6 (sFor (lIt (eCall g_read_picture (aV (eV 0) (aV (eV 6) aNil)))) (tN 5)
  (sSeq (sSet 11 (eCall g__law_normal (aV (eV 0) (aV (eFz (lCall g__law_picture (aV (eV 0) (aV (eV 5) aNil)))) aNil))))
  (sIf (bBor (bV (eBin gNe (eV 11) (eCall g__law_normal (aV (eV 0) (aV (eV 6) aNil))))))
  (sRet (eC (.bool false)))
  sNil))))
  (sSeq (sSet 12 (eCall g_tick_paper (aV (eV 0) (aV (eV 1) aNil))))
  (sSeq (sIf (bV (eBin gNe (eBin gEq (eBin gIdx (eV 12) (eC (.int 0))) (eC (.str "rival"))) (eBin gGt (eUn gLen (eV 4)) (eC (.int 1)))))
  (sRet (eC (.bool false)))
  sNil)
  (sSeq (sIf (bAnd (bV (eBin gEq (eBin gIdx (eV 12) (eC (.int 0))) (eC (.str "rival")))) (bOr (bV (eBin gNi (eBin gIdx (eV 12) (eC (.int 1))) (eV 4))) (bV (eBin gEq (eBin gIdx (eV 12) (eC (.int 1))) (eV 1)))))
  (sRet (eC (.bool false)))
  sNil)
  (sSeq (sFor (lRng1 (eC (.int 6))) (tN 13)
  (sSeq (sSet 7 (eFz (lLst (lCons (eCall g__law_take (aR 2 (aV (eV 3) aNil))) (lCons (eBin gSub (eC (.int 0)) (eV 1)) (lCons (eBin gAdd (eV 1) (eBin gDiv (eV 3) (eC (.int 2)))) lNil))))))
  (sSeq (sSet 5 (eBin gMod (eBin gIdx (eV 7) (eBin gMod (eV 13) (eC (.int 3)))) (eV 3)))
  (sIf (bV (eBin gNe (eCall g__law_same (aV (eV 0) (aV (eV 1) (aV (eV 5) aNil)))) (eBin gIs (eV 5) (eV 4))))
  (sRet (eC (.bool false)))
  sNil))))
  (sRet (eC (.bool true)))))))))))))))))
def g__law_right : Gf := fnRun 14 3 b__law_right
def b_law : Sf :=
  (sSeq (sSetO 1 (lCall g__law_purse (aO 0 (aV (eC (.int 6)) aNil))))
  (sSeq (sSet 2 (eCall g__law_clock (aO 0 (aV (eBin gEq (eCall g__law_take (aR 1 (aV (eC (.int 2)) aNil))) (eC (.int 0))) aNil))))
  (sSeq (sSet 3 (eBin gIdx (eV 2) (eC (.int 0))))
  (sSeq (sSet 4 (eCall g_coarse_step (aV (eV 2) aNil)))
  (sSeq (sFor (lRng1 (eC (.int 5))) (tN 5)
  (sSeq (sSet 6 (eBin gIdx (eFz (lLst (lCons (eC (.int 0)) (lCons (eCall g__law_take (aR 1 (aV (eV 3) aNil))) lNil)))) (eUn gInt (eBin gGt (eV 5) (eC (.int 0))))))
  (sIf (bV (eBin gNe (eV 4) (eV 3)))
  (sSeq (sSet 7 (eCall g_tick_paper (aV (eV 2) (aV (eV 6) aNil))))
  (sSeq (sIf (bOr (bV (eBin gNe (eBin gIdx (eV 7) (eC (.int 0))) (eC (.str "rival")))) (bNot (bV (eCall g__law_same (aV (eV 2) (aV (eV 6) (aV (eBin gIdx (eV 7) (eC (.int 1))) aNil)))))))
  (sRet (eC (.bool false)))
  sNil)
  (sIf (bNot (bV (eCall g__law_same (aV (eV 2) (aV (eV 6) (aV (eBin gAdd (eV 6) (eV 4)) aNil))))))
  (sRet (eC (.bool false)))
  sNil)))
  (sIf (bNot (bV (eCall g__law_right (aV (eV 2) (aV (eV 6) (aR 1 aNil))))))
  (sRet (eC (.bool false)))
  sNil))))
  (sRet (eC (.bool true))))))))
def g_law : Gf := fnRun 8 1 b_law
end
def sr_rows_of_0 : Scope := { kind := .function, names := [(".0", .local), ("row", .local), ("tuple", .globalImplicit), ("zip", .globalImplicit), ("many", .cell), ("rows", .cell)], isGenerator := false, isCoroutine := false, more := [] }
/-! ### what the top has left -/
structure Tx (K : Frg) (mg : Str → Option Value) where
  f_common_parts : Addr
  d_common_parts : FuncData
  F_common_parts : Fun K "common_parts" "common_parts" s_common_parts f_common_parts d_common_parts
  m_common_parts : mg "common_parts" = some (.ref f_common_parts)
  b_common_parts : Binds K d_common_parts ["one", "other"] []
  f_weights_of : Addr
  d_weights_of : FuncData
  F_weights_of : Fun K "weights_of" "weights_of" s_weights_of f_weights_of d_weights_of
  m_weights_of : mg "weights_of" = some (.ref f_weights_of)
  b_weights_of : Binds K d_weights_of ["many", "numbers"] []
  f_swaps_of : Addr
  d_swaps_of : FuncData
  F_swaps_of : Fun K "swaps_of" "swaps_of" s_swaps_of f_swaps_of d_swaps_of
  m_swaps_of : mg "swaps_of" = some (.ref f_swaps_of)
  b_swaps_of : Binds K d_swaps_of ["hands"] []
  f_readings_of : Addr
  d_readings_of : FuncData
  F_readings_of : Fun K "readings_of" "readings_of" s_readings_of f_readings_of d_readings_of
  m_readings_of : mg "readings_of" = some (.ref f_readings_of)
  b_readings_of : Binds K d_readings_of ["clock"] []
  f_rows_of : Addr
  d_rows_of : FuncData
  F_rows_of : Fun K "rows_of" "rows_of" s_rows_of f_rows_of d_rows_of
  m_rows_of : mg "rows_of" = some (.ref f_rows_of)
  b_rows_of : Binds K d_rows_of ["clock", "reading"] []
  f_coarse_step : Addr
  d_coarse_step : FuncData
  F_coarse_step : Fun K "coarse_step" "coarse_step" s_coarse_step f_coarse_step d_coarse_step
  m_coarse_step : mg "coarse_step" = some (.ref f_coarse_step)
  b_coarse_step : Binds K d_coarse_step ["clock"] []
  f_ask_fine : Addr
  d_ask_fine : FuncData
  F_ask_fine : Fun K "ask_fine" "ask_fine" s_ask_fine f_ask_fine d_ask_fine
  m_ask_fine : mg "ask_fine" = some (.ref f_ask_fine)
  b_ask_fine : Binds K d_ask_fine ["clock"] []
  f_numbers_solved : Addr
  d_numbers_solved : FuncData
  F_numbers_solved : Fun K "numbers_solved" "numbers_solved" s_numbers_solved f_numbers_solved d_numbers_solved
  m_numbers_solved : mg "numbers_solved" = some (.ref f_numbers_solved)
  b_numbers_solved : Binds K d_numbers_solved ["many", "factors", "dues"] []
  f_reading_solved : Addr
  d_reading_solved : FuncData
  F_reading_solved : Fun K "reading_solved" "reading_solved" s_reading_solved f_reading_solved d_reading_solved
  m_reading_solved : mg "reading_solved" = some (.ref f_reading_solved)
  b_reading_solved : Binds K d_reading_solved ["clock", "reading", "tick"] []
  f_tick_paper : Addr
  d_tick_paper : FuncData
  F_tick_paper : Fun K "tick_paper" "tick_paper" s_tick_paper f_tick_paper d_tick_paper
  m_tick_paper : mg "tick_paper" = some (.ref f_tick_paper)
  b_tick_paper : Binds K d_tick_paper ["clock", "tick"] []
  f_rivals_of : Addr
  d_rivals_of : FuncData
  F_rivals_of : Fun K "rivals_of" "rivals_of" s_rivals_of f_rivals_of d_rivals_of
  m_rivals_of : mg "rivals_of" = some (.ref f_rivals_of)
  b_rivals_of : Binds K d_rivals_of ["clock", "tick"] []
  f_marks_by_hand : Addr
  d_marks_by_hand : FuncData
  F_marks_by_hand : Fun K "marks_by_hand" "marks_by_hand" s_marks_by_hand f_marks_by_hand d_marks_by_hand
  m_marks_by_hand : mg "marks_by_hand" = some (.ref f_marks_by_hand)
  b_marks_by_hand : Binds K d_marks_by_hand ["clock", "picture"] []
  f_marks_solved : Addr
  d_marks_solved : FuncData
  F_marks_solved : Fun K "marks_solved" "marks_solved" s_marks_solved f_marks_solved d_marks_solved
  m_marks_solved : mg "marks_solved" = some (.ref f_marks_solved)
  b_marks_solved : Binds K d_marks_solved ["clock", "reading", "marks"] []
  f_read_picture : Addr
  d_read_picture : FuncData
  F_read_picture : Fun K "read_picture" "read_picture" s_read_picture f_read_picture d_read_picture
  m_read_picture : mg "read_picture" = some (.ref f_read_picture)
  b_read_picture : Binds K d_read_picture ["clock", "picture"] []
  f_picture_of : Addr
  d_picture_of : FuncData
  F_picture_of : Fun K "picture_of" "picture_of" s_picture_of f_picture_of d_picture_of
  m_picture_of : mg "picture_of" = some (.ref f_picture_of)
  b_picture_of : Binds K d_picture_of ["clock", "tick"] []
  f_moved : Addr
  d_moved : FuncData
  F_moved : Fun K "moved" "moved" s_moved f_moved d_moved
  m_moved : mg "moved" = some (.ref f_moved)
  b_moved : Binds K d_moved ["many", "picture", "sign", "more"] []
  f_same_picture : Addr
  d_same_picture : FuncData
  F_same_picture : Fun K "same_picture" "same_picture" s_same_picture f_same_picture d_same_picture
  m_same_picture : mg "same_picture" = some (.ref f_same_picture)
  b_same_picture : Binds K d_same_picture ["clock", "one", "other"] []
  f__law_purse : Addr
  d__law_purse : FuncData
  F__law_purse : Fun K "_law_purse" "_law_purse" s__law_purse f__law_purse d__law_purse
  m__law_purse : mg "_law_purse" = some (.ref f__law_purse)
  b__law_purse : Binds K d__law_purse ["_law_script", "_law_k"] []
  f__law_take : Addr
  d__law_take : FuncData
  F__law_take : Fun K "_law_take" "_law_take" s__law_take f__law_take d__law_take
  m__law_take : mg "_law_take" = some (.ref f__law_take)
  b__law_take : Binds K d__law_take ["_law_purse_here", "_law_many"] []
  f__law_looks : Addr
  d__law_looks : FuncData
  F__law_looks : Fun K "_law_looks" "_law_looks" s__law_looks f__law_looks d__law_looks
  m__law_looks : mg "_law_looks" = some (.ref f__law_looks)
  b__law_looks : Binds K d__law_looks ["_law_purse_here", "_law_many"] []
  f__law_number : Addr
  d__law_number : FuncData
  F__law_number : Fun K "_law_number" "_law_number" s__law_number f__law_number d__law_number
  m__law_number : mg "_law_number" = some (.ref f__law_number)
  b__law_number : Binds K d__law_number ["_law_purse_here", "_law_many"] []
  f__law_marks : Addr
  d__law_marks : FuncData
  F__law_marks : Fun K "_law_marks" "_law_marks" s__law_marks f__law_marks d__law_marks
  m__law_marks : mg "_law_marks" = some (.ref f__law_marks)
  b__law_marks : Binds K d__law_marks ["_law_purse_here", "_law_small"] []
  f__law_clock : Addr
  d__law_clock : FuncData
  F__law_clock : Fun K "_law_clock" "_law_clock" s__law_clock f__law_clock d__law_clock
  m__law_clock : mg "_law_clock" = some (.ref f__law_clock)
  b__law_clock : Binds K d__law_clock ["_law_script", "_law_small"] []
  f__law_picture : Addr
  d__law_picture : FuncData
  F__law_picture : Fun K "_law_picture" "_law_picture" s__law_picture f__law_picture d__law_picture
  m__law_picture : mg "_law_picture" = some (.ref f__law_picture)
  b__law_picture : Binds K d__law_picture ["_law_clock_here", "_law_tick"] []
  f__law_normal : Addr
  d__law_normal : FuncData
  F__law_normal : Fun K "_law_normal" "_law_normal" s__law_normal f__law_normal d__law_normal
  m__law_normal : mg "_law_normal" = some (.ref f__law_normal)
  b__law_normal : Binds K d__law_normal ["_law_clock_here", "_law_pairs"] []
  f__law_same : Addr
  d__law_same : FuncData
  F__law_same : Fun K "_law_same" "_law_same" s__law_same f__law_same d__law_same
  m__law_same : mg "_law_same" = some (.ref f__law_same)
  b__law_same : Binds K d__law_same ["_law_clock_here", "_law_one", "_law_other"] []
  f__law_other_picture : Addr
  d__law_other_picture : FuncData
  F__law_other_picture : Fun K "_law_other_picture" "_law_other_picture" s__law_other_picture f__law_other_picture d__law_other_picture
  m__law_other_picture : mg "_law_other_picture" = some (.ref f__law_other_picture)
  b__law_other_picture : Binds K d__law_other_picture ["_law_clock_here", "_law_pairs", "_law_purse_here"] []
  f__law_right : Addr
  d__law_right : FuncData
  F__law_right : Fun K "_law_right" "_law_right" s__law_right f__law_right d__law_right
  m__law_right : mg "_law_right" = some (.ref f__law_right)
  b__law_right : Binds K d__law_right ["_law_clock_here", "_law_tick", "_law_purse_here"] []
  f_law : Addr
  d_law : FuncData
  F_law : Fun K "law" "law" s_law f_law d_law
  m_law : mg "law" = some (.ref f_law)
  b_law : Binds K d_law ["_law_script"] []
  z_any : mg "any" = none
  z_enumerate : mg "enumerate" = none
  z_int : mg "int" = none
  z_len : mg "len" = none
  z_min : mg "min" = none
  z_range : mg "range" = none
  z_set : mg "set" = none
  z_sorted : mg "sorted" = none
  z_sum : mg "sum" = none
  z_tuple : mg "tuple" = none
  z_zip : mg "zip" = none
section
variable {P : Program} {w : World} {K : Frg} {mg : Str → Option Value} {base : Heap} (T : Tx K mg)
include T
theorem ok_common_parts : FnOk P w K mg base CX0 1 T.f_common_parts T.d_common_parts ["one", "other"] (spF K g_common_parts) :=
  fn_okE (k := 0) b_common_parts 8 2 T.F_common_parts sc_common_parts rfl rfl rfl fun cdv A outer s H E hr =>
  (xss_cons (xs_par 2 3 (xl_cons (xe_tup (xl_cons (xv 0) (xl_cons xe_int (xl_cons xe_int xl_nil)))) (xl_cons (xe_tup (xl_cons (xv 1) (xl_cons xe_int (xl_cons xe_int xl_nil)))) xl_nil)) sc_common_parts.nd)
  (xss_cons (xs_while FU PassesOwn.never (xb_cmp (op_neD hr.units) gq_ne (xe_idx (xv 3) xe_int) xe_int (nomark _))
  (xss_cons (xs_set 4 (xe_div (xe_idx (xv 2) xe_int) (xe_idx (xv 3) xe_int)) sc_common_parts.nd)
  (xss_cons (xs_set 5 (xe_tuple T.z_tuple (XE.xo (XN.xe (xn_comp (own := [("a", 6), ("b", 7)]) (xi_zip (xv 2) (xv 3) T.z_zip) sc_common_parts.nd (blkOk_by (N := N_common_parts) (sc := defScope s_common_parts) (by decide +kernel)) (fun _ _ _ _ _ => (xg_tup (xgs_cons (xg_name 6 sc_common_parts.nd) (xgs_cons (xg_name 7 sc_common_parts.nd) xgs_nil)))) (fun _ _ _ _ _ => xts_nil) (fun _ _ _ _ _ => (xe_sub (xv 6) (xe_mul (xv 4) (xv 7)))))))) sc_common_parts.nd)
  (xss_one (xs_par 2 3 (xl_cons (xv 3) (xl_cons (xv 5) xl_nil)) sc_common_parts.nd)))))
  (xss_one (xs_ret (xv 2)))))
theorem ok_weights_of : FnOk P w K mg base CX0 2 T.f_weights_of T.d_weights_of ["many", "numbers"] (spF K g_weights_of) :=
  fn_okE (k := 1) b_weights_of 8 2 T.F_weights_of sc_weights_of rfl rfl rfl fun cdv A outer s H E hr =>
  (xss_cons (xs_set 2 (xv 0) sc_weights_of.nd)
  (xss_cons (xs_set 3 (XN.xe (xn_lst xl_nil)) sc_weights_of.nd)
  (xss_cons (xs_for PassesOwn.never (xi_seq (xv 1)) (xg_name 4 sc_weights_of.nd)
  (xss_cons (xs_asg (xe_call ((ok_common_parts T).mono (by decide)) hr T.m_common_parts T.F_common_parts.kp T.b_common_parts (xa_v (xv 2) (xa_v (xe_mod (xv 4) (xv 0)) xa_nil))) (xg_tup (xgs_cons (xg_name 2 sc_weights_of.nd) (xgs_cons (xg_name 5 sc_weights_of.nd) (xgs_cons (xg_name 6 sc_weights_of.nd) xgs_nil)))))
  (xss_one (xs_set 3 (xe_add (XN.xe (xn_comp (own := [("weight", 7)]) (xi_seq (xv 3)) sc_weights_of.nd (blkOk_by (N := N_weights_of) (sc := defScope s_weights_of) (by decide +kernel)) (fun _ _ _ _ _ => (xg_name 7 sc_weights_of.nd)) (fun _ _ _ _ _ => xts_nil) (fun _ _ _ _ _ => (xe_mod (xe_mul (xv 7) (xv 5)) (xv 0))))) (XN.xe (xn_lst (xl_cons (xe_mod (xv 6) (xv 0)) xl_nil)))) sc_weights_of.nd))))
  (xss_one (xs_ret (xe_tup (xl_cons (xv 2) (xl_cons (xv 3) xl_nil))))))))
theorem ok_swaps_of : FnOk P w K mg base CX0 1 T.f_swaps_of T.d_swaps_of ["hands"] (spF K g_swaps_of) :=
  fn_okE (k := 0) b_swaps_of 8 1 T.F_swaps_of sc_swaps_of rfl rfl rfl fun cdv A outer s H E hr =>
  (xss_cons (xs_set 1 (XN.xe (xn_lst (xl_cons (xe_tup xl_nil) xl_nil))) sc_swaps_of.nd)
  (xss_cons (xs_for PassesOwn.never (xi_seq (xv 0)) (xg_tup (xgs_cons (xg_name 2 sc_swaps_of.nd) (xgs_cons (xg_name 3 sc_swaps_of.nd) (xgs_cons (xg_name 4 sc_swaps_of.nd) xgs_nil))))
  (xss_cons (xs_setO 5 (xn_lst xl_nil) sc_swaps_of.nd)
  (xss_cons (xs_for PassesOwn.never (xi_seq (xv 1)) (xg_name 6 sc_swaps_of.nd)
  (xss_one (xs_for PassesOwn.never (xi_rng1 (xe_len T.z_len (XE.xo (xv 0))) T.z_range) (xg_name 7 sc_swaps_of.nd)
  (xss_one (xs_if (xb_w (xw_and (xb_ni (hu65 hr) (xv 7) (XE.xo (xv 6))) (xw_and1 (xb_cmp (op_eqD hr.units) gq_eq (xe_idx (xe_idx (xv 0) (xv 7)) xe_int) (xv 4) (nomark _)))))
  (xss_one (xs_expr (xe_mut 5 PySem.F.slot_list_append PySem.F.type_list_append mt_append gm_append (xe_add (xv 6) (xe_tup (xl_cons (xv 7) xl_nil))))))
  xss_nil)))))
  (xss_one (xs_frz 5 (xs_set 1 (xv 5) sc_swaps_of.nd))))))
  (xss_one (xs_ret (xv 1)))))
theorem ok_readings_of : FnOk P w K mg base CX0 2 T.f_readings_of T.d_readings_of ["clock"] (spF K g_readings_of) :=
  fn_okE (k := 1) b_readings_of 3 1 T.F_readings_of sc_readings_of rfl rfl rfl fun cdv A outer s H E hr =>
  (xss_cons (xs_setO 1 (xn_lst xl_nil) sc_readings_of.nd)
  (xss_cons (xs_for PassesOwn.never (xi_seq (xe_call ((ok_swaps_of T).mono (by decide)) hr T.m_swaps_of T.F_swaps_of.kp T.b_swaps_of (xa_v (xe_idx (xv 0) xe_int) xa_nil))) (xg_name 2 sc_readings_of.nd)
  (xss_cons (xs_expr (xe_mut 1 PySem.F.slot_list_append PySem.F.type_list_append mt_append gm_append (xe_tup (xl_cons (xv 2) (xl_cons xe_bl xl_nil)))))
  (xss_one (xs_if (xb_val (xe_idx (xv 0) xe_int))
  (xss_one (xs_expr (xe_mut 1 PySem.F.slot_list_append PySem.F.type_list_append mt_append gm_append (xe_tup (xl_cons (xv 2) (xl_cons xe_bl xl_nil))))))
  xss_nil))))
  (xss_one (xs_frz 1 (xs_ret (xv 1))))))
theorem ok_rows_of : FnOk P w K mg base CX0 1 T.f_rows_of T.d_rows_of ["clock", "reading"] (spF K g_rows_of) :=
  fn_okE (k := 0) b_rows_of 17 2 T.F_rows_of sc_rows_of rfl rfl rfl fun cdv A outer s H E hr =>
  (xss_cons (xs_asg (xv 0) (xg_tup (xgs_cons (xg_name 2 sc_rows_of.nd) (xgs_cons (xg_name 3 sc_rows_of.nd) (xgs_cons (xg_name 4 sc_rows_of.nd) (xgs_cons (xg_name 5 sc_rows_of.nd) xgs_nil))))))
  (xss_cons (xs_asg (xv 1) (xg_tup (xgs_cons (xg_name 6 sc_rows_of.nd) (xgs_cons (xg_name 7 sc_rows_of.nd) xgs_nil))))
  (xss_cons (xs_set 8 (xe_sub xe_int (xe_mul xe_int (xe_int1 T.z_int (XE.xo (xv 7))))) sc_rows_of.nd)
  (xss_cons (xs_setO 9 (xn_lst xl_nil) sc_rows_of.nd)
  (xss_cons (xs_for PassesOwn.never (xi_zip (xv 6) (xv 3) T.z_zip) (xg_tup (xgs_cons (xg_name 10 sc_rows_of.nd) (xgs_cons (xg_tup (xgs_cons (xg_name 11 sc_rows_of.nd) (xgs_cons (xg_name 12 sc_rows_of.nd) (xgs_cons (xg_name 13 sc_rows_of.nd) xgs_nil)))) xgs_nil)))
  (xss_one (xs_expr (xe_mut 9 PySem.F.slot_list_append PySem.F.type_list_append mt_append gm_append (xe_tup (xl_cons (xe_idx (xe_idx (xv 3) (xv 10)) xe_int) (xl_cons (xe_mod (xe_mul (xv 8) (xv 11)) (xv 2)) (xl_cons (xe_mod (xe_sub (xe_mul (xv 8) (xv 12)) (xe_idx (xe_idx (xv 3) (xv 10)) xe_int)) (xv 2)) xl_nil))))))))
  (xss_cons (xs_if (xb_not (xb_val (xv 4)))
  (xss_one (xs_frz 9 (xs_ret (xv 9))))
  xss_nil)
  (xss_one (xs_ret (XN.xe (xn_comp (own := [("row", 14)]) (xi_seq (XN.xe (xn_sliceV 9 (xp_some xe_int) xp_none))) sc_rows_of.nd (blkOk_by (N := N_rows_of) (sc := defScope s_rows_of) (by decide +kernel)) (fun _ _ _ _ _ => (xg_name 14 sc_rows_of.nd)) (fun _ _ _ _ _ => xts_nil) (fun _ _ _ _ _ => (xe_tuple T.z_tuple (XE.xo (XN.xe (xn_comp (own := [("one", 15), ("other", 16)]) (xi_zip (xv 14) (xe_idxV 9 xe_int) T.z_zip) sc_rows_of.nd (blkOk_to rfl (blkOk_by (N := N_rows_of) (sc := sr_rows_of_0) (by decide +kernel))) (fun _ _ _ _ _ => (xg_tup (xgs_cons (xg_name 15 sc_rows_of.nd) (xgs_cons (xg_name 16 sc_rows_of.nd) xgs_nil)))) (fun _ _ _ _ _ => xts_nil) (fun _ _ _ _ _ => (xe_mod (xe_sub (xv 15) (xv 16)) (xv 2))))))))))))))))))
theorem ok_coarse_step : FnOk P w K mg base CX0 3 T.f_coarse_step T.d_coarse_step ["clock"] (spF K g_coarse_step) :=
  fn_okE (k := 2) b_coarse_step 5 1 T.F_coarse_step sc_coarse_step rfl rfl rfl fun cdv A outer s H E hr =>
  (xss_cons (xs_set 1 (xe_call ((ok_rows_of T).mono (by decide)) hr T.m_rows_of T.F_rows_of.kp T.b_rows_of (xa_v (xv 0) (xa_v (xe_idx (xe_call ((ok_readings_of T).mono (by decide)) hr T.m_readings_of T.F_readings_of.kp T.b_readings_of (xa_v (xv 0) xa_nil)) xe_int) xa_nil))) sc_coarse_step.nd)
  (xss_cons (xs_if (xb_cmp (op_eqD hr.units) gq_eq (xv 1) (XN.xe (xn_lst xl_nil)) (nomark _))
  (xss_one (xs_ret xe_int))
  xss_nil)
  (xss_one (xs_ret (xe_div (xe_idx (xv 0) xe_int) (xe_idx (xe_call ((ok_weights_of T).mono (by decide)) hr T.m_weights_of T.F_weights_of.kp T.b_weights_of (xa_v (xe_idx (xv 0) xe_int) (xa_v (XN.xe (xn_comp (own := [("a", 2), ("b", 3), ("c", 4)]) (xi_seq (xv 1)) sc_coarse_step.nd (blkOk_by (N := N_coarse_step) (sc := defScope s_coarse_step) (by decide +kernel)) (fun _ _ _ _ _ => (xg_tup (xgs_cons (xg_name 2 sc_coarse_step.nd) (xgs_cons (xg_name 3 sc_coarse_step.nd) (xgs_cons (xg_name 4 sc_coarse_step.nd) xgs_nil))))) (fun _ _ _ _ _ => xts_nil) (fun _ _ _ _ _ => (xv 2)))) xa_nil))) xe_int))))))
theorem ok_ask_fine : FnOk P w K mg base CX0 4 T.f_ask_fine T.d_ask_fine ["clock"] (spF K g_ask_fine) :=
  fn_okE (k := 3) b_ask_fine 2 1 T.F_ask_fine sc_ask_fine rfl rfl rfl fun cdv A outer s H E hr =>
  (xss_cons (xs_set 1 (xe_call ((ok_coarse_step T).mono (by decide)) hr T.m_coarse_step T.F_coarse_step.kp T.b_coarse_step (xa_v (xv 0) xa_nil)) sc_ask_fine.nd)
  (xss_one (xs_if (xb_cmp (op_neD hr.units) gq_ne (xv 1) (xe_idx (xv 0) xe_int) (nomark _))
  (xss_one xs_never)
  xss_nil)))
theorem ok_numbers_solved : FnOk P w K mg base CX0 3 T.f_numbers_solved T.d_numbers_solved ["many", "factors", "dues"] (spF K g_numbers_solved) :=
  fn_okE (k := 2) b_numbers_solved 12 3 T.F_numbers_solved sc_numbers_solved rfl rfl rfl fun cdv A outer s H E hr =>
  (xss_cons (xs_if (xb_cmp (op_eqD hr.units) gq_eq (xv 1) (XN.xe (xn_lst xl_nil)) (nomark _))
  (xss_one (xs_ret (xe_tup (xl_cons xe_str (xl_cons xe_int (xl_cons xe_int (xl_cons (XN.xe (xn_lst xl_nil)) xl_nil)))))))
  xss_nil)
  (xss_cons (xs_asg (xe_call ((ok_weights_of T).mono (by decide)) hr T.m_weights_of T.F_weights_of.kp T.b_weights_of (xa_v (xv 0) (xa_v (xv 1) xa_nil))) (xg_tup (xgs_cons (xg_name 3 sc_numbers_solved.nd) (xgs_cons (xg_name 4 sc_numbers_solved.nd) xgs_nil))))
  (xss_cons (xs_set 5 (xe_mod (xe_sum T.z_sum (XE.xo (XN.xe (xn_comp (own := [("weight", 9), ("one", 10)]) (xi_zip (xv 4) (xv 2) T.z_zip) sc_numbers_solved.nd (blkOk_by (N := N_numbers_solved) (sc := defScope s_numbers_solved) (by decide +kernel)) (fun _ _ _ _ _ => (xg_tup (xgs_cons (xg_name 9 sc_numbers_solved.nd) (xgs_cons (xg_name 10 sc_numbers_solved.nd) xgs_nil)))) (fun _ _ _ _ _ => xts_nil) (fun _ _ _ _ _ => (xe_mul (xv 9) (xv 10))))))) (xv 0)) sc_numbers_solved.nd)
  (xss_cons (xs_for PassesOwn.never (xi_enum (xv 1) T.z_enumerate) (xg_tup (xgs_cons (xg_name 6 sc_numbers_solved.nd) (xgs_cons (xg_name 7 sc_numbers_solved.nd) xgs_nil)))
  (xss_cons (xs_set 8 (xe_div (xv 7) (xv 3)) sc_numbers_solved.nd)
  (xss_one (xs_if (xb_cmp (op_neD hr.units) gq_ne (xe_mod (xe_sub (xe_idx (xv 2) (xv 6)) (xe_mul (xv 8) (xv 5))) (xv 0)) xe_int (nomark _))
  (xss_one (xs_ret (xe_tup (xl_cons xe_str (xl_cons (XN.xe (xn_comp (own := [("to", 11), ("weight", 9)]) (xi_enum (xv 4) T.z_enumerate) sc_numbers_solved.nd (blkOk_by (N := N_numbers_solved) (sc := defScope s_numbers_solved) (by decide +kernel)) (fun _ _ _ _ _ => (xg_tup (xgs_cons (xg_name 11 sc_numbers_solved.nd) (xgs_cons (xg_name 9 sc_numbers_solved.nd) xgs_nil)))) (fun _ _ _ _ _ => xts_nil) (fun _ _ _ _ _ => (xe_sub (xe_int1 T.z_int (XE.xo (xe_cmp (op_eqD hr.units) gq_eq (xv 11) (xv 6) (nomark _)))) (xe_mul (xv 8) (xv 9)))))) xl_nil)))))
  xss_nil))))
  (xss_one (xs_ret (xe_tup (xl_cons xe_str (xl_cons (xe_mod (xe_div (xv 5) (xv 3)) (xe_div (xv 0) (xv 3))) (xl_cons (xe_div (xv 0) (xv 3)) (xl_cons (xv 4) xl_nil)))))))))))
theorem ok_reading_solved : FnOk P w K mg base CX0 4 T.f_reading_solved T.d_reading_solved ["clock", "reading", "tick"] (spF K g_reading_solved) :=
  fn_okE (k := 3) b_reading_solved 8 3 T.F_reading_solved sc_reading_solved rfl rfl rfl fun cdv A outer s H E hr =>
  (xss_cons (xs_set 3 (xe_idx (xv 0) xe_int) sc_reading_solved.nd)
  (xss_cons (xs_set 4 (xe_call ((ok_rows_of T).mono (by decide)) hr T.m_rows_of T.F_rows_of.kp T.b_rows_of (xa_v (xv 0) (xa_v (xv 1) xa_nil))) sc_reading_solved.nd)
  (xss_one (xs_ret (xe_call ((ok_numbers_solved T).mono (by decide)) hr T.m_numbers_solved T.F_numbers_solved.kp T.b_numbers_solved (xa_v (xv 3) (xa_v (XN.xe (xn_comp (own := [("a", 5), ("b", 6), ("c", 7)]) (xi_seq (xv 4)) sc_reading_solved.nd (blkOk_by (N := N_reading_solved) (sc := defScope s_reading_solved) (by decide +kernel)) (fun _ _ _ _ _ => (xg_tup (xgs_cons (xg_name 5 sc_reading_solved.nd) (xgs_cons (xg_name 6 sc_reading_solved.nd) (xgs_cons (xg_name 7 sc_reading_solved.nd) xgs_nil))))) (fun _ _ _ _ _ => xts_nil) (fun _ _ _ _ _ => (xv 5)))) (xa_v (XN.xe (xn_comp (own := [("a", 5), ("b", 6), ("c", 7)]) (xi_seq (xv 4)) sc_reading_solved.nd (blkOk_by (N := N_reading_solved) (sc := defScope s_reading_solved) (by decide +kernel)) (fun _ _ _ _ _ => (xg_tup (xgs_cons (xg_name 5 sc_reading_solved.nd) (xgs_cons (xg_name 6 sc_reading_solved.nd) (xgs_cons (xg_name 7 sc_reading_solved.nd) xgs_nil))))) (fun _ _ _ _ _ => xts_nil) (fun _ _ _ _ _ => (xe_mod (xe_add (xe_mul (xv 6) (xv 2)) (xv 7)) (xv 3))))) xa_nil))))))))
theorem ok_tick_paper : FnOk P w K mg base CX0 5 T.f_tick_paper T.d_tick_paper ["clock", "tick"] (spF K g_tick_paper) :=
  fn_okE (k := 4) b_tick_paper 6 2 T.F_tick_paper sc_tick_paper rfl rfl rfl fun cdv A outer s H E hr =>
  (xss_cons (xs_set 2 (xe_idx (xv 0) xe_int) sc_tick_paper.nd)
  (xss_cons (xs_setO 3 (xn_lst xl_nil) sc_tick_paper.nd)
  (xss_cons (xs_for PassesOwn.never (xi_seq (xe_call ((ok_readings_of T).mono (by decide)) hr T.m_readings_of T.F_readings_of.kp T.b_readings_of (xa_v (xv 0) xa_nil))) (xg_name 4 sc_tick_paper.nd)
  (xss_cons (xs_set 5 (xe_call ((ok_reading_solved T).mono (by decide)) hr T.m_reading_solved T.F_reading_solved.kp T.b_reading_solved (xa_v (xv 0) (xa_v (xv 4) (xa_v (xv 1) xa_nil)))) sc_tick_paper.nd)
  (xss_one (xs_if (xb_cmp (op_eqD hr.units) gq_eq (xe_idx (xv 5) xe_int) xe_str (nomark _))
  (xss_one (xs_expr (xe_mut 3 PySem.F.slot_list_append PySem.F.type_list_append mt_append gm_append (xe_tup (xl_cons xe_str (xl_cons (xe_tuple T.z_tuple (XE.xo (xe_idx (xv 5) xe_int))) xl_nil))))))
  (xss_one (xs_if (xb_cmp (op_neD hr.units) gq_ne (xe_idx (xv 5) xe_int) (xe_mod (xv 1) (xe_idx (xv 5) xe_int)) (nomark _))
  (xss_one (xs_ret (xe_tup (xl_cons xe_str (xl_cons (xe_idx (xv 5) xe_int) (xl_cons (xv 4) xl_nil))))))
  (xss_one (xs_if (xb_cmp op_lt gq_lt (xe_idx (xv 5) xe_int) (xv 2) (nomark _))
  (xss_one (xs_ret (xe_tup (xl_cons xe_str (xl_cons (xe_mod (xe_add (xv 1) (xe_idx (xv 5) xe_int)) (xv 2)) (xl_cons (xv 4) xl_nil))))))
  (xss_one (xs_expr (xe_mut 3 PySem.F.slot_list_append PySem.F.type_list_append mt_append gm_append (xe_tup (xl_cons xe_str (xl_cons (xe_tuple T.z_tuple (XE.xo (xe_idx (xv 5) xe_int))) xl_nil))))))))))))))
  (xss_one (xs_frz 3 (xs_ret (xe_tup (xl_cons xe_str (xl_cons (xv 3) xl_nil)))))))))
theorem ok_rivals_of : FnOk P w K mg base CX0 5 T.f_rivals_of T.d_rivals_of ["clock", "tick"] (spF K g_rivals_of) :=
  fn_okE (k := 4) b_rivals_of 5 2 T.F_rivals_of sc_rivals_of rfl rfl rfl fun cdv A outer s H E hr =>
  (xss_cons (xs_expr (xe_call ((ok_ask_fine T).mono (by decide)) hr T.m_ask_fine T.F_ask_fine.kp T.b_ask_fine (xa_v (xv 0) xa_nil)))
  (xss_cons (xs_setO 2 (xn_lst xl_nil) sc_rivals_of.nd)
  (xss_cons (xs_for PassesOwn.never (xi_seq (xe_call ((ok_readings_of T).mono (by decide)) hr T.m_readings_of T.F_readings_of.kp T.b_readings_of (xa_v (xv 0) xa_nil))) (xg_name 3 sc_rivals_of.nd)
  (xss_cons (xs_set 4 (xe_call ((ok_reading_solved T).mono (by decide)) hr T.m_reading_solved T.F_reading_solved.kp T.b_reading_solved (xa_v (xv 0) (xa_v (xv 3) (xa_v (xv 1) xa_nil)))) sc_rivals_of.nd)
  (xss_one (xs_if (xb_w (xw_and (xb_cmp (op_eqD hr.units) gq_eq (xe_idx (xv 4) xe_int) xe_str (nomark _)) (xw_and (xb_cmp (op_neD hr.units) gq_ne (xe_idx (xv 4) xe_int) (xe_mod (xv 1) (xe_idx (xv 0) xe_int)) (nomark _)) (xw_and1 (xb_ni (hu65 hr) (xe_idx (xv 4) xe_int) (xvo 2))))))
  (xss_one (xs_expr (xe_mut 2 PySem.F.slot_list_append PySem.F.type_list_append mt_append gm_append (xe_idx (xv 4) xe_int))))
  xss_nil))))
  (xss_one (xs_ret (XN.xe (xn_sorted (hu65 hr) T.z_sorted (xvo 2))))))))
theorem ok_marks_by_hand : FnOk P w K mg base CX0 1 T.f_marks_by_hand T.d_marks_by_hand ["clock", "picture"] (spF K g_marks_by_hand) :=
  fn_okE (k := 0) b_marks_by_hand 9 2 T.F_marks_by_hand sc_marks_by_hand rfl rfl rfl fun cdv A outer s H E hr =>
  (xss_cons (xs_setO 2 (xn_sorted (hu65 hr) T.z_sorted (XE.xo (xv 1))) sc_marks_by_hand.nd)
  (xss_cons (xs_setO 3 (xn_lst xl_nil) sc_marks_by_hand.nd)
  (xss_cons (xs_for PassesOwn.never (xi_seq (xe_idx (xv 0) xe_int)) (xg_tup (xgs_cons (xg_name 4 sc_marks_by_hand.nd) (xgs_cons (xg_name 5 sc_marks_by_hand.nd) (xgs_cons (xg_name 6 sc_marks_by_hand.nd) xgs_nil))))
  (xss_cons (xs_setCompB 7 (own := [("pair", 8)]) (xi_seq (xv 2)) sc_marks_by_hand.nd (blkOk_by (N := N_marks_by_hand) (sc := defScope s_marks_by_hand) (by decide +kernel)) (fun _ _ _ _ _ => (xg_name 8 sc_marks_by_hand.nd)) (fun _ _ _ _ _ => (xts_one (xb_cmp (op_eqD hr.units) gq_eq (xe_idx (xv 8) xe_int) (xv 6) (nomark _)))) (fun _ _ _ _ _ => (xv 8)) (sw_true rfl rfl rfl (by decide +kernel)))
  (xss_cons (xs_if (xb_cmp (op_eqD hr.units) gq_eq (xv 7) (XN.xe (xn_lst xl_nil)) (nomark _))
  (xss_one (xs_ret xe_non))
  xss_nil)
  (xss_cons (xs_expr (xe_mut 3 PySem.F.slot_list_append PySem.F.type_list_append mt_append gm_append (xe_idx (xe_idx (xv 7) xe_int) xe_int)))
  (xss_one (xs_expr (xe_mut 2 PySem.F.slot_list_remove PySem.F.type_list_remove (mt_removeD (hu65 hr)) gm_remove (xe_idx (xv 7) xe_int))))))))
  (xss_cons (xs_if (xb_cmpV 2 (op_neD hr.units) gq_ne (XN.xe (xn_lst xl_nil)) (nomark _))
  (xss_one (xs_ret xe_non))
  xss_nil)
  (xss_one (xs_frz 3 (xs_ret (xv 3))))))))
theorem ok_marks_solved : FnOk P w K mg base CX0 4 T.f_marks_solved T.d_marks_solved ["clock", "reading", "marks"] (spF K g_marks_solved) :=
  fn_okE (k := 3) b_marks_solved 11 3 T.F_marks_solved sc_marks_solved rfl rfl rfl fun cdv A outer s H E hr =>
  (xss_cons (xs_set 3 (xe_idx (xv 0) xe_int) sc_marks_solved.nd)
  (xss_cons (xs_set 4 (xe_ifExp (xb_val (xe_idx (xv 1) xe_int)) (xe_neg xe_int) xe_int) sc_marks_solved.nd)
  (xss_cons (xs_set 5 (XN.xe (xn_comp (own := [("mark", 7), ("hand", 8)]) (xi_zipM (xv 2) (xe_idx (xv 0) xe_int) T.z_zip) sc_marks_solved.nd (blkOk_by (N := N_marks_solved) (sc := defScope s_marks_solved) (by decide +kernel)) (fun _ _ _ _ _ => (xg_tup (xgs_cons (xg_name 7 sc_marks_solved.nd) (xgs_cons (xg_name 8 sc_marks_solved.nd) xgs_nil)))) (fun _ _ _ _ _ => xts_nil) (fun _ _ _ _ _ => (xe_mul (xv 4) (xe_sub (xv 7) (xe_idx (xv 8) xe_int)))))) sc_marks_solved.nd)
  (xss_cons (xs_if (xb_val (xe_idx (xv 0) xe_int))
  (xss_one (xs_set 5 (XN.xe (xn_comp (own := [("one", 9)]) (xi_seq (xe_slice (xv 5) (xp_some xe_int) xp_none)) sc_marks_solved.nd (blkOk_by (N := N_marks_solved) (sc := defScope s_marks_solved) (by decide +kernel)) (fun _ _ _ _ _ => (xg_name 9 sc_marks_solved.nd)) (fun _ _ _ _ _ => xts_nil) (fun _ _ _ _ _ => (xe_sub (xv 9) (xe_idx (xv 5) xe_int))))) sc_marks_solved.nd))
  xss_nil)
  (xss_cons (xs_set 6 (xe_call ((ok_rows_of T).mono (by decide)) hr T.m_rows_of T.F_rows_of.kp T.b_rows_of (xa_v (xv 0) (xa_v (xv 1) xa_nil))) sc_marks_solved.nd)
  (xss_one (xs_ret (xe_call ((ok_numbers_solved T).mono (by decide)) hr T.m_numbers_solved T.F_numbers_solved.kp T.b_numbers_solved (xa_v (xv 3) (xa_v (XN.xe (xn_comp (own := [("row", 10)]) (xi_seq (xv 6)) sc_marks_solved.nd (blkOk_by (N := N_marks_solved) (sc := defScope s_marks_solved) (by decide +kernel)) (fun _ _ _ _ _ => (xg_name 10 sc_marks_solved.nd)) (fun _ _ _ _ _ => xts_nil) (fun _ _ _ _ _ => (xe_idx (xv 10) xe_int)))) (xa_v (XN.xe (xn_comp (own := [("row", 10), ("one", 9)]) (xi_zip (xv 6) (xv 5) T.z_zip) sc_marks_solved.nd (blkOk_by (N := N_marks_solved) (sc := defScope s_marks_solved) (by decide +kernel)) (fun _ _ _ _ _ => (xg_tup (xgs_cons (xg_name 10 sc_marks_solved.nd) (xgs_cons (xg_name 9 sc_marks_solved.nd) xgs_nil)))) (fun _ _ _ _ _ => xts_nil) (fun _ _ _ _ _ => (xe_mod (xe_add (xe_idx (xv 10) xe_int) (xv 9)) (xv 3))))) xa_nil)))))))))))
theorem ok_read_picture : FnOk P w K mg base CX0 5 T.f_read_picture T.d_read_picture ["clock", "picture"] (spF K g_read_picture) :=
  fn_okE (k := 4) b_read_picture 6 2 T.F_read_picture sc_read_picture rfl rfl rfl fun cdv A outer s H E hr =>
  (xss_cons (xs_expr (xe_call ((ok_ask_fine T).mono (by decide)) hr T.m_ask_fine T.F_ask_fine.kp T.b_ask_fine (xa_v (xv 0) xa_nil)))
  (xss_cons (xs_set 2 (xe_call ((ok_marks_by_hand T).mono (by decide)) hr T.m_marks_by_hand T.F_marks_by_hand.kp T.b_marks_by_hand (xa_v (xv 0) (xa_v (xv 1) xa_nil))) sc_read_picture.nd)
  (xss_cons (xs_setO 3 (xn_lst xl_nil) sc_read_picture.nd)
  (xss_cons (xs_if (xb_cmp op_notNo gq_ntN (xv 2) xe_non (nomark _))
  (xss_one (xs_for PassesOwn.never (xi_seq (xe_call ((ok_readings_of T).mono (by decide)) hr T.m_readings_of T.F_readings_of.kp T.b_readings_of (xa_v (xv 0) xa_nil))) (xg_name 4 sc_read_picture.nd)
  (xss_cons (xs_set 5 (xe_call ((ok_marks_solved T).mono (by decide)) hr T.m_marks_solved T.F_marks_solved.kp T.b_marks_solved (xa_v (xv 0) (xa_v (xv 4) (xa_v (xv 2) xa_nil)))) sc_read_picture.nd)
  (xss_one (xs_if (xb_w (xw_and (xb_cmp (op_eqD hr.units) gq_eq (xe_idx (xv 5) xe_int) xe_str (nomark _)) (xw_and1 (xb_ni (hu65 hr) (xe_idx (xv 5) xe_int) (xvo 3)))))
  (xss_one (xs_expr (xe_mut 3 PySem.F.slot_list_append PySem.F.type_list_append mt_append gm_append (xe_idx (xv 5) xe_int))))
  xss_nil)))))
  xss_nil)
  (xss_one (xs_ret (XN.xe (xn_sorted (hu65 hr) T.z_sorted (xvo 3)))))))))
theorem ok_picture_of : FnOk P w K mg base CX0 1 T.f_picture_of T.d_picture_of ["clock", "tick"] (spF K g_picture_of) :=
  fn_okE (k := 0) b_picture_of 5 2 T.F_picture_of sc_picture_of rfl rfl rfl fun cdv A outer s H E hr =>
  (xss_one (xs_ret (XN.xe (xn_sorted (hu65 hr) T.z_sorted (XE.xo (XN.xe (xn_comp (own := [("gear", 2), ("start", 3), ("look", 4)]) (xi_seq (xe_idx (xv 0) xe_int)) sc_picture_of.nd (blkOk_by (N := N_picture_of) (sc := defScope s_picture_of) (by decide +kernel)) (fun _ _ _ _ _ => (xg_tup (xgs_cons (xg_name 2 sc_picture_of.nd) (xgs_cons (xg_name 3 sc_picture_of.nd) (xgs_cons (xg_name 4 sc_picture_of.nd) xgs_nil))))) (fun _ _ _ _ _ => xts_nil) (fun _ _ _ _ _ => (xe_tup (xl_cons (xv 4) (xl_cons (xe_mod (xe_add (xv 3) (xe_mul (xv 2) (xv 1))) (xe_idx (xv 0) xe_int)) xl_nil)))))))))))
theorem ok_moved : FnOk P w K mg base CX0 1 T.f_moved T.d_moved ["many", "picture", "sign", "more"] (spF K g_moved) :=
  fn_okE (k := 0) b_moved 6 4 T.F_moved sc_moved rfl rfl rfl fun cdv A outer s H E hr =>
  (xss_one (xs_ret (XN.xe (xn_sorted (hu65 hr) T.z_sorted (XE.xo (XN.xe (xn_comp (own := [("look", 4), ("mark", 5)]) (xi_seq (xv 1)) sc_moved.nd (blkOk_by (N := N_moved) (sc := defScope s_moved) (by decide +kernel)) (fun _ _ _ _ _ => (xg_tup (xgs_cons (xg_name 4 sc_moved.nd) (xgs_cons (xg_name 5 sc_moved.nd) xgs_nil)))) (fun _ _ _ _ _ => xts_nil) (fun _ _ _ _ _ => (xe_tup (xl_cons (xv 4) (xl_cons (xe_mod (xe_add (xe_mul (xv 2) (xv 5)) (xv 3)) (xv 0)) xl_nil)))))))))))
theorem ok_same_picture : FnOk P w K mg base CX0 2 T.f_same_picture T.d_same_picture ["clock", "one", "other"] (spF K g_same_picture) :=
  fn_okE (k := 1) b_same_picture 14 3 T.F_same_picture sc_same_picture rfl rfl rfl fun cdv A outer s H E hr =>
  (xss_cons (xs_asg (xv 0) (xg_tup (xgs_cons (xg_name 3 sc_same_picture.nd) (xgs_cons (xg_name 4 sc_same_picture.nd) (xgs_cons (xg_name 5 sc_same_picture.nd) (xgs_cons (xg_name 6 sc_same_picture.nd) xgs_nil))))))
  (xss_cons (xs_set 7 (xe_call ((ok_picture_of T).mono (by decide)) hr T.m_picture_of T.F_picture_of.kp T.b_picture_of (xa_v (xv 0) (xa_v (xv 1) xa_nil))) sc_same_picture.nd)
  (xss_cons (xs_set 8 (xe_call ((ok_picture_of T).mono (by decide)) hr T.m_picture_of T.F_picture_of.kp T.b_picture_of (xa_v (xv 0) (xa_v (xv 2) xa_nil))) sc_same_picture.nd)
  (xss_cons (xs_for PassesOwn.never (xi_seq (xe_slice (XN.xe (xn_lst (xl_cons xe_int (xl_cons (xe_neg xe_int) xl_nil)))) xp_none (xp_some (xe_add xe_int (xe_int1 T.z_int (XE.xo (xv 6))))))) (xg_name 9 sc_same_picture.nd)
  (xss_cons (xs_set 10 (XN.xe (xn_lst (xl_cons xe_int xl_nil))) sc_same_picture.nd)
  (xss_cons (xs_if (xb_val (xv 5))
  (xss_one (xs_setComp 10 (own := [("look", 11), ("mark", 12)]) (xi_seq (xv 8)) sc_same_picture.nd (blkOk_by (N := N_same_picture) (sc := defScope s_same_picture) (by decide +kernel)) (fun _ _ _ _ _ => (xg_tup (xgs_cons (xg_name 11 sc_same_picture.nd) (xgs_cons (xg_name 12 sc_same_picture.nd) xgs_nil)))) (fun _ _ _ _ _ => xts_nil) (fun _ _ _ _ _ => (xe_sub (xv 12) (xe_mul (xv 9) (xe_idx (xe_idx (xv 7) xe_int) xe_int)))) (sw_true rfl rfl rfl (by decide +kernel))))
  xss_nil)
  (xss_one (xs_if (xb_val (xe_any T.z_any (XE.xo (XN.xe (xn_comp (own := [("more", 13)]) (xi_seq (xv 10)) sc_same_picture.nd (blkOk_by (N := N_same_picture) (sc := defScope s_same_picture) (by decide +kernel)) (fun _ _ _ _ _ => (xg_name 13 sc_same_picture.nd)) (fun _ _ _ _ _ => xts_nil) (fun _ _ _ _ _ => (xe_cmp (op_eqD hr.units) gq_eq (xe_call ((ok_moved T).mono (by decide)) hr T.m_moved T.F_moved.kp T.b_moved (xa_v (xv 3) (xa_v (xv 7) (xa_v (xv 9) (xa_v (xv 13) xa_nil))))) (xv 8) (nomark _))))))))
  (xss_one (xs_ret xe_bl))
  xss_nil)))))
  (xss_one (xs_ret xe_bl))))))
theorem ok__law_purse : FnOk P w K mg base CX0 1 T.f__law_purse T.d__law_purse ["_law_script", "_law_k"] (spN K g__law_purse) :=
  fn_newE (k := 0) b__law_purse 6 2 T.F__law_purse sc__law_purse rfl rfl rfl fun cdv A outer s H E hr =>
  (xss_cons (xs_set 2 xe_int sc__law_purse.nd)
  (xss_cons (xs_if (xb_cmp op_lt gq_lt (xv 1) (xe_len T.z_len (xvo 0)) (nomark _))
  (xss_one (xs_set 2 (xe_idxV 0 (xv 1)) sc__law_purse.nd))
  (xss_one (xs_if (xb_cmpV 0 (op_neD hr.units) gq_ne (XN.xe (xn_lst xl_nil)) (nomark _))
  (xss_one (xs_set 2 (xe_add (xe_mod (xe_idxV 0 (xe_mod (xv 1) (xe_len T.z_len (xvo 0)))) xe_int) (xe_mul xe_int (xv 1))) sc__law_purse.nd))
  xss_nil)))
  (xss_cons (xs_if (xb_cmp op_ge gq_ge (xv 2) (xe_pow xe_int xe_int) (nomark _))
  (xss_one (xs_retL (xn_lst (xl_cons (xv 2) xl_nil))))
  xss_nil)
  (xss_cons (xs_set 3 (xe_mod (xe_powW (xe_add (xe_add (xe_mod (xv 2) (xe_add (xe_pow xe_int xe_int) xe_int)) (xe_mul xe_int (xv 1))) xe_int) xe_int) (xe_add (xe_pow xe_int xe_int) xe_int)) sc__law_purse.nd)
  (xss_cons (xs_set 4 xe_int sc__law_purse.nd)
  (xss_cons (xs_for PassesOwn.never (xi_rng1 xe_int T.z_range) (xg_name 5 sc__law_purse.nd)
  (xss_cons (xs_set 3 (xe_add (xe_add (xe_add (xe_mul (xv 3) xe_int) (xe_mul xe_int (xv 1))) (xv 5)) xe_int) sc__law_purse.nd)
  (xss_cons (xs_set 3 (xe_mod (xv 3) (xe_add (xe_pow xe_int xe_int) xe_int)) sc__law_purse.nd)
  (xss_one (xs_set 4 (xe_add (xe_mul (xv 4) (xe_add (xe_pow xe_int xe_int) xe_int)) (xv 3)) sc__law_purse.nd)))))
  (xss_one (xs_retL (xn_lst (xl_cons (xv 4) xl_nil))))))))))
theorem ok__law_take : FnOk P w K mg base CX0 1 T.f__law_take T.d__law_take ["_law_purse_here", "_law_many"] (spF K g__law_take) :=
  fn_okE (k := 0) b__law_take 3 2 T.F__law_take sc__law_take rfl rfl rfl fun cdv A outer s H E hr =>
  (xss_cons (xs_set 2 (xe_mod (xe_idxV 0 xe_int) (xv 1)) sc__law_take.nd)
  (xss_cons (xs_put 0 (xe_div (xe_idxV 0 xe_int) (xv 1)) xe_int)
  (xss_one (xs_ret (xv 2)))))
theorem ok__law_looks : FnOk P w K mg base CX0 2 T.f__law_looks T.d__law_looks ["_law_purse_here", "_law_many"] (spF K g__law_looks) :=
  fn_okE (k := 1) b__law_looks 9 2 T.F__law_looks sc__law_looks rfl rfl rfl fun cdv A outer s H E hr =>
  (xss_cons (xs_set 2 (xe_call ((ok__law_take T).mono (by decide)) hr T.m__law_take T.F__law_take.kp T.b__law_take (xa_r 0 (xa_v xe_int xa_nil))) sc__law_looks.nd)
  (xss_cons (xs_set 3 (xe_idx (XN.xe (xn_lst (xl_cons xe_int (xl_cons xe_int (xl_cons xe_int (xl_cons xe_int (xl_cons xe_int (xl_cons xe_int (xl_cons xe_int (xl_cons xe_int xl_nil)))))))))) (xe_call ((ok__law_take T).mono (by decide)) hr T.m__law_take T.F__law_take.kp T.b__law_take (xa_r 0 (xa_v xe_int xa_nil)))) sc__law_looks.nd)
  (xss_cons (xs_setO 4 (xn_lst xl_nil) sc__law_looks.nd)
  (xss_cons (xs_for PassesOwn.never (xi_rng1 (xv 1) T.z_range) (xg_name 5 sc__law_looks.nd)
  (xss_one (xs_expr (xe_mut 4 PySem.F.slot_list_append PySem.F.type_list_append mt_append gm_append (xe_idx xe_str (xe_mod (xe_add (xv 2) (xe_mul (xv 3) (xv 5))) xe_int))))))
  (xss_cons (xs_set 6 (xe_call ((ok__law_take T).mono (by decide)) hr T.m__law_take T.F__law_take.kp T.b__law_take (xa_r 0 (xa_v xe_int xa_nil))) sc__law_looks.nd)
  (xss_cons (xs_if (xb_w (xw_and (xb_cmp op_gt gq_gt (xv 6) xe_int (nomark _)) (xw_and1 (xb_cmp op_gt gq_gt (xv 1) xe_int (nomark _)))))
  (xss_one (xs_put 4 (xe_idxV 4 xe_int) xe_int))
  xss_nil)
  (xss_cons (xs_if (xb_w (xw_and (xb_cmp (op_eqD hr.units) gq_eq (xv 6) xe_int (nomark _)) (xw_and1 (xb_cmp op_gt gq_gt (xv 1) xe_int (nomark _)))))
  (xss_one (xs_put 4 (xe_idxV 4 xe_int) xe_int))
  xss_nil)
  (xss_cons (xs_if (xb_w (xw_and (xb_cmp (op_eqD hr.units) gq_eq (xv 6) xe_int (nomark _)) (xw_and1 (xb_cmp op_gt gq_gt (xv 1) xe_int (nomark _)))))
  (xss_one (xs_put 4 (xe_idxV 4 xe_int) xe_int))
  xss_nil)
  (xss_cons (xs_setO 7 (xn_lst xl_nil) sc__law_looks.nd)
  (xss_cons (xs_frz 4 (xs_for PassesOwn.never (xi_seq (xv 4)) (xg_name 8 sc__law_looks.nd)
  (xss_one (xs_expr (xe_mut2 7 PySem.F.slot_list_insert PySem.F.type_list_insert mt_insert gm_insert (xe_call ((ok__law_take T).mono (by decide)) hr T.m__law_take T.F__law_take.kp T.b__law_take (xa_r 0 (xa_v (xe_add (xe_len T.z_len (xvo 7)) xe_int) xa_nil))) (xv 8))))))
  (xss_one (xs_frz 7 (xs_ret (xv 7))))))))))))))
theorem ok__law_number : FnOk P w K mg base CX0 2 T.f__law_number T.d__law_number ["_law_purse_here", "_law_many"] (spF K g__law_number) :=
  fn_okE (k := 1) b__law_number 4 2 T.F__law_number sc__law_number rfl rfl rfl fun cdv A outer s H E hr =>
  (xss_cons (xs_set 2 (xe_idx (XN.xe (xn_lst (xl_cons xe_int (xl_cons xe_int (xl_cons xe_int (xl_cons xe_int (xl_cons xe_int (xl_cons xe_int xl_nil)))))))) (xe_call ((ok__law_take T).mono (by decide)) hr T.m__law_take T.F__law_take.kp T.b__law_take (xa_r 0 (xa_v xe_int xa_nil)))) sc__law_number.nd)
  (xss_cons (xs_setO 3 (xn_lst (xl_cons xe_int (xl_cons xe_int (xl_cons (xe_sub (xv 1) xe_int) (xl_cons (xe_mod (xe_call ((ok__law_take T).mono (by decide)) hr T.m__law_take T.F__law_take.kp T.b__law_take (xa_r 0 (xa_v xe_int xa_nil))) (xv 1)) xl_nil))))) sc__law_number.nd)
  (xss_cons (xs_expr (xe_mut 3 PySem.F.slot_list_append PySem.F.type_list_append mt_append gm_append (xe_call ((ok__law_take T).mono (by decide)) hr T.m__law_take T.F__law_take.kp T.b__law_take (xa_r 0 (xa_v (xv 1) xa_nil)))))
  (xss_cons (xs_if (xb_cmp (op_eqD hr.units) gq_eq (xe_mod (xv 1) (xv 2)) xe_int (nomark _))
  (xss_cons (xs_expr (xe_mut 3 PySem.F.slot_list_append PySem.F.type_list_append mt_append gm_append (xe_mul (xe_div (xv 1) (xv 2)) (xe_call ((ok__law_take T).mono (by decide)) hr T.m__law_take T.F__law_take.kp T.b__law_take (xa_r 0 (xa_v (xv 2) xa_nil))))))
  (xss_one (xs_expr (xe_mut 3 PySem.F.slot_list_append PySem.F.type_list_append mt_append gm_append (xe_mul (xv 2) (xe_call ((ok__law_take T).mono (by decide)) hr T.m__law_take T.F__law_take.kp T.b__law_take (xa_r 0 (xa_v (xe_div (xv 1) (xv 2)) xa_nil))))))))
  xss_nil)
  (xss_one (xs_ret (xe_idxV 3 (xe_call ((ok__law_take T).mono (by decide)) hr T.m__law_take T.F__law_take.kp T.b__law_take (xa_r 0 (xa_v (xe_len T.z_len (xvo 3)) xa_nil))))))))))
theorem ok__law_marks : FnOk P w K mg base CX0 2 T.f__law_marks T.d__law_marks ["_law_purse_here", "_law_small"] (spF K g__law_marks) :=
  fn_okE (k := 1) b__law_marks 3 2 T.F__law_marks sc__law_marks rfl rfl rfl fun cdv A outer s H E hr =>
  (xss_cons (xs_if (xb_val (xv 1))
  (xss_one (xs_ret (xe_add xe_int (xe_call ((ok__law_take T).mono (by decide)) hr T.m__law_take T.F__law_take.kp T.b__law_take (xa_r 0 (xa_v xe_int xa_nil))))))
  xss_nil)
  (xss_cons (xs_setO 2 (xn_lst (xl_cons xe_int (xl_cons xe_int (xl_cons xe_int (xl_cons xe_int (xl_cons (xe_pow xe_int xe_int) (xl_cons (xe_pow xe_int xe_int) (xl_cons (xe_pow xe_int xe_int) (xl_cons (xe_add xe_int (xe_call ((ok__law_take T).mono (by decide)) hr T.m__law_take T.F__law_take.kp T.b__law_take (xa_r 0 (xa_v (xe_sub (xe_pow xe_int xe_int) xe_int) xa_nil)))) xl_nil))))))))) sc__law_marks.nd)
  (xss_cons (xs_expr (xe_mut 2 PySem.F.slot_list_append PySem.F.type_list_append mt_append gm_append (xe_mul xe_int (xe_add xe_int (xe_call ((ok__law_take T).mono (by decide)) hr T.m__law_take T.F__law_take.kp T.b__law_take (xa_r 0 (xa_v (xe_pow xe_int xe_int) xa_nil)))))))
  (xss_one (xs_ret (xe_idxV 2 (xe_call ((ok__law_take T).mono (by decide)) hr T.m__law_take T.F__law_take.kp T.b__law_take (xa_r 0 (xa_v xe_int xa_nil)))))))))
theorem ok__law_clock : FnOk P w K mg base CX0 3 T.f__law_clock T.d__law_clock ["_law_script", "_law_small"] (spF K g__law_clock) :=
  fn_okE (k := 2) b__law_clock 13 2 T.F__law_clock sc__law_clock rfl rfl rfl fun cdv A outer s H E hr =>
  (xss_cons (xs_setO 2 (xn_call ((ok__law_purse T).mono (by decide)) hr T.m__law_purse T.F__law_purse.kp T.b__law_purse (xa_o 0 (xa_v xe_int xa_nil))) sc__law_clock.nd)
  (xss_cons (xs_set 3 (xe_call ((ok__law_marks T).mono (by decide)) hr T.m__law_marks T.F__law_marks.kp T.b__law_marks (xa_r 2 (xa_v (xv 1) xa_nil))) sc__law_clock.nd)
  (xss_cons (xs_set 4 (xe_idx (XN.xe (xn_lst (xl_cons xe_int (xl_cons xe_int (xl_cons xe_int (xl_cons xe_int (xl_cons xe_int (xl_cons xe_int (xl_cons xe_int (xl_cons xe_int xl_nil)))))))))) (xe_call ((ok__law_take T).mono (by decide)) hr T.m__law_take T.F__law_take.kp T.b__law_take (xa_r 2 (xa_v xe_int xa_nil)))) sc__law_clock.nd)
  (xss_cons (xs_set 5 (xe_call ((ok__law_looks T).mono (by decide)) hr T.m__law_looks T.F__law_looks.kp T.b__law_looks (xa_r 2 (xa_v (xv 4) xa_nil))) sc__law_clock.nd)
  (xss_cons (xs_set 6 (xe_cmp (op_eqD hr.units) gq_eq (xe_call ((ok__law_take T).mono (by decide)) hr T.m__law_take T.F__law_take.kp T.b__law_take (xa_r 2 (xa_v xe_int xa_nil))) xe_int (nomark _)) sc__law_clock.nd)
  (xss_cons (xs_set 7 (xe_and (xe_cmp (op_eqD hr.units) gq_eq (xe_call ((ok__law_take T).mono (by decide)) hr T.m__law_take T.F__law_take.kp T.b__law_take (xa_r 2 (xa_v xe_int xa_nil))) xe_int (nomark _)) (xe_one (xe_cmp op_gt gq_gt (xe_lenSet T.z_len T.z_set (xv 5)) (xe_sub (xv 4) xe_int) (nomark _)))) sc__law_clock.nd)
  (xss_cons (xs_setO 8 (xn_lst xl_nil) sc__law_clock.nd)
  (xss_cons (xs_for PassesOwn.never (xi_rng1 (xv 4) T.z_range) (xg_name 9 sc__law_clock.nd)
  (xss_cons (xs_setO 10 (xn_call ((ok__law_purse T).mono (by decide)) hr T.m__law_purse T.F__law_purse.kp T.b__law_purse (xa_o 0 (xa_v (xe_add xe_int (xv 9)) xa_nil))) sc__law_clock.nd)
  (xss_cons (xs_set 11 (xe_call ((ok__law_number T).mono (by decide)) hr T.m__law_number T.F__law_number.kp T.b__law_number (xa_r 10 (xa_v (xv 3) xa_nil))) sc__law_clock.nd)
  (xss_cons (xs_set 12 (xe_idx (XN.xe (xn_lst (xl_cons xe_int (xl_cons (xe_call ((ok__law_take T).mono (by decide)) hr T.m__law_take T.F__law_take.kp T.b__law_take (xa_r 10 (xa_v (xv 3) xa_nil))) (xl_cons (xe_call ((ok__law_number T).mono (by decide)) hr T.m__law_number T.F__law_number.kp T.b__law_number (xa_r 10 (xa_v (xv 3) xa_nil))) xl_nil))))) (xe_call ((ok__law_take T).mono (by decide)) hr T.m__law_take T.F__law_take.kp T.b__law_take (xa_r 10 (xa_v xe_int xa_nil)))) sc__law_clock.nd)
  (xss_one (xs_expr (xe_mut 8 PySem.F.slot_list_append PySem.F.type_list_append mt_append gm_append (xe_tup (xl_cons (xv 11) (xl_cons (xv 12) (xl_cons (xe_idx (xv 5) (xv 9)) xl_nil)))))))))))
  (xss_one (xs_ret (xe_tup (xl_cons (xv 3) (xl_cons (xe_tuple T.z_tuple (xvo 8)) (xl_cons (xv 6) (xl_cons (xv 7) xl_nil)))))))))))))))
theorem ok__law_picture : FnOk P w K mg base CX0 1 T.f__law_picture T.d__law_picture ["_law_clock_here", "_law_tick"] (spN K g__law_picture) :=
  fn_newE (k := 0) b__law_picture 5 2 T.F__law_picture sc__law_picture rfl rfl rfl fun cdv A outer s H E hr =>
  (xss_one (xs_retL (xn_sorted (hu65 hr) T.z_sorted (XE.xo (XN.xe (xn_comp (own := [("_law_gear", 2), ("_law_start", 3), ("_law_look", 4)]) (xi_seq (xe_idx (xv 0) xe_int)) sc__law_picture.nd (blkOk_by (N := N__law_picture) (sc := defScope s__law_picture) (by decide +kernel)) (fun _ _ _ _ _ => (xg_tup (xgs_cons (xg_name 2 sc__law_picture.nd) (xgs_cons (xg_name 3 sc__law_picture.nd) (xgs_cons (xg_name 4 sc__law_picture.nd) xgs_nil))))) (fun _ _ _ _ _ => xts_nil) (fun _ _ _ _ _ => (xe_tup (xl_cons (xv 4) (xl_cons (xe_mod (xe_add (xv 3) (xe_mul (xv 2) (xv 1))) (xe_idx (xv 0) xe_int)) xl_nil))))))))))
theorem ok__law_normal : FnOk P w K mg base CX0 1 T.f__law_normal T.d__law_normal ["_law_clock_here", "_law_pairs"] (spF K g__law_normal) :=
  fn_okE (k := 0) b__law_normal 14 2 T.F__law_normal sc__law_normal rfl rfl rfl fun cdv A outer s H E hr =>
  (xss_cons (xs_asg (xv 0) (xg_tup (xgs_cons (xg_name 2 sc__law_normal.nd) (xgs_cons (xg_name 3 sc__law_normal.nd) (xgs_cons (xg_name 4 sc__law_normal.nd) (xgs_cons (xg_name 5 sc__law_normal.nd) xgs_nil))))))
  (xss_cons (xs_setO 6 (xn_lst xl_nil) sc__law_normal.nd)
  (xss_cons (xs_for PassesOwn.never (xi_seq (xe_slice (XN.xe (xn_lst (xl_cons xe_int (xl_cons (xe_neg xe_int) xl_nil)))) xp_none (xp_some (xe_add xe_int (xe_int1 T.z_int (XE.xo (xv 5))))))) (xg_name 7 sc__law_normal.nd)
  (xss_cons (xs_setComp 8 (own := [("_law_look", 11), ("_law_mark", 12)]) (xi_seq (xv 1)) sc__law_normal.nd (blkOk_by (N := N__law_normal) (sc := defScope s__law_normal) (by decide +kernel)) (fun _ _ _ _ _ => (xg_tup (xgs_cons (xg_name 11 sc__law_normal.nd) (xgs_cons (xg_name 12 sc__law_normal.nd) xgs_nil)))) (fun _ _ _ _ _ => xts_nil) (fun _ _ _ _ _ => (xe_tup (xl_cons (xv 11) (xl_cons (xe_mod (xe_mul (xv 7) (xv 12)) (xv 2)) xl_nil)))) (sw_true rfl rfl rfl (by decide +kernel)))
  (xss_one (xs_for PassesOwn.never (xi_seq (xe_add (xe_mul (XN.xe (xn_lst (xl_cons xe_int xl_nil))) (xe_int1 T.z_int (XE.xo (xe_not (xv 4))))) (xe_mul (XN.xe (xn_comp (own := [("_law_pair", 13)]) (xi_seq (xv 8)) sc__law_normal.nd (blkOk_by (N := N__law_normal) (sc := defScope s__law_normal) (by decide +kernel)) (fun _ _ _ _ _ => (xg_name 13 sc__law_normal.nd)) (fun _ _ _ _ _ => xts_nil) (fun _ _ _ _ _ => (xe_idx (xv 13) xe_int)))) (xe_int1 T.z_int (XE.xo (xv 4)))))) (xg_name 9 sc__law_normal.nd)
  (xss_cons (xs_setComp 10 (own := [("_law_look", 11), ("_law_mark", 12)]) (xi_seq (xv 8)) sc__law_normal.nd (blkOk_by (N := N__law_normal) (sc := defScope s__law_normal) (by decide +kernel)) (fun _ _ _ _ _ => (xg_tup (xgs_cons (xg_name 11 sc__law_normal.nd) (xgs_cons (xg_name 12 sc__law_normal.nd) xgs_nil)))) (fun _ _ _ _ _ => xts_nil) (fun _ _ _ _ _ => (xe_tup (xl_cons (xv 11) (xl_cons (xe_mod (xe_sub (xv 12) (xv 9)) (xv 2)) xl_nil)))) (sw_true rfl rfl rfl (by decide +kernel)))
  (xss_one (xs_expr (xe_mut 6 PySem.F.slot_list_append PySem.F.type_list_append mt_append gm_append (XN.xe (xn_sorted (hu65 hr) T.z_sorted (XE.xo (xv 10))))))))))))
  (xss_one (xs_ret (xe_minL (hu65 hr) T.z_min (xvo 6)))))))
theorem ok__law_same : FnOk P w K mg base CX0 2 T.f__law_same T.d__law_same ["_law_clock_here", "_law_one", "_law_other"] (spF K g__law_same) :=
  fn_okE (k := 1) b__law_same 5 3 T.F__law_same sc__law_same rfl rfl rfl fun cdv A outer s H E hr =>
  (xss_cons (xs_setComp 3 (own := [("_law_tick", 4)]) (xi_seq (xe_tup (xl_cons (xv 1) (xl_cons (xv 2) xl_nil)))) sc__law_same.nd (blkOk_by (N := N__law_same) (sc := defScope s__law_same) (by decide +kernel)) (fun _ _ _ _ _ => (xg_name 4 sc__law_same.nd)) (fun _ _ _ _ _ => xts_nil) (fun _ _ _ _ _ => (xe_call ((ok__law_normal T).mono (by decide)) hr T.m__law_normal T.F__law_normal.kp T.b__law_normal (xa_v (xv 0) (xa_v (XN.xe (xn_call ((ok__law_picture T).mono (by decide)) hr T.m__law_picture T.F__law_picture.kp T.b__law_picture (xa_v (xv 0) (xa_v (xv 4) xa_nil)))) xa_nil)))) (sw_true rfl rfl rfl (by decide +kernel)))
  (xss_one (xs_ret (xe_cmp (op_eqD hr.units) gq_eq (xe_idx (xv 3) xe_int) (xe_idx (xv 3) xe_int) (nomark _)))))
theorem ok__law_other_picture : FnOk P w K mg base CX0 2 T.f__law_other_picture T.d__law_other_picture ["_law_clock_here", "_law_pairs", "_law_purse_here"] (spF K g__law_other_picture) :=
  fn_okE (k := 1) b__law_other_picture 11 3 T.F__law_other_picture sc__law_other_picture rfl rfl rfl fun cdv A outer s H E hr =>
  (xss_cons (xs_asg (xv 0) (xg_tup (xgs_cons (xg_name 3 sc__law_other_picture.nd) (xgs_cons (xg_name 4 sc__law_other_picture.nd) (xgs_cons (xg_name 5 sc__law_other_picture.nd) (xgs_cons (xg_name 6 sc__law_other_picture.nd) xgs_nil))))))
  (xss_cons (xs_set 7 (xe_sub xe_int (xe_mul xe_int (xe_call ((ok__law_take T).mono (by decide)) hr T.m__law_take T.F__law_take.kp T.b__law_take (xa_r 2 (xa_v (xe_add xe_int (xe_int1 T.z_int (XE.xo (xv 6)))) xa_nil))))) sc__law_other_picture.nd)
  (xss_cons (xs_set 8 (xe_mul (xe_call ((ok__law_take T).mono (by decide)) hr T.m__law_take T.F__law_take.kp T.b__law_take (xa_r 2 (xa_v (xv 3) xa_nil))) (xe_int1 T.z_int (XE.xo (xv 5)))) sc__law_other_picture.nd)
  (xss_one (xs_ret (XN.xe (xn_comp (own := [("_law_look", 9), ("_law_mark", 10)]) (xi_seq (XN.xe (xn_revO (xvo 1)))) sc__law_other_picture.nd (blkOk_by (N := N__law_other_picture) (sc := defScope s__law_other_picture) (by decide +kernel)) (fun _ _ _ _ _ => (xg_tup (xgs_cons (xg_name 9 sc__law_other_picture.nd) (xgs_cons (xg_name 10 sc__law_other_picture.nd) xgs_nil)))) (fun _ _ _ _ _ => xts_nil) (fun _ _ _ _ _ => (xe_tup (xl_cons (xv 9) (xl_cons (xe_mod (xe_add (xe_mul (xv 7) (xv 10)) (xv 8)) (xv 3)) xl_nil)))))))))))
theorem ok__law_right : FnOk P w K mg base CX0 6 T.f__law_right T.d__law_right ["_law_clock_here", "_law_tick", "_law_purse_here"] (spF K g__law_right) :=
  fn_okE (k := 5) b__law_right 14 3 T.F__law_right sc__law_right rfl rfl rfl fun cdv A outer s H E hr =>
  (xss_cons (xs_set 3 (xe_idx (xv 0) xe_int) sc__law_right.nd)
  (xss_cons (xs_set 4 (XN.xe (xn_sorted (hu65 hr) T.z_sorted (XE.xo (xe_add (xe_call ((ok_rivals_of T).mono (by decide)) hr T.m_rivals_of T.F_rivals_of.kp T.b_rivals_of (xa_v (xv 0) (xa_v (xv 1) xa_nil))) (XN.xe (xn_lst (xl_cons (xv 1) xl_nil))))))) sc__law_right.nd)
  (xss_cons (xs_for PassesOwn.never (xi_seq (xv 4)) (xg_name 5 sc__law_right.nd)
  (xss_cons (xs_if (xb_cmp (op_neD hr.units) gq_ne (XN.xe (xn_sorted (hu65 hr) T.z_sorted (XE.xo (xe_add (xe_call ((ok_rivals_of T).mono (by decide)) hr T.m_rivals_of T.F_rivals_of.kp T.b_rivals_of (xa_v (xv 0) (xa_v (xv 5) xa_nil))) (XN.xe (xn_lst (xl_cons (xv 5) xl_nil))))))) (xv 4) (nomark _))
  (xss_one (xs_ret xe_bl))
  xss_nil)
  (xss_cons (xs_if (xb_not (xb_val (xe_call ((ok__law_same T).mono (by decide)) hr T.m__law_same T.F__law_same.kp T.b__law_same (xa_v (xv 0) (xa_v (xv 1) (xa_v (xv 5) xa_nil))))))
  (xss_one (xs_ret xe_bl))
  xss_nil)
  (xss_one (xs_if (xb_cmp op_notBl gq_ntB (xe_call ((ok_same_picture T).mono (by decide)) hr T.m_same_picture T.F_same_picture.kp T.b_same_picture (xa_v (xv 0) (xa_v (xv 5) (xa_v (xv 1) xa_nil)))) xe_bl (nomark _))
  (xss_one (xs_ret xe_bl))
  xss_nil)))))
  (xss_cons (xs_setO 6 (xn_call ((ok__law_picture T).mono (by decide)) hr T.m__law_picture T.F__law_picture.kp T.b__law_picture (xa_v (xv 0) (xa_v (xv 1) xa_nil))) sc__law_right.nd)
  (xss_cons (xs_if (xb_cmpQ (op_neD hr.units) gq_ne (xe_call ((ok_picture_of T).mono (by decide)) hr T.m_picture_of T.F_picture_of.kp T.b_picture_of (xa_v (xv 0) (xa_v (xv 1) xa_nil))) (xvo 6) (nomark _))
  (xss_one (xs_ret xe_bl))
  xss_nil)
  (xss_cons (xs_forTw 6 7 PassesOwn.never (xe_call ((ok__law_other_picture T).mono (by decide)) hr T.m__law_other_picture T.F__law_other_picture.kp T.b__law_other_picture (xa_v (xv 0) (xa_o 6 (xa_r 2 xa_nil)))) (xpu_if (xb_cmp (op_neD hr.units) gq_ne (xe_call ((ok_read_picture T).mono (by decide)) hr T.m_read_picture T.F_read_picture.kp T.b_read_picture (xa_v (xv 0) (xa_v (xv 7) xa_nil))) (xv 4) (nomark _)) (xpus_one (xpu_ret xe_bl)) xpus_nil) sc__law_right.nd)
  (xss_cons (xs_set 8 (xe_call ((ok__law_take T).mono (by decide)) hr T.m__law_take T.F__law_take.kp T.b__law_take (xa_r 2 (xa_v (xe_len T.z_len (xvo 6)) xa_nil))) sc__law_right.nd)
  (xss_cons (xs_asg (xe_mut 6 PySem.F.slot_list_pop PySem.F.type_list_pop mt_popAt gm_popAt (xv 8)) (xg_tup (xgs_cons (xg_name 9 sc__law_right.nd) (xgs_cons (xg_name 10 sc__law_right.nd) xgs_nil))))
  (xss_cons (xs_expr (xe_mut2 6 PySem.F.slot_list_insert PySem.F.type_list_insert mt_insert gm_insert (xv 8) (xe_tup (xl_cons (xv 9) (xl_cons (xe_mod (xe_add (xe_add (xv 10) xe_int) (xe_call ((ok__law_take T).mono (by decide)) hr T.m__law_take T.F__law_take.kp T.b__law_take (xa_r 2 (xa_v xe_int xa_nil)))) (xv 3)) xl_nil)))))
  (xss_cons (xs_frz 6 (xs_for PassesOwn.never (xi_seq (xe_call ((ok_read_picture T).mono (by decide)) hr T.m_read_picture T.F_read_picture.kp T.b_read_picture (xa_v (xv 0) (xa_v (xv 6) xa_nil)))) (xg_name 5 sc__law_right.nd)
  (xss_cons (xs_set 11 (xe_call ((ok__law_normal T).mono (by decide)) hr T.m__law_normal T.F__law_normal.kp T.b__law_normal (xa_v (xv 0) (xa_v (XN.xe (xn_call ((ok__law_picture T).mono (by decide)) hr T.m__law_picture T.F__law_picture.kp T.b__law_picture (xa_v (xv 0) (xa_v (xv 5) xa_nil)))) xa_nil))) sc__law_right.nd)
  (xss_one (xs_if (xb_bor (xb_cmp (op_neD hr.units) gq_ne (xv 11) (xe_call ((ok__law_normal T).mono (by decide)) hr T.m__law_normal T.F__law_normal.kp T.b__law_normal (xa_v (xv 0) (xa_v (xv 6) xa_nil))) (nomark _)))
  (xss_one (xs_ret xe_bl))
  xss_nil)))))
  (xss_cons (xs_set 12 (xe_call ((ok_tick_paper T).mono (by decide)) hr T.m_tick_paper T.F_tick_paper.kp T.b_tick_paper (xa_v (xv 0) (xa_v (xv 1) xa_nil))) sc__law_right.nd)
  (xss_cons (xs_if (xb_cmp (op_neD hr.units) gq_ne (xe_cmp (op_eqD hr.units) gq_eq (xe_idx (xv 12) xe_int) xe_str (nomark _)) (xe_cmp op_gt gq_gt (xe_len T.z_len (XE.xo (xv 4))) xe_int (nomark _)) (nomark _))
  (xss_one (xs_ret xe_bl))
  xss_nil)
  (xss_cons (xs_if (xb_w (xw_and (xb_cmp (op_eqD hr.units) gq_eq (xe_idx (xv 12) xe_int) xe_str (nomark _)) (xw_and1 (xb_w (xw_or (xb_ni (hu65 hr) (xe_idx (xv 12) xe_int) (XE.xo (xv 4))) (xw_or1 (xb_cmp (op_eqD hr.units) gq_eq (xe_idx (xv 12) xe_int) (xv 1) (nomark _))))))))
  (xss_one (xs_ret xe_bl))
  xss_nil)
  (xss_cons (xs_for PassesOwn.never (xi_rng1 xe_int T.z_range) (xg_name 13 sc__law_right.nd)
  (xss_cons (xs_set 7 (XN.xe (xn_lst (xl_cons (xe_call ((ok__law_take T).mono (by decide)) hr T.m__law_take T.F__law_take.kp T.b__law_take (xa_r 2 (xa_v (xv 3) xa_nil))) (xl_cons (xe_sub xe_int (xv 1)) (xl_cons (xe_add (xv 1) (xe_div (xv 3) xe_int)) xl_nil))))) sc__law_right.nd)
  (xss_cons (xs_set 5 (xe_mod (xe_idx (xv 7) (xe_mod (xv 13) xe_int)) (xv 3)) sc__law_right.nd)
  (xss_one (xs_if (xb_cmp (op_neD hr.units) gq_ne (xe_call ((ok__law_same T).mono (by decide)) hr T.m__law_same T.F__law_same.kp T.b__law_same (xa_v (xv 0) (xa_v (xv 1) (xa_v (xv 5) xa_nil)))) (xe_in (hu65 hr) (xv 5) (XE.xo (xv 4))) (nomark _))
  (xss_one (xs_ret xe_bl))
  xss_nil)))))
  (xss_one (xs_ret xe_bl))))))))))))))))
theorem ok_law : FnOk P w K mg base CX0 7 T.f_law T.d_law ["_law_script"] (spF K g_law) :=
  fn_okE (k := 6) b_law 8 1 T.F_law sc_law rfl rfl rfl fun cdv A outer s H E hr =>
  (xss_cons (xs_setO 1 (xn_call ((ok__law_purse T).mono (by decide)) hr T.m__law_purse T.F__law_purse.kp T.b__law_purse (xa_o 0 (xa_v xe_int xa_nil))) sc_law.nd)
  (xss_cons (xs_set 2 (xe_call ((ok__law_clock T).mono (by decide)) hr T.m__law_clock T.F__law_clock.kp T.b__law_clock (xa_o 0 (xa_v (xe_cmp (op_eqD hr.units) gq_eq (xe_call ((ok__law_take T).mono (by decide)) hr T.m__law_take T.F__law_take.kp T.b__law_take (xa_r 1 (xa_v xe_int xa_nil))) xe_int (nomark _)) xa_nil))) sc_law.nd)
  (xss_cons (xs_set 3 (xe_idx (xv 2) xe_int) sc_law.nd)
  (xss_cons (xs_set 4 (xe_call ((ok_coarse_step T).mono (by decide)) hr T.m_coarse_step T.F_coarse_step.kp T.b_coarse_step (xa_v (xv 2) xa_nil)) sc_law.nd)
  (xss_cons (xs_for PassesOwn.never (xi_rng1 xe_int T.z_range) (xg_name 5 sc_law.nd)
  (xss_cons (xs_set 6 (xe_idx (XN.xe (xn_lst (xl_cons xe_int (xl_cons (xe_call ((ok__law_take T).mono (by decide)) hr T.m__law_take T.F__law_take.kp T.b__law_take (xa_r 1 (xa_v (xv 3) xa_nil))) xl_nil)))) (xe_int1 T.z_int (XE.xo (xe_cmp op_gt gq_gt (xv 5) xe_int (nomark _))))) sc_law.nd)
  (xss_one (xs_if (xb_cmp (op_neD hr.units) gq_ne (xv 4) (xv 3) (nomark _))
  (xss_cons (xs_set 7 (xe_call ((ok_tick_paper T).mono (by decide)) hr T.m_tick_paper T.F_tick_paper.kp T.b_tick_paper (xa_v (xv 2) (xa_v (xv 6) xa_nil))) sc_law.nd)
  (xss_cons (xs_if (xb_w (xw_or (xb_cmp (op_neD hr.units) gq_ne (xe_idx (xv 7) xe_int) xe_str (nomark _)) (xw_or1 (xb_not (xb_val (xe_call ((ok__law_same T).mono (by decide)) hr T.m__law_same T.F__law_same.kp T.b__law_same (xa_v (xv 2) (xa_v (xv 6) (xa_v (xe_idx (xv 7) xe_int) xa_nil)))))))))
  (xss_one (xs_ret xe_bl))
  xss_nil)
  (xss_one (xs_if (xb_not (xb_val (xe_call ((ok__law_same T).mono (by decide)) hr T.m__law_same T.F__law_same.kp T.b__law_same (xa_v (xv 2) (xa_v (xv 6) (xa_v (xe_add (xv 6) (xv 4)) xa_nil))))))
  (xss_one (xs_ret xe_bl))
  xss_nil))))
  (xss_one (xs_if (xb_not (xb_val (xe_call ((ok__law_right T).mono (by decide)) hr T.m__law_right T.F__law_right.kp T.b__law_right (xa_v (xv 2) (xa_v (xv 6) (xa_r 1 xa_nil))))))
  (xss_one (xs_ret xe_bl))
  xss_nil))))))
  (xss_one (xs_ret xe_bl)))))))
end
end Lw

namespace Lw
open PySem PySem.Spec PyProof.Rows L2 M
theorem tx_mk {K : Frg} {h : Heap} {mg : Str → Option Value} (X : K.In h) (G : h.Ns mainGlobals mg)
    {od0 an0 : Option Addr} {sl0 : Array (Option Value)} {oc0 kV0 dc0 pm0 cd0 ct0 : Value} {f0 : Addr}
    (a0 : PySem.W.nsIn K mainGlobals "common_parts" = some (some (.ref f0))) (l0 : K.lookup f0 = some ⟨oc0, od0, .func (PySem.W.fnOf "common_parts" "common_parts" (defArgs s_common_parts) (defBody s_common_parts) (defScope s_common_parts) .none kV0 dc0 pm0 an0 cd0 ct0), sl0⟩) (c0 : PySem.W.codeIn K cd0 "common_parts" = true) (k0 : PySem.W.keepIn K (.ref f0) = true)
    {od1 an1 : Option Addr} {sl1 : Array (Option Value)} {oc1 kV1 dc1 pm1 cd1 ct1 : Value} {f1 : Addr}
    (a1 : PySem.W.nsIn K mainGlobals "weights_of" = some (some (.ref f1))) (l1 : K.lookup f1 = some ⟨oc1, od1, .func (PySem.W.fnOf "weights_of" "weights_of" (defArgs s_weights_of) (defBody s_weights_of) (defScope s_weights_of) .none kV1 dc1 pm1 an1 cd1 ct1), sl1⟩) (c1 : PySem.W.codeIn K cd1 "weights_of" = true) (k1 : PySem.W.keepIn K (.ref f1) = true)
    {od2 an2 : Option Addr} {sl2 : Array (Option Value)} {oc2 kV2 dc2 pm2 cd2 ct2 : Value} {f2 : Addr}
    (a2 : PySem.W.nsIn K mainGlobals "swaps_of" = some (some (.ref f2))) (l2 : K.lookup f2 = some ⟨oc2, od2, .func (PySem.W.fnOf "swaps_of" "swaps_of" (defArgs s_swaps_of) (defBody s_swaps_of) (defScope s_swaps_of) .none kV2 dc2 pm2 an2 cd2 ct2), sl2⟩) (c2 : PySem.W.codeIn K cd2 "swaps_of" = true) (k2 : PySem.W.keepIn K (.ref f2) = true)
    {od3 an3 : Option Addr} {sl3 : Array (Option Value)} {oc3 kV3 dc3 pm3 cd3 ct3 : Value} {f3 : Addr}
    (a3 : PySem.W.nsIn K mainGlobals "readings_of" = some (some (.ref f3))) (l3 : K.lookup f3 = some ⟨oc3, od3, .func (PySem.W.fnOf "readings_of" "readings_of" (defArgs s_readings_of) (defBody s_readings_of) (defScope s_readings_of) .none kV3 dc3 pm3 an3 cd3 ct3), sl3⟩) (c3 : PySem.W.codeIn K cd3 "readings_of" = true) (k3 : PySem.W.keepIn K (.ref f3) = true)
    {od4 an4 : Option Addr} {sl4 : Array (Option Value)} {oc4 kV4 dc4 pm4 cd4 ct4 : Value} {f4 : Addr}
    (a4 : PySem.W.nsIn K mainGlobals "rows_of" = some (some (.ref f4))) (l4 : K.lookup f4 = some ⟨oc4, od4, .func (PySem.W.fnOf "rows_of" "rows_of" (defArgs s_rows_of) (defBody s_rows_of) (defScope s_rows_of) .none kV4 dc4 pm4 an4 cd4 ct4), sl4⟩) (c4 : PySem.W.codeIn K cd4 "rows_of" = true) (k4 : PySem.W.keepIn K (.ref f4) = true)
    {od5 an5 : Option Addr} {sl5 : Array (Option Value)} {oc5 kV5 dc5 pm5 cd5 ct5 : Value} {f5 : Addr}
    (a5 : PySem.W.nsIn K mainGlobals "coarse_step" = some (some (.ref f5))) (l5 : K.lookup f5 = some ⟨oc5, od5, .func (PySem.W.fnOf "coarse_step" "coarse_step" (defArgs s_coarse_step) (defBody s_coarse_step) (defScope s_coarse_step) .none kV5 dc5 pm5 an5 cd5 ct5), sl5⟩) (c5 : PySem.W.codeIn K cd5 "coarse_step" = true) (k5 : PySem.W.keepIn K (.ref f5) = true)
    {od6 an6 : Option Addr} {sl6 : Array (Option Value)} {oc6 kV6 dc6 pm6 cd6 ct6 : Value} {f6 : Addr}
    (a6 : PySem.W.nsIn K mainGlobals "ask_fine" = some (some (.ref f6))) (l6 : K.lookup f6 = some ⟨oc6, od6, .func (PySem.W.fnOf "ask_fine" "ask_fine" (defArgs s_ask_fine) (defBody s_ask_fine) (defScope s_ask_fine) .none kV6 dc6 pm6 an6 cd6 ct6), sl6⟩) (c6 : PySem.W.codeIn K cd6 "ask_fine" = true) (k6 : PySem.W.keepIn K (.ref f6) = true)
    {od7 an7 : Option Addr} {sl7 : Array (Option Value)} {oc7 kV7 dc7 pm7 cd7 ct7 : Value} {f7 : Addr}
    (a7 : PySem.W.nsIn K mainGlobals "numbers_solved" = some (some (.ref f7))) (l7 : K.lookup f7 = some ⟨oc7, od7, .func (PySem.W.fnOf "numbers_solved" "numbers_solved" (defArgs s_numbers_solved) (defBody s_numbers_solved) (defScope s_numbers_solved) .none kV7 dc7 pm7 an7 cd7 ct7), sl7⟩) (c7 : PySem.W.codeIn K cd7 "numbers_solved" = true) (k7 : PySem.W.keepIn K (.ref f7) = true)
    {od8 an8 : Option Addr} {sl8 : Array (Option Value)} {oc8 kV8 dc8 pm8 cd8 ct8 : Value} {f8 : Addr}
    (a8 : PySem.W.nsIn K mainGlobals "reading_solved" = some (some (.ref f8))) (l8 : K.lookup f8 = some ⟨oc8, od8, .func (PySem.W.fnOf "reading_solved" "reading_solved" (defArgs s_reading_solved) (defBody s_reading_solved) (defScope s_reading_solved) .none kV8 dc8 pm8 an8 cd8 ct8), sl8⟩) (c8 : PySem.W.codeIn K cd8 "reading_solved" = true) (k8 : PySem.W.keepIn K (.ref f8) = true)
    {od9 an9 : Option Addr} {sl9 : Array (Option Value)} {oc9 kV9 dc9 pm9 cd9 ct9 : Value} {f9 : Addr}
    (a9 : PySem.W.nsIn K mainGlobals "tick_paper" = some (some (.ref f9))) (l9 : K.lookup f9 = some ⟨oc9, od9, .func (PySem.W.fnOf "tick_paper" "tick_paper" (defArgs s_tick_paper) (defBody s_tick_paper) (defScope s_tick_paper) .none kV9 dc9 pm9 an9 cd9 ct9), sl9⟩) (c9 : PySem.W.codeIn K cd9 "tick_paper" = true) (k9 : PySem.W.keepIn K (.ref f9) = true)
    {od10 an10 : Option Addr} {sl10 : Array (Option Value)} {oc10 kV10 dc10 pm10 cd10 ct10 : Value} {f10 : Addr}
    (a10 : PySem.W.nsIn K mainGlobals "rivals_of" = some (some (.ref f10))) (l10 : K.lookup f10 = some ⟨oc10, od10, .func (PySem.W.fnOf "rivals_of" "rivals_of" (defArgs s_rivals_of) (defBody s_rivals_of) (defScope s_rivals_of) .none kV10 dc10 pm10 an10 cd10 ct10), sl10⟩) (c10 : PySem.W.codeIn K cd10 "rivals_of" = true) (k10 : PySem.W.keepIn K (.ref f10) = true)
    {od11 an11 : Option Addr} {sl11 : Array (Option Value)} {oc11 kV11 dc11 pm11 cd11 ct11 : Value} {f11 : Addr}
    (a11 : PySem.W.nsIn K mainGlobals "marks_by_hand" = some (some (.ref f11))) (l11 : K.lookup f11 = some ⟨oc11, od11, .func (PySem.W.fnOf "marks_by_hand" "marks_by_hand" (defArgs s_marks_by_hand) (defBody s_marks_by_hand) (defScope s_marks_by_hand) .none kV11 dc11 pm11 an11 cd11 ct11), sl11⟩) (c11 : PySem.W.codeIn K cd11 "marks_by_hand" = true) (k11 : PySem.W.keepIn K (.ref f11) = true)
    {od12 an12 : Option Addr} {sl12 : Array (Option Value)} {oc12 kV12 dc12 pm12 cd12 ct12 : Value} {f12 : Addr}
    (a12 : PySem.W.nsIn K mainGlobals "marks_solved" = some (some (.ref f12))) (l12 : K.lookup f12 = some ⟨oc12, od12, .func (PySem.W.fnOf "marks_solved" "marks_solved" (defArgs s_marks_solved) (defBody s_marks_solved) (defScope s_marks_solved) .none kV12 dc12 pm12 an12 cd12 ct12), sl12⟩) (c12 : PySem.W.codeIn K cd12 "marks_solved" = true) (k12 : PySem.W.keepIn K (.ref f12) = true)
    {od13 an13 : Option Addr} {sl13 : Array (Option Value)} {oc13 kV13 dc13 pm13 cd13 ct13 : Value} {f13 : Addr}
    (a13 : PySem.W.nsIn K mainGlobals "read_picture" = some (some (.ref f13))) (l13 : K.lookup f13 = some ⟨oc13, od13, .func (PySem.W.fnOf "read_picture" "read_picture" (defArgs s_read_picture) (defBody s_read_picture) (defScope s_read_picture) .none kV13 dc13 pm13 an13 cd13 ct13), sl13⟩) (c13 : PySem.W.codeIn K cd13 "read_picture" = true) (k13 : PySem.W.keepIn K (.ref f13) = true)
    {od14 an14 : Option Addr} {sl14 : Array (Option Value)} {oc14 kV14 dc14 pm14 cd14 ct14 : Value} {f14 : Addr}
    (a14 : PySem.W.nsIn K mainGlobals "picture_of" = some (some (.ref f14))) (l14 : K.lookup f14 = some ⟨oc14, od14, .func (PySem.W.fnOf "picture_of" "picture_of" (defArgs s_picture_of) (defBody s_picture_of) (defScope s_picture_of) .none kV14 dc14 pm14 an14 cd14 ct14), sl14⟩) (c14 : PySem.W.codeIn K cd14 "picture_of" = true) (k14 : PySem.W.keepIn K (.ref f14) = true)
    {od15 an15 : Option Addr} {sl15 : Array (Option Value)} {oc15 kV15 dc15 pm15 cd15 ct15 : Value} {f15 : Addr}
    (a15 : PySem.W.nsIn K mainGlobals "moved" = some (some (.ref f15))) (l15 : K.lookup f15 = some ⟨oc15, od15, .func (PySem.W.fnOf "moved" "moved" (defArgs s_moved) (defBody s_moved) (defScope s_moved) .none kV15 dc15 pm15 an15 cd15 ct15), sl15⟩) (c15 : PySem.W.codeIn K cd15 "moved" = true) (k15 : PySem.W.keepIn K (.ref f15) = true)
    {od16 an16 : Option Addr} {sl16 : Array (Option Value)} {oc16 kV16 dc16 pm16 cd16 ct16 : Value} {f16 : Addr}
    (a16 : PySem.W.nsIn K mainGlobals "same_picture" = some (some (.ref f16))) (l16 : K.lookup f16 = some ⟨oc16, od16, .func (PySem.W.fnOf "same_picture" "same_picture" (defArgs s_same_picture) (defBody s_same_picture) (defScope s_same_picture) .none kV16 dc16 pm16 an16 cd16 ct16), sl16⟩) (c16 : PySem.W.codeIn K cd16 "same_picture" = true) (k16 : PySem.W.keepIn K (.ref f16) = true)
    {od17 an17 : Option Addr} {sl17 : Array (Option Value)} {oc17 kV17 dc17 pm17 cd17 ct17 : Value} {f17 : Addr}
    (a17 : PySem.W.nsIn K mainGlobals "_law_purse" = some (some (.ref f17))) (l17 : K.lookup f17 = some ⟨oc17, od17, .func (PySem.W.fnOf "_law_purse" "_law_purse" (defArgs s__law_purse) (defBody s__law_purse) (defScope s__law_purse) .none kV17 dc17 pm17 an17 cd17 ct17), sl17⟩) (c17 : PySem.W.codeIn K cd17 "_law_purse" = true) (k17 : PySem.W.keepIn K (.ref f17) = true)
    {od18 an18 : Option Addr} {sl18 : Array (Option Value)} {oc18 kV18 dc18 pm18 cd18 ct18 : Value} {f18 : Addr}
    (a18 : PySem.W.nsIn K mainGlobals "_law_take" = some (some (.ref f18))) (l18 : K.lookup f18 = some ⟨oc18, od18, .func (PySem.W.fnOf "_law_take" "_law_take" (defArgs s__law_take) (defBody s__law_take) (defScope s__law_take) .none kV18 dc18 pm18 an18 cd18 ct18), sl18⟩) (c18 : PySem.W.codeIn K cd18 "_law_take" = true) (k18 : PySem.W.keepIn K (.ref f18) = true)
    {od19 an19 : Option Addr} {sl19 : Array (Option Value)} {oc19 kV19 dc19 pm19 cd19 ct19 : Value} {f19 : Addr}
    (a19 : PySem.W.nsIn K mainGlobals "_law_looks" = some (some (.ref f19))) (l19 : K.lookup f19 = some ⟨oc19, od19, .func (PySem.W.fnOf "_law_looks" "_law_looks" (defArgs s__law_looks) (defBody s__law_looks) (defScope s__law_looks) .none kV19 dc19 pm19 an19 cd19 ct19), sl19⟩) (c19 : PySem.W.codeIn K cd19 "_law_looks" = true) (k19 : PySem.W.keepIn K (.ref f19) = true)
    {od20 an20 : Option Addr} {sl20 : Array (Option Value)} {oc20 kV20 dc20 pm20 cd20 ct20 : Value} {f20 : Addr}
    (a20 : PySem.W.nsIn K mainGlobals "_law_number" = some (some (.ref f20))) (l20 : K.lookup f20 = some ⟨oc20, od20, .func (PySem.W.fnOf "_law_number" "_law_number" (defArgs s__law_number) (defBody s__law_number) (defScope s__law_number) .none kV20 dc20 pm20 an20 cd20 ct20), sl20⟩) (c20 : PySem.W.codeIn K cd20 "_law_number" = true) (k20 : PySem.W.keepIn K (.ref f20) = true)
    {od21 an21 : Option Addr} {sl21 : Array (Option Value)} {oc21 kV21 dc21 pm21 cd21 ct21 : Value} {f21 : Addr}
    (a21 : PySem.W.nsIn K mainGlobals "_law_marks" = some (some (.ref f21))) (l21 : K.lookup f21 = some ⟨oc21, od21, .func (PySem.W.fnOf "_law_marks" "_law_marks" (defArgs s__law_marks) (defBody s__law_marks) (defScope s__law_marks) .none kV21 dc21 pm21 an21 cd21 ct21), sl21⟩) (c21 : PySem.W.codeIn K cd21 "_law_marks" = true) (k21 : PySem.W.keepIn K (.ref f21) = true)
    {od22 an22 : Option Addr} {sl22 : Array (Option Value)} {oc22 kV22 dc22 pm22 cd22 ct22 : Value} {f22 : Addr}
    (a22 : PySem.W.nsIn K mainGlobals "_law_clock" = some (some (.ref f22))) (l22 : K.lookup f22 = some ⟨oc22, od22, .func (PySem.W.fnOf "_law_clock" "_law_clock" (defArgs s__law_clock) (defBody s__law_clock) (defScope s__law_clock) .none kV22 dc22 pm22 an22 cd22 ct22), sl22⟩) (c22 : PySem.W.codeIn K cd22 "_law_clock" = true) (k22 : PySem.W.keepIn K (.ref f22) = true)
    {od23 an23 : Option Addr} {sl23 : Array (Option Value)} {oc23 kV23 dc23 pm23 cd23 ct23 : Value} {f23 : Addr}
    (a23 : PySem.W.nsIn K mainGlobals "_law_picture" = some (some (.ref f23))) (l23 : K.lookup f23 = some ⟨oc23, od23, .func (PySem.W.fnOf "_law_picture" "_law_picture" (defArgs s__law_picture) (defBody s__law_picture) (defScope s__law_picture) .none kV23 dc23 pm23 an23 cd23 ct23), sl23⟩) (c23 : PySem.W.codeIn K cd23 "_law_picture" = true) (k23 : PySem.W.keepIn K (.ref f23) = true)
    {od24 an24 : Option Addr} {sl24 : Array (Option Value)} {oc24 kV24 dc24 pm24 cd24 ct24 : Value} {f24 : Addr}
    (a24 : PySem.W.nsIn K mainGlobals "_law_normal" = some (some (.ref f24))) (l24 : K.lookup f24 = some ⟨oc24, od24, .func (PySem.W.fnOf "_law_normal" "_law_normal" (defArgs s__law_normal) (defBody s__law_normal) (defScope s__law_normal) .none kV24 dc24 pm24 an24 cd24 ct24), sl24⟩) (c24 : PySem.W.codeIn K cd24 "_law_normal" = true) (k24 : PySem.W.keepIn K (.ref f24) = true)
    {od25 an25 : Option Addr} {sl25 : Array (Option Value)} {oc25 kV25 dc25 pm25 cd25 ct25 : Value} {f25 : Addr}
    (a25 : PySem.W.nsIn K mainGlobals "_law_same" = some (some (.ref f25))) (l25 : K.lookup f25 = some ⟨oc25, od25, .func (PySem.W.fnOf "_law_same" "_law_same" (defArgs s__law_same) (defBody s__law_same) (defScope s__law_same) .none kV25 dc25 pm25 an25 cd25 ct25), sl25⟩) (c25 : PySem.W.codeIn K cd25 "_law_same" = true) (k25 : PySem.W.keepIn K (.ref f25) = true)
    {od26 an26 : Option Addr} {sl26 : Array (Option Value)} {oc26 kV26 dc26 pm26 cd26 ct26 : Value} {f26 : Addr}
    (a26 : PySem.W.nsIn K mainGlobals "_law_other_picture" = some (some (.ref f26))) (l26 : K.lookup f26 = some ⟨oc26, od26, .func (PySem.W.fnOf "_law_other_picture" "_law_other_picture" (defArgs s__law_other_picture) (defBody s__law_other_picture) (defScope s__law_other_picture) .none kV26 dc26 pm26 an26 cd26 ct26), sl26⟩) (c26 : PySem.W.codeIn K cd26 "_law_other_picture" = true) (k26 : PySem.W.keepIn K (.ref f26) = true)
    {od27 an27 : Option Addr} {sl27 : Array (Option Value)} {oc27 kV27 dc27 pm27 cd27 ct27 : Value} {f27 : Addr}
    (a27 : PySem.W.nsIn K mainGlobals "_law_right" = some (some (.ref f27))) (l27 : K.lookup f27 = some ⟨oc27, od27, .func (PySem.W.fnOf "_law_right" "_law_right" (defArgs s__law_right) (defBody s__law_right) (defScope s__law_right) .none kV27 dc27 pm27 an27 cd27 ct27), sl27⟩) (c27 : PySem.W.codeIn K cd27 "_law_right" = true) (k27 : PySem.W.keepIn K (.ref f27) = true)
    {od28 an28 : Option Addr} {sl28 : Array (Option Value)} {oc28 kV28 dc28 pm28 cd28 ct28 : Value} {f28 : Addr}
    (a28 : PySem.W.nsIn K mainGlobals "law" = some (some (.ref f28))) (l28 : K.lookup f28 = some ⟨oc28, od28, .func (PySem.W.fnOf "law" "law" (defArgs s_law) (defBody s_law) (defScope s_law) .none kV28 dc28 pm28 an28 cd28 ct28), sl28⟩) (c28 : PySem.W.codeIn K cd28 "law" = true) (k28 : PySem.W.keepIn K (.ref f28) = true)
    (z0 : PySem.W.nsIn K mainGlobals "any" = some none)
    (z1 : PySem.W.nsIn K mainGlobals "enumerate" = some none)
    (z2 : PySem.W.nsIn K mainGlobals "int" = some none)
    (z3 : PySem.W.nsIn K mainGlobals "len" = some none)
    (z4 : PySem.W.nsIn K mainGlobals "min" = some none)
    (z5 : PySem.W.nsIn K mainGlobals "range" = some none)
    (z6 : PySem.W.nsIn K mainGlobals "set" = some none)
    (z7 : PySem.W.nsIn K mainGlobals "sorted" = some none)
    (z8 : PySem.W.nsIn K mainGlobals "sum" = some none)
    (z9 : PySem.W.nsIn K mainGlobals "tuple" = some none)
    (z10 : PySem.W.nsIn K mainGlobals "zip" = some none) :
    ∃ T : Tx K mg, T.f_law = f28 ∧ T.d_law = PySem.W.fnOf "law" "law" (defArgs s_law) (defBody s_law) (defScope s_law) .none kV28 dc28 pm28 an28 cd28 ct28 := by
  have F0 := fun_mk (st := s_common_parts) l0 c0 k0
  have B0 := F0.binds (ps := ["one", "other"]) fun _ _ _ _ _ _ us hl => match us, hl with | [_, _], _ => rfl
  have F1 := fun_mk (st := s_weights_of) l1 c1 k1
  have B1 := F1.binds (ps := ["many", "numbers"]) fun _ _ _ _ _ _ us hl => match us, hl with | [_, _], _ => rfl
  have F2 := fun_mk (st := s_swaps_of) l2 c2 k2
  have B2 := F2.binds (ps := ["hands"]) fun _ _ _ _ _ _ us hl => match us, hl with | [_], _ => rfl
  have F3 := fun_mk (st := s_readings_of) l3 c3 k3
  have B3 := F3.binds (ps := ["clock"]) fun _ _ _ _ _ _ us hl => match us, hl with | [_], _ => rfl
  have F4 := fun_mk (st := s_rows_of) l4 c4 k4
  have B4 := F4.binds (ps := ["clock", "reading"]) fun _ _ _ _ _ _ us hl => match us, hl with | [_, _], _ => rfl
  have F5 := fun_mk (st := s_coarse_step) l5 c5 k5
  have B5 := F5.binds (ps := ["clock"]) fun _ _ _ _ _ _ us hl => match us, hl with | [_], _ => rfl
  have F6 := fun_mk (st := s_ask_fine) l6 c6 k6
  have B6 := F6.binds (ps := ["clock"]) fun _ _ _ _ _ _ us hl => match us, hl with | [_], _ => rfl
  have F7 := fun_mk (st := s_numbers_solved) l7 c7 k7
  have B7 := F7.binds (ps := ["many", "factors", "dues"]) fun _ _ _ _ _ _ us hl => match us, hl with | [_, _, _], _ => rfl
  have F8 := fun_mk (st := s_reading_solved) l8 c8 k8
  have B8 := F8.binds (ps := ["clock", "reading", "tick"]) fun _ _ _ _ _ _ us hl => match us, hl with | [_, _, _], _ => rfl
  have F9 := fun_mk (st := s_tick_paper) l9 c9 k9
  have B9 := F9.binds (ps := ["clock", "tick"]) fun _ _ _ _ _ _ us hl => match us, hl with | [_, _], _ => rfl
  have F10 := fun_mk (st := s_rivals_of) l10 c10 k10
  have B10 := F10.binds (ps := ["clock", "tick"]) fun _ _ _ _ _ _ us hl => match us, hl with | [_, _], _ => rfl
  have F11 := fun_mk (st := s_marks_by_hand) l11 c11 k11
  have B11 := F11.binds (ps := ["clock", "picture"]) fun _ _ _ _ _ _ us hl => match us, hl with | [_, _], _ => rfl
  have F12 := fun_mk (st := s_marks_solved) l12 c12 k12
  have B12 := F12.binds (ps := ["clock", "reading", "marks"]) fun _ _ _ _ _ _ us hl => match us, hl with | [_, _, _], _ => rfl
  have F13 := fun_mk (st := s_read_picture) l13 c13 k13
  have B13 := F13.binds (ps := ["clock", "picture"]) fun _ _ _ _ _ _ us hl => match us, hl with | [_, _], _ => rfl
  have F14 := fun_mk (st := s_picture_of) l14 c14 k14
  have B14 := F14.binds (ps := ["clock", "tick"]) fun _ _ _ _ _ _ us hl => match us, hl with | [_, _], _ => rfl
  have F15 := fun_mk (st := s_moved) l15 c15 k15
  have B15 := F15.binds (ps := ["many", "picture", "sign", "more"]) fun _ _ _ _ _ _ us hl => match us, hl with | [_, _, _, _], _ => rfl
  have F16 := fun_mk (st := s_same_picture) l16 c16 k16
  have B16 := F16.binds (ps := ["clock", "one", "other"]) fun _ _ _ _ _ _ us hl => match us, hl with | [_, _, _], _ => rfl
  have F17 := fun_mk (st := s__law_purse) l17 c17 k17
  have B17 := F17.binds (ps := ["_law_script", "_law_k"]) fun _ _ _ _ _ _ us hl => match us, hl with | [_, _], _ => rfl
  have F18 := fun_mk (st := s__law_take) l18 c18 k18
  have B18 := F18.binds (ps := ["_law_purse_here", "_law_many"]) fun _ _ _ _ _ _ us hl => match us, hl with | [_, _], _ => rfl
  have F19 := fun_mk (st := s__law_looks) l19 c19 k19
  have B19 := F19.binds (ps := ["_law_purse_here", "_law_many"]) fun _ _ _ _ _ _ us hl => match us, hl with | [_, _], _ => rfl
  have F20 := fun_mk (st := s__law_number) l20 c20 k20
  have B20 := F20.binds (ps := ["_law_purse_here", "_law_many"]) fun _ _ _ _ _ _ us hl => match us, hl with | [_, _], _ => rfl
  have F21 := fun_mk (st := s__law_marks) l21 c21 k21
  have B21 := F21.binds (ps := ["_law_purse_here", "_law_small"]) fun _ _ _ _ _ _ us hl => match us, hl with | [_, _], _ => rfl
  have F22 := fun_mk (st := s__law_clock) l22 c22 k22
  have B22 := F22.binds (ps := ["_law_script", "_law_small"]) fun _ _ _ _ _ _ us hl => match us, hl with | [_, _], _ => rfl
  have F23 := fun_mk (st := s__law_picture) l23 c23 k23
  have B23 := F23.binds (ps := ["_law_clock_here", "_law_tick"]) fun _ _ _ _ _ _ us hl => match us, hl with | [_, _], _ => rfl
  have F24 := fun_mk (st := s__law_normal) l24 c24 k24
  have B24 := F24.binds (ps := ["_law_clock_here", "_law_pairs"]) fun _ _ _ _ _ _ us hl => match us, hl with | [_, _], _ => rfl
  have F25 := fun_mk (st := s__law_same) l25 c25 k25
  have B25 := F25.binds (ps := ["_law_clock_here", "_law_one", "_law_other"]) fun _ _ _ _ _ _ us hl => match us, hl with | [_, _, _], _ => rfl
  have F26 := fun_mk (st := s__law_other_picture) l26 c26 k26
  have B26 := F26.binds (ps := ["_law_clock_here", "_law_pairs", "_law_purse_here"]) fun _ _ _ _ _ _ us hl => match us, hl with | [_, _, _], _ => rfl
  have F27 := fun_mk (st := s__law_right) l27 c27 k27
  have B27 := F27.binds (ps := ["_law_clock_here", "_law_tick", "_law_purse_here"]) fun _ _ _ _ _ _ us hl => match us, hl with | [_, _, _], _ => rfl
  have F28 := fun_mk (st := s_law) l28 c28 k28
  have B28 := F28.binds (ps := ["_law_script"]) fun _ _ _ _ _ _ us hl => match us, hl with | [_], _ => rfl
  exact ⟨{ f_common_parts := _, d_common_parts := _, F_common_parts := F0, m_common_parts := PySem.W.mg_of X G a0, b_common_parts := B0, f_weights_of := _, d_weights_of := _, F_weights_of := F1, m_weights_of := PySem.W.mg_of X G a1, b_weights_of := B1, f_swaps_of := _, d_swaps_of := _, F_swaps_of := F2, m_swaps_of := PySem.W.mg_of X G a2, b_swaps_of := B2, f_readings_of := _, d_readings_of := _, F_readings_of := F3, m_readings_of := PySem.W.mg_of X G a3, b_readings_of := B3, f_rows_of := _, d_rows_of := _, F_rows_of := F4, m_rows_of := PySem.W.mg_of X G a4, b_rows_of := B4, f_coarse_step := _, d_coarse_step := _, F_coarse_step := F5, m_coarse_step := PySem.W.mg_of X G a5, b_coarse_step := B5, f_ask_fine := _, d_ask_fine := _, F_ask_fine := F6, m_ask_fine := PySem.W.mg_of X G a6, b_ask_fine := B6, f_numbers_solved := _, d_numbers_solved := _, F_numbers_solved := F7, m_numbers_solved := PySem.W.mg_of X G a7, b_numbers_solved := B7, f_reading_solved := _, d_reading_solved := _, F_reading_solved := F8, m_reading_solved := PySem.W.mg_of X G a8, b_reading_solved := B8, f_tick_paper := _, d_tick_paper := _, F_tick_paper := F9, m_tick_paper := PySem.W.mg_of X G a9, b_tick_paper := B9, f_rivals_of := _, d_rivals_of := _, F_rivals_of := F10, m_rivals_of := PySem.W.mg_of X G a10, b_rivals_of := B10, f_marks_by_hand := _, d_marks_by_hand := _, F_marks_by_hand := F11, m_marks_by_hand := PySem.W.mg_of X G a11, b_marks_by_hand := B11, f_marks_solved := _, d_marks_solved := _, F_marks_solved := F12, m_marks_solved := PySem.W.mg_of X G a12, b_marks_solved := B12, f_read_picture := _, d_read_picture := _, F_read_picture := F13, m_read_picture := PySem.W.mg_of X G a13, b_read_picture := B13, f_picture_of := _, d_picture_of := _, F_picture_of := F14, m_picture_of := PySem.W.mg_of X G a14, b_picture_of := B14, f_moved := _, d_moved := _, F_moved := F15, m_moved := PySem.W.mg_of X G a15, b_moved := B15, f_same_picture := _, d_same_picture := _, F_same_picture := F16, m_same_picture := PySem.W.mg_of X G a16, b_same_picture := B16, f__law_purse := _, d__law_purse := _, F__law_purse := F17, m__law_purse := PySem.W.mg_of X G a17, b__law_purse := B17, f__law_take := _, d__law_take := _, F__law_take := F18, m__law_take := PySem.W.mg_of X G a18, b__law_take := B18, f__law_looks := _, d__law_looks := _, F__law_looks := F19, m__law_looks := PySem.W.mg_of X G a19, b__law_looks := B19, f__law_number := _, d__law_number := _, F__law_number := F20, m__law_number := PySem.W.mg_of X G a20, b__law_number := B20, f__law_marks := _, d__law_marks := _, F__law_marks := F21, m__law_marks := PySem.W.mg_of X G a21, b__law_marks := B21, f__law_clock := _, d__law_clock := _, F__law_clock := F22, m__law_clock := PySem.W.mg_of X G a22, b__law_clock := B22, f__law_picture := _, d__law_picture := _, F__law_picture := F23, m__law_picture := PySem.W.mg_of X G a23, b__law_picture := B23, f__law_normal := _, d__law_normal := _, F__law_normal := F24, m__law_normal := PySem.W.mg_of X G a24, b__law_normal := B24, f__law_same := _, d__law_same := _, F__law_same := F25, m__law_same := PySem.W.mg_of X G a25, b__law_same := B25, f__law_other_picture := _, d__law_other_picture := _, F__law_other_picture := F26, m__law_other_picture := PySem.W.mg_of X G a26, b__law_other_picture := B26, f__law_right := _, d__law_right := _, F__law_right := F27, m__law_right := PySem.W.mg_of X G a27, b__law_right := B27, f_law := _, d_law := _, F_law := F28, m_law := PySem.W.mg_of X G a28, b_law := B28, z_any := PySem.W.mg_none_of X G z0, z_enumerate := PySem.W.mg_none_of X G z1, z_int := PySem.W.mg_none_of X G z2, z_len := PySem.W.mg_none_of X G z3, z_min := PySem.W.mg_none_of X G z4, z_range := PySem.W.mg_none_of X G z5, z_set := PySem.W.mg_none_of X G z6, z_sorted := PySem.W.mg_none_of X G z7, z_sum := PySem.W.mg_none_of X G z8, z_tuple := PySem.W.mg_none_of X G z9, z_zip := PySem.W.mg_none_of X G z10 }, rfl, rfl⟩
theorem all_mk {l : PySem.W.OpenLaw} {w : World} {K : Frg} {h : Heap} {mg : Str → Option Value} {fa : Addr} (X : K.In h) (G : h.Ns mainGlobals mg) (hfa : mg "law" = some (.ref fa))
    {od0 an0 : Option Addr} {sl0 : Array (Option Value)} {oc0 kV0 dc0 pm0 cd0 ct0 : Value} {f0 : Addr}
    (a0 : PySem.W.nsIn K mainGlobals "common_parts" = some (some (.ref f0))) (l0 : K.lookup f0 = some ⟨oc0, od0, .func (PySem.W.fnOf "common_parts" "common_parts" (defArgs s_common_parts) (defBody s_common_parts) (defScope s_common_parts) .none kV0 dc0 pm0 an0 cd0 ct0), sl0⟩) (c0 : PySem.W.codeIn K cd0 "common_parts" = true) (k0 : PySem.W.keepIn K (.ref f0) = true)
    {od1 an1 : Option Addr} {sl1 : Array (Option Value)} {oc1 kV1 dc1 pm1 cd1 ct1 : Value} {f1 : Addr}
    (a1 : PySem.W.nsIn K mainGlobals "weights_of" = some (some (.ref f1))) (l1 : K.lookup f1 = some ⟨oc1, od1, .func (PySem.W.fnOf "weights_of" "weights_of" (defArgs s_weights_of) (defBody s_weights_of) (defScope s_weights_of) .none kV1 dc1 pm1 an1 cd1 ct1), sl1⟩) (c1 : PySem.W.codeIn K cd1 "weights_of" = true) (k1 : PySem.W.keepIn K (.ref f1) = true)
    {od2 an2 : Option Addr} {sl2 : Array (Option Value)} {oc2 kV2 dc2 pm2 cd2 ct2 : Value} {f2 : Addr}
    (a2 : PySem.W.nsIn K mainGlobals "swaps_of" = some (some (.ref f2))) (l2 : K.lookup f2 = some ⟨oc2, od2, .func (PySem.W.fnOf "swaps_of" "swaps_of" (defArgs s_swaps_of) (defBody s_swaps_of) (defScope s_swaps_of) .none kV2 dc2 pm2 an2 cd2 ct2), sl2⟩) (c2 : PySem.W.codeIn K cd2 "swaps_of" = true) (k2 : PySem.W.keepIn K (.ref f2) = true)
    {od3 an3 : Option Addr} {sl3 : Array (Option Value)} {oc3 kV3 dc3 pm3 cd3 ct3 : Value} {f3 : Addr}
    (a3 : PySem.W.nsIn K mainGlobals "readings_of" = some (some (.ref f3))) (l3 : K.lookup f3 = some ⟨oc3, od3, .func (PySem.W.fnOf "readings_of" "readings_of" (defArgs s_readings_of) (defBody s_readings_of) (defScope s_readings_of) .none kV3 dc3 pm3 an3 cd3 ct3), sl3⟩) (c3 : PySem.W.codeIn K cd3 "readings_of" = true) (k3 : PySem.W.keepIn K (.ref f3) = true)
    {od4 an4 : Option Addr} {sl4 : Array (Option Value)} {oc4 kV4 dc4 pm4 cd4 ct4 : Value} {f4 : Addr}
    (a4 : PySem.W.nsIn K mainGlobals "rows_of" = some (some (.ref f4))) (l4 : K.lookup f4 = some ⟨oc4, od4, .func (PySem.W.fnOf "rows_of" "rows_of" (defArgs s_rows_of) (defBody s_rows_of) (defScope s_rows_of) .none kV4 dc4 pm4 an4 cd4 ct4), sl4⟩) (c4 : PySem.W.codeIn K cd4 "rows_of" = true) (k4 : PySem.W.keepIn K (.ref f4) = true)
    {od5 an5 : Option Addr} {sl5 : Array (Option Value)} {oc5 kV5 dc5 pm5 cd5 ct5 : Value} {f5 : Addr}
    (a5 : PySem.W.nsIn K mainGlobals "coarse_step" = some (some (.ref f5))) (l5 : K.lookup f5 = some ⟨oc5, od5, .func (PySem.W.fnOf "coarse_step" "coarse_step" (defArgs s_coarse_step) (defBody s_coarse_step) (defScope s_coarse_step) .none kV5 dc5 pm5 an5 cd5 ct5), sl5⟩) (c5 : PySem.W.codeIn K cd5 "coarse_step" = true) (k5 : PySem.W.keepIn K (.ref f5) = true)
    {od6 an6 : Option Addr} {sl6 : Array (Option Value)} {oc6 kV6 dc6 pm6 cd6 ct6 : Value} {f6 : Addr}
    (a6 : PySem.W.nsIn K mainGlobals "ask_fine" = some (some (.ref f6))) (l6 : K.lookup f6 = some ⟨oc6, od6, .func (PySem.W.fnOf "ask_fine" "ask_fine" (defArgs s_ask_fine) (defBody s_ask_fine) (defScope s_ask_fine) .none kV6 dc6 pm6 an6 cd6 ct6), sl6⟩) (c6 : PySem.W.codeIn K cd6 "ask_fine" = true) (k6 : PySem.W.keepIn K (.ref f6) = true)
    {od7 an7 : Option Addr} {sl7 : Array (Option Value)} {oc7 kV7 dc7 pm7 cd7 ct7 : Value} {f7 : Addr}
    (a7 : PySem.W.nsIn K mainGlobals "numbers_solved" = some (some (.ref f7))) (l7 : K.lookup f7 = some ⟨oc7, od7, .func (PySem.W.fnOf "numbers_solved" "numbers_solved" (defArgs s_numbers_solved) (defBody s_numbers_solved) (defScope s_numbers_solved) .none kV7 dc7 pm7 an7 cd7 ct7), sl7⟩) (c7 : PySem.W.codeIn K cd7 "numbers_solved" = true) (k7 : PySem.W.keepIn K (.ref f7) = true)
    {od8 an8 : Option Addr} {sl8 : Array (Option Value)} {oc8 kV8 dc8 pm8 cd8 ct8 : Value} {f8 : Addr}
    (a8 : PySem.W.nsIn K mainGlobals "reading_solved" = some (some (.ref f8))) (l8 : K.lookup f8 = some ⟨oc8, od8, .func (PySem.W.fnOf "reading_solved" "reading_solved" (defArgs s_reading_solved) (defBody s_reading_solved) (defScope s_reading_solved) .none kV8 dc8 pm8 an8 cd8 ct8), sl8⟩) (c8 : PySem.W.codeIn K cd8 "reading_solved" = true) (k8 : PySem.W.keepIn K (.ref f8) = true)
    {od9 an9 : Option Addr} {sl9 : Array (Option Value)} {oc9 kV9 dc9 pm9 cd9 ct9 : Value} {f9 : Addr}
    (a9 : PySem.W.nsIn K mainGlobals "tick_paper" = some (some (.ref f9))) (l9 : K.lookup f9 = some ⟨oc9, od9, .func (PySem.W.fnOf "tick_paper" "tick_paper" (defArgs s_tick_paper) (defBody s_tick_paper) (defScope s_tick_paper) .none kV9 dc9 pm9 an9 cd9 ct9), sl9⟩) (c9 : PySem.W.codeIn K cd9 "tick_paper" = true) (k9 : PySem.W.keepIn K (.ref f9) = true)
    {od10 an10 : Option Addr} {sl10 : Array (Option Value)} {oc10 kV10 dc10 pm10 cd10 ct10 : Value} {f10 : Addr}
    (a10 : PySem.W.nsIn K mainGlobals "rivals_of" = some (some (.ref f10))) (l10 : K.lookup f10 = some ⟨oc10, od10, .func (PySem.W.fnOf "rivals_of" "rivals_of" (defArgs s_rivals_of) (defBody s_rivals_of) (defScope s_rivals_of) .none kV10 dc10 pm10 an10 cd10 ct10), sl10⟩) (c10 : PySem.W.codeIn K cd10 "rivals_of" = true) (k10 : PySem.W.keepIn K (.ref f10) = true)
    {od11 an11 : Option Addr} {sl11 : Array (Option Value)} {oc11 kV11 dc11 pm11 cd11 ct11 : Value} {f11 : Addr}
    (a11 : PySem.W.nsIn K mainGlobals "marks_by_hand" = some (some (.ref f11))) (l11 : K.lookup f11 = some ⟨oc11, od11, .func (PySem.W.fnOf "marks_by_hand" "marks_by_hand" (defArgs s_marks_by_hand) (defBody s_marks_by_hand) (defScope s_marks_by_hand) .none kV11 dc11 pm11 an11 cd11 ct11), sl11⟩) (c11 : PySem.W.codeIn K cd11 "marks_by_hand" = true) (k11 : PySem.W.keepIn K (.ref f11) = true)
    {od12 an12 : Option Addr} {sl12 : Array (Option Value)} {oc12 kV12 dc12 pm12 cd12 ct12 : Value} {f12 : Addr}
    (a12 : PySem.W.nsIn K mainGlobals "marks_solved" = some (some (.ref f12))) (l12 : K.lookup f12 = some ⟨oc12, od12, .func (PySem.W.fnOf "marks_solved" "marks_solved" (defArgs s_marks_solved) (defBody s_marks_solved) (defScope s_marks_solved) .none kV12 dc12 pm12 an12 cd12 ct12), sl12⟩) (c12 : PySem.W.codeIn K cd12 "marks_solved" = true) (k12 : PySem.W.keepIn K (.ref f12) = true)
    {od13 an13 : Option Addr} {sl13 : Array (Option Value)} {oc13 kV13 dc13 pm13 cd13 ct13 : Value} {f13 : Addr}
    (a13 : PySem.W.nsIn K mainGlobals "read_picture" = some (some (.ref f13))) (l13 : K.lookup f13 = some ⟨oc13, od13, .func (PySem.W.fnOf "read_picture" "read_picture" (defArgs s_read_picture) (defBody s_read_picture) (defScope s_read_picture) .none kV13 dc13 pm13 an13 cd13 ct13), sl13⟩) (c13 : PySem.W.codeIn K cd13 "read_picture" = true) (k13 : PySem.W.keepIn K (.ref f13) = true)
    {od14 an14 : Option Addr} {sl14 : Array (Option Value)} {oc14 kV14 dc14 pm14 cd14 ct14 : Value} {f14 : Addr}
    (a14 : PySem.W.nsIn K mainGlobals "picture_of" = some (some (.ref f14))) (l14 : K.lookup f14 = some ⟨oc14, od14, .func (PySem.W.fnOf "picture_of" "picture_of" (defArgs s_picture_of) (defBody s_picture_of) (defScope s_picture_of) .none kV14 dc14 pm14 an14 cd14 ct14), sl14⟩) (c14 : PySem.W.codeIn K cd14 "picture_of" = true) (k14 : PySem.W.keepIn K (.ref f14) = true)
    {od15 an15 : Option Addr} {sl15 : Array (Option Value)} {oc15 kV15 dc15 pm15 cd15 ct15 : Value} {f15 : Addr}
    (a15 : PySem.W.nsIn K mainGlobals "moved" = some (some (.ref f15))) (l15 : K.lookup f15 = some ⟨oc15, od15, .func (PySem.W.fnOf "moved" "moved" (defArgs s_moved) (defBody s_moved) (defScope s_moved) .none kV15 dc15 pm15 an15 cd15 ct15), sl15⟩) (c15 : PySem.W.codeIn K cd15 "moved" = true) (k15 : PySem.W.keepIn K (.ref f15) = true)
    {od16 an16 : Option Addr} {sl16 : Array (Option Value)} {oc16 kV16 dc16 pm16 cd16 ct16 : Value} {f16 : Addr}
    (a16 : PySem.W.nsIn K mainGlobals "same_picture" = some (some (.ref f16))) (l16 : K.lookup f16 = some ⟨oc16, od16, .func (PySem.W.fnOf "same_picture" "same_picture" (defArgs s_same_picture) (defBody s_same_picture) (defScope s_same_picture) .none kV16 dc16 pm16 an16 cd16 ct16), sl16⟩) (c16 : PySem.W.codeIn K cd16 "same_picture" = true) (k16 : PySem.W.keepIn K (.ref f16) = true)
    {od17 an17 : Option Addr} {sl17 : Array (Option Value)} {oc17 kV17 dc17 pm17 cd17 ct17 : Value} {f17 : Addr}
    (a17 : PySem.W.nsIn K mainGlobals "_law_purse" = some (some (.ref f17))) (l17 : K.lookup f17 = some ⟨oc17, od17, .func (PySem.W.fnOf "_law_purse" "_law_purse" (defArgs s__law_purse) (defBody s__law_purse) (defScope s__law_purse) .none kV17 dc17 pm17 an17 cd17 ct17), sl17⟩) (c17 : PySem.W.codeIn K cd17 "_law_purse" = true) (k17 : PySem.W.keepIn K (.ref f17) = true)
    {od18 an18 : Option Addr} {sl18 : Array (Option Value)} {oc18 kV18 dc18 pm18 cd18 ct18 : Value} {f18 : Addr}
    (a18 : PySem.W.nsIn K mainGlobals "_law_take" = some (some (.ref f18))) (l18 : K.lookup f18 = some ⟨oc18, od18, .func (PySem.W.fnOf "_law_take" "_law_take" (defArgs s__law_take) (defBody s__law_take) (defScope s__law_take) .none kV18 dc18 pm18 an18 cd18 ct18), sl18⟩) (c18 : PySem.W.codeIn K cd18 "_law_take" = true) (k18 : PySem.W.keepIn K (.ref f18) = true)
    {od19 an19 : Option Addr} {sl19 : Array (Option Value)} {oc19 kV19 dc19 pm19 cd19 ct19 : Value} {f19 : Addr}
    (a19 : PySem.W.nsIn K mainGlobals "_law_looks" = some (some (.ref f19))) (l19 : K.lookup f19 = some ⟨oc19, od19, .func (PySem.W.fnOf "_law_looks" "_law_looks" (defArgs s__law_looks) (defBody s__law_looks) (defScope s__law_looks) .none kV19 dc19 pm19 an19 cd19 ct19), sl19⟩) (c19 : PySem.W.codeIn K cd19 "_law_looks" = true) (k19 : PySem.W.keepIn K (.ref f19) = true)
    {od20 an20 : Option Addr} {sl20 : Array (Option Value)} {oc20 kV20 dc20 pm20 cd20 ct20 : Value} {f20 : Addr}
    (a20 : PySem.W.nsIn K mainGlobals "_law_number" = some (some (.ref f20))) (l20 : K.lookup f20 = some ⟨oc20, od20, .func (PySem.W.fnOf "_law_number" "_law_number" (defArgs s__law_number) (defBody s__law_number) (defScope s__law_number) .none kV20 dc20 pm20 an20 cd20 ct20), sl20⟩) (c20 : PySem.W.codeIn K cd20 "_law_number" = true) (k20 : PySem.W.keepIn K (.ref f20) = true)
    {od21 an21 : Option Addr} {sl21 : Array (Option Value)} {oc21 kV21 dc21 pm21 cd21 ct21 : Value} {f21 : Addr}
    (a21 : PySem.W.nsIn K mainGlobals "_law_marks" = some (some (.ref f21))) (l21 : K.lookup f21 = some ⟨oc21, od21, .func (PySem.W.fnOf "_law_marks" "_law_marks" (defArgs s__law_marks) (defBody s__law_marks) (defScope s__law_marks) .none kV21 dc21 pm21 an21 cd21 ct21), sl21⟩) (c21 : PySem.W.codeIn K cd21 "_law_marks" = true) (k21 : PySem.W.keepIn K (.ref f21) = true)
    {od22 an22 : Option Addr} {sl22 : Array (Option Value)} {oc22 kV22 dc22 pm22 cd22 ct22 : Value} {f22 : Addr}
    (a22 : PySem.W.nsIn K mainGlobals "_law_clock" = some (some (.ref f22))) (l22 : K.lookup f22 = some ⟨oc22, od22, .func (PySem.W.fnOf "_law_clock" "_law_clock" (defArgs s__law_clock) (defBody s__law_clock) (defScope s__law_clock) .none kV22 dc22 pm22 an22 cd22 ct22), sl22⟩) (c22 : PySem.W.codeIn K cd22 "_law_clock" = true) (k22 : PySem.W.keepIn K (.ref f22) = true)
    {od23 an23 : Option Addr} {sl23 : Array (Option Value)} {oc23 kV23 dc23 pm23 cd23 ct23 : Value} {f23 : Addr}
    (a23 : PySem.W.nsIn K mainGlobals "_law_picture" = some (some (.ref f23))) (l23 : K.lookup f23 = some ⟨oc23, od23, .func (PySem.W.fnOf "_law_picture" "_law_picture" (defArgs s__law_picture) (defBody s__law_picture) (defScope s__law_picture) .none kV23 dc23 pm23 an23 cd23 ct23), sl23⟩) (c23 : PySem.W.codeIn K cd23 "_law_picture" = true) (k23 : PySem.W.keepIn K (.ref f23) = true)
    {od24 an24 : Option Addr} {sl24 : Array (Option Value)} {oc24 kV24 dc24 pm24 cd24 ct24 : Value} {f24 : Addr}
    (a24 : PySem.W.nsIn K mainGlobals "_law_normal" = some (some (.ref f24))) (l24 : K.lookup f24 = some ⟨oc24, od24, .func (PySem.W.fnOf "_law_normal" "_law_normal" (defArgs s__law_normal) (defBody s__law_normal) (defScope s__law_normal) .none kV24 dc24 pm24 an24 cd24 ct24), sl24⟩) (c24 : PySem.W.codeIn K cd24 "_law_normal" = true) (k24 : PySem.W.keepIn K (.ref f24) = true)
    {od25 an25 : Option Addr} {sl25 : Array (Option Value)} {oc25 kV25 dc25 pm25 cd25 ct25 : Value} {f25 : Addr}
    (a25 : PySem.W.nsIn K mainGlobals "_law_same" = some (some (.ref f25))) (l25 : K.lookup f25 = some ⟨oc25, od25, .func (PySem.W.fnOf "_law_same" "_law_same" (defArgs s__law_same) (defBody s__law_same) (defScope s__law_same) .none kV25 dc25 pm25 an25 cd25 ct25), sl25⟩) (c25 : PySem.W.codeIn K cd25 "_law_same" = true) (k25 : PySem.W.keepIn K (.ref f25) = true)
    {od26 an26 : Option Addr} {sl26 : Array (Option Value)} {oc26 kV26 dc26 pm26 cd26 ct26 : Value} {f26 : Addr}
    (a26 : PySem.W.nsIn K mainGlobals "_law_other_picture" = some (some (.ref f26))) (l26 : K.lookup f26 = some ⟨oc26, od26, .func (PySem.W.fnOf "_law_other_picture" "_law_other_picture" (defArgs s__law_other_picture) (defBody s__law_other_picture) (defScope s__law_other_picture) .none kV26 dc26 pm26 an26 cd26 ct26), sl26⟩) (c26 : PySem.W.codeIn K cd26 "_law_other_picture" = true) (k26 : PySem.W.keepIn K (.ref f26) = true)
    {od27 an27 : Option Addr} {sl27 : Array (Option Value)} {oc27 kV27 dc27 pm27 cd27 ct27 : Value} {f27 : Addr}
    (a27 : PySem.W.nsIn K mainGlobals "_law_right" = some (some (.ref f27))) (l27 : K.lookup f27 = some ⟨oc27, od27, .func (PySem.W.fnOf "_law_right" "_law_right" (defArgs s__law_right) (defBody s__law_right) (defScope s__law_right) .none kV27 dc27 pm27 an27 cd27 ct27), sl27⟩) (c27 : PySem.W.codeIn K cd27 "_law_right" = true) (k27 : PySem.W.keepIn K (.ref f27) = true)
    {od28 an28 : Option Addr} {sl28 : Array (Option Value)} {oc28 kV28 dc28 pm28 cd28 ct28 : Value} {f28 : Addr}
    (a28 : PySem.W.nsIn K mainGlobals "law" = some (some (.ref f28))) (l28 : K.lookup f28 = some ⟨oc28, od28, .func (PySem.W.fnOf "law" "law" (defArgs s_law) (defBody s_law) (defScope s_law) .none kV28 dc28 pm28 an28 cd28 ct28), sl28⟩) (c28 : PySem.W.codeIn K cd28 "law" = true) (k28 : PySem.W.keepIn K (.ref f28) = true)
    (z0 : PySem.W.nsIn K mainGlobals "any" = some none)
    (z1 : PySem.W.nsIn K mainGlobals "enumerate" = some none)
    (z2 : PySem.W.nsIn K mainGlobals "int" = some none)
    (z3 : PySem.W.nsIn K mainGlobals "len" = some none)
    (z4 : PySem.W.nsIn K mainGlobals "min" = some none)
    (z5 : PySem.W.nsIn K mainGlobals "range" = some none)
    (z6 : PySem.W.nsIn K mainGlobals "set" = some none)
    (z7 : PySem.W.nsIn K mainGlobals "sorted" = some none)
    (z8 : PySem.W.nsIn K mainGlobals "sum" = some none)
    (z9 : PySem.W.nsIn K mainGlobals "tuple" = some none)
    (z10 : PySem.W.nsIn K mainGlobals "zip" = some none) :
    ∃ fd : FuncData, (∀ (s : Shared) (v : Value), BindsTo s fd ⟨[v], []⟩ [("_law_script", v)]) ∧ ∀ base : Heap, K.In base → base.Ns mainGlobals mg → FnOk l.prog w K mg base CX0 7 fa fd ["_law_script"] (spF K g_law) := by
  have e := hfa.symm.trans (PySem.W.mg_of X G a28)
  cases e
  obtain ⟨T, e1, e2⟩ := tx_mk X G a0 l0 c0 k0 a1 l1 c1 k1 a2 l2 c2 k2 a3 l3 c3 k3 a4 l4 c4 k4 a5 l5 c5 k5 a6 l6 c6 k6 a7 l7 c7 k7 a8 l8 c8 k8 a9 l9 c9 k9 a10 l10 c10 k10 a11 l11 c11 k11 a12 l12 c12 k12 a13 l13 c13 k13 a14 l14 c14 k14 a15 l15 c15 k15 a16 l16 c16 k16 a17 l17 c17 k17 a18 l18 c18 k18 a19 l19 c19 k19 a20 l20 c20 k20 a21 l21 c21 k21 a22 l22 c22 k22 a23 l23 c23 k23 a24 l24 c24 k24 a25 l25 c25 k25 a26 l26 c26 k26 a27 l27 c27 k27 a28 l28 c28 k28  z0 z1 z2 z3 z4 z5 z6 z7 z8 z9 z10
  refine ⟨T.d_law, fun s v => ?_, fun base _ _ => ?_⟩
  · rw [e2]; exact .of_eq rfl
  · have := ok_law (P := l.prog) (w := w) (base := base) T
    rw [e1] at this
    exact this
end Lw

section
open PySem PySem.W PyProof.Rows
set_option maxHeartbeats 0 in
theorem Lw.walked (hlaw : ∀ ns : List Int, ns.length ≤ 63 → ∃ args', Lw.g_law [.ro (ns.map .int)] = some (.bool true, args')) : PySem.Challenge.rw_dialdoubt_k23_whole_one_picture_one_row.Holds := by
  w_on
  refine Lw.wrap ?_
  k_fill
  refine L2.walk_of (l := PySem.Challenge.rw_dialdoubt_k23_whole_one_picture_one_row) (n := 63) (k := 7) (x := "_law_script") (CX := fun _ => L2.CX0) (sp := fun w => M.spF _ Lw.g_law) rfl (by decide) rfl ⟨rfl, by decide, by decide⟩ (fun w h Y => PySem.W.kIn_of Y) ?F (fun _ _ a ns hl _ hS => M.law_sp hS (hlaw ns hl)) (fun _ _ _ _ _ h => h)
  case F =>
    intro w mg fa h KX G hmg
    refine' Lw.all_mk KX G hmg ?a0 ?l0 ?c0 ?k0 ?a1 ?l1 ?c1 ?k1 ?a2 ?l2 ?c2 ?k2 ?a3 ?l3 ?c3 ?k3 ?a4 ?l4 ?c4 ?k4 ?a5 ?l5 ?c5 ?k5 ?a6 ?l6 ?c6 ?k6 ?a7 ?l7 ?c7 ?k7 ?a8 ?l8 ?c8 ?k8 ?a9 ?l9 ?c9 ?k9 ?a10 ?l10 ?c10 ?k10 ?a11 ?l11 ?c11 ?k11 ?a12 ?l12 ?c12 ?k12 ?a13 ?l13 ?c13 ?k13 ?a14 ?l14 ?c14 ?k14 ?a15 ?l15 ?c15 ?k15 ?a16 ?l16 ?c16 ?k16 ?a17 ?l17 ?c17 ?k17 ?a18 ?l18 ?c18 ?k18 ?a19 ?l19 ?c19 ?k19 ?a20 ?l20 ?c20 ?k20 ?a21 ?l21 ?c21 ?k21 ?a22 ?l22 ?c22 ?k22 ?a23 ?l23 ?c23 ?k23 ?a24 ?l24 ?c24 ?k24 ?a25 ?l25 ?c25 ?k25 ?a26 ?l26 ?c26 ?k26 ?a27 ?l27 ?c27 ?k27 ?a28 ?l28 ?c28 ?k28 ?z0 ?z1 ?z2 ?z3 ?z4 ?z5 ?z6 ?z7 ?z8 ?z9 ?z10
    (case a0 => k_is); (case l0 => k_is); (case c0 => k_is); (case k0 => k_is); (case a1 => k_is); (case l1 => k_is); (case c1 => k_is); (case k1 => k_is); (case a2 => k_is); (case l2 => k_is); (case c2 => k_is); (case k2 => k_is); (case a3 => k_is); (case l3 => k_is); (case c3 => k_is); (case k3 => k_is); (case a4 => k_is); (case l4 => k_is); (case c4 => k_is); (case k4 => k_is); (case a5 => k_is); (case l5 => k_is); (case c5 => k_is); (case k5 => k_is); (case a6 => k_is); (case l6 => k_is); (case c6 => k_is); (case k6 => k_is); (case a7 => k_is); (case l7 => k_is); (case c7 => k_is); (case k7 => k_is); (case a8 => k_is); (case l8 => k_is); (case c8 => k_is); (case k8 => k_is); (case a9 => k_is); (case l9 => k_is); (case c9 => k_is); (case k9 => k_is); (case a10 => k_is); (case l10 => k_is); (case c10 => k_is); (case k10 => k_is); (case a11 => k_is); (case l11 => k_is); (case c11 => k_is); (case k11 => k_is); (case a12 => k_is); (case l12 => k_is); (case c12 => k_is); (case k12 => k_is); (case a13 => k_is); (case l13 => k_is); (case c13 => k_is); (case k13 => k_is); (case a14 => k_is); (case l14 => k_is); (case c14 => k_is); (case k14 => k_is); (case a15 => k_is); (case l15 => k_is); (case c15 => k_is); (case k15 => k_is); (case a16 => k_is); (case l16 => k_is); (case c16 => k_is); (case k16 => k_is); (case a17 => k_is); (case l17 => k_is); (case c17 => k_is); (case k17 => k_is); (case a18 => k_is); (case l18 => k_is); (case c18 => k_is); (case k18 => k_is); (case a19 => k_is); (case l19 => k_is); (case c19 => k_is); (case k19 => k_is); (case a20 => k_is); (case l20 => k_is); (case c20 => k_is); (case k20 => k_is); (case a21 => k_is); (case l21 => k_is); (case c21 => k_is); (case k21 => k_is); (case a22 => k_is); (case l22 => k_is); (case c22 => k_is); (case k22 => k_is); (case a23 => k_is); (case l23 => k_is); (case c23 => k_is); (case k23 => k_is); (case a24 => k_is); (case l24 => k_is); (case c24 => k_is); (case k24 => k_is); (case a25 => k_is); (case l25 => k_is); (case c25 => k_is); (case k25 => k_is); (case a26 => k_is); (case l26 => k_is); (case c26 => k_is); (case k26 => k_is); (case a27 => k_is); (case l27 => k_is); (case c27 => k_is); (case k27 => k_is); (case a28 => k_is); (case l28 => k_is); (case c28 => k_is); (case k28 => k_is); (case z0 => k_is); (case z1 => k_is); (case z2 => k_is); (case z3 => k_is); (case z4 => k_is); (case z5 => k_is); (case z6 => k_is); (case z7 => k_is); (case z8 => k_is); (case z9 => k_is); (case z10 => k_is)

end

namespace M
open PySem PySem.Spec PyProof.Rows L2
/-! ### all orders, rising -/
def nextO (n : Nat) (o : List Nat) : List (List Nat) := ((List.range n).filter fun j => decide (j ∉ o)).map fun j => o ++ [j]
def ordersGo (n : Nat) : Nat → List (List Nat)
  | 0 => [[]]
  | k + 1 => (ordersGo n k).flatMap (nextO n)
def ordersL (n : Nat) : List (List Nat) := ordersGo n n
theorem filter_flatMap {α β : Type} (p : α → Bool) (f : α → List β) : ∀ l : List α, (l.filter p).flatMap f = l.flatMap fun x => if p x then f x else []
  | [] => rfl
  | x :: l => by
    rw [List.filter_cons]
    by_cases h : p x = true
    · rw [if_pos h, List.flatMap_cons, List.flatMap_cons, if_pos h, filter_flatMap p f l]
    · rw [if_neg h, List.flatMap_cons, if_neg h, List.nil_append, filter_flatMap p f l]
/-- the looks that an order gives -/
def fitsB (looks : List Str) (k : Nat) (o : List Nat) : Bool := decide (o.map (fun j => looks[j]?) = (looks.take k).map some)
theorem swaps_orders (looks : List Str) : ∀ k, k ≤ looks.length → swapsGo looks (looks.take k) [[]] = (ordersGo looks.length k).filter (fitsB looks k)
  | 0, _ => by simp [swapsGo, ordersGo, fitsB]
  | k + 1, h => by
    have hk : k < looks.length := by omega
    have ht : looks.take (k + 1) = looks.take k ++ [looks[k]] := List.take_succ_eq_append_getElem hk
    have hs : swapsGo looks (looks.take (k + 1)) [[]] = (swapsGo looks (looks.take k) [[]]).flatMap (nextS looks looks[k]) := by rw [ht, swapsGo_snoc]
    rw [hs, swaps_orders looks k (by omega), filter_flatMap]
    show _ = ((ordersGo looks.length k).flatMap (nextO looks.length)).filter _
    rw [List.filter_flatMap]
    refine congrArg (List.flatMap · _) (funext fun o => ?_)
    unfold nextO nextS
    rw [List.filter_map, List.filter_filter]
    have key : ∀ j, fitsB looks (k + 1) (o ++ [j]) = (fitsB looks k o && decide (looks[j]? = some looks[k])) := fun j => by
      unfold fitsB
      rw [ht, List.map_append, List.map_append, ← Bool.decide_and]
      refine decide_eq_decide.mpr ⟨fun e => ?_, fun e => by rw [e.1]; simp [e.2]⟩
      obtain ⟨e1, e2⟩ := List.append_inj' e rfl
      exact ⟨e1, by simpa using e2⟩
    by_cases hf : fitsB looks k o = true
    · rw [if_pos hf]
      refine congrArg (List.map _) (List.filter_congr fun j _ => ?_)
      show _ = (fitsB looks (k + 1) (o ++ [j]) && decide (j ∉ o))
      rw [key, hf, Bool.true_and, Bool.and_comm]
    · rw [if_neg hf]
      have : (List.range looks.length).filter (fun j => ((fitsB looks (k + 1)) ∘ fun j => o ++ [j]) j && decide (j ∉ o)) = [] := List.filter_eq_nil_iff.mpr fun j _ => by
        show ¬ (fitsB looks (k + 1) (o ++ [j]) && decide (j ∉ o)) = true
        rw [key]
        simp [hf]
      rw [this]
      rfl
theorem swapsL_orders (looks : List Str) : swapsL looks = (ordersL looks.length).filter (fitsB looks looks.length) := by
  have := swaps_orders looks looks.length (Nat.le_refl _)
  rw [List.take_length] at this
  exact this
/-! rising -/
/-! sorted readings -/
theorem dataLt_asym {a b : D} (h : PySem.W.dataLt a b = true) : PySem.W.dataLt b a = false := by
  cases e : PySem.W.dataLt b a with
  | false => rfl
  | true =>
    have := lex_trans _ _ _ h e
    rw [lex_irrefl] at this
    cases this
theorem pair_rel {α : Type} {R : α → α → Prop} : ∀ {l : List α}, l.Pairwise R → ∀ a ∈ l, ∀ b ∈ l, a = b ∨ R a b ∨ R b a
  | [], _, a, ha, _, _ => by cases ha
  | x :: l, h, a, ha, b, hb => by
    obtain ⟨h1, h2⟩ := List.pairwise_cons.mp h
    rcases List.mem_cons.mp ha with e1 | ha'
    · rcases List.mem_cons.mp hb with e2 | hb'
      · exact .inl (e1.trans e2.symm)
      · exact .inr (.inl (by rw [e1]; exact h1 b hb'))
    · rcases List.mem_cons.mp hb with e2 | hb'
      · exact .inr (.inr (by rw [e2]; exact h1 a ha'))
      · exact pair_rel h2 a ha' b hb'
/-- a rising list is what sorted makes of each list with the same items -/
theorem sort_rise {l s : List D} (hs : s.Pairwise fun a b => PySem.W.dataLt a b = true) (hp : l.Perm s) : l.mergeSort (PySem.W.dataLe false id) = s := by
  refine List.Perm.eq_of_pairwise (le := fun a b => PySem.W.dataLe false id a b = true) (fun a b ha hb h1 h2 => ?_) (PySem.W.sort_pairwise (PySem.W.sortLe_total _ _ _) l) (hs.imp fun {a b} h => ?_) ((List.mergeSort_perm _ _).trans hp)
  · have ha' : a ∈ s := hp.mem_iff.mp (List.mem_mergeSort.mp ha)
    have h1 : (!PySem.W.dataLt b a) = true := h1
    have h2 : (!PySem.W.dataLt a b) = true := h2
    rcases pair_rel hs a ha' b hb with h | h | h
    · exact h
    · rw [h] at h2; cases h2
    · rw [h] at h1; cases h1
  · show (!PySem.W.dataLt b a) = true
    rw [dataLt_asym h]
    rfl
theorem wo_sorted {l s : List D} {Q : List D → Prop} (h1 : alikeB l = true) (h2 : sortB l = true) (h3 : shallow l = true) (hs : s.Pairwise fun a b => PySem.W.dataLt a b = true) (hp : l.Perm s) (q : Q s) : WO (gSorted (.list l)) Q := by
  refine ⟨_, ?_, q⟩
  unfold gSorted
  dsimp only
  rw [h1, h2, h3, sort_rise hs hp]
  rfl
end M

namespace M
open PySem PySem.Spec PyProof.Rows L2
theorem irange_nat (n : Nat) : irange 0 n = (List.range n).map fun (j : Nat) => PyData.int (j : Int) := by
  unfold irange
  exact List.map_congr_left fun j _ => by rw [Int.zero_add]
end M

namespace M
open PySem PySem.Spec PyProof.Rows L2
theorem all_zw {α β : Type} {f : Nat → Hd → α} {g : Nat → Hd → β} {p : α → Bool} {q : β → Bool} (h : ∀ j x, p (f j x) = q (g j x)) : ∀ (o : List Nat) (hs : List Hd), (List.zipWith f o hs).all p = (List.zipWith g o hs).all q
  | [], _ => rfl
  | _ :: _, [] => rfl
  | j :: o, x :: hs => by rw [List.zipWith_cons_cons, List.zipWith_cons_cons, List.all_cons, List.all_cons, h j x, all_zw h o hs]
theorem emod_zero_iff {m a b : Int} (h : m ∣ a - b) : a % m = 0 ↔ b % m = 0 := by
  have := Int.emod_eq_emod_iff_emod_sub_eq_zero.mpr (Int.emod_eq_zero_of_dvd h)
  rw [this]
theorem turn1_rng {m : Int} (hm : 0 < m) (hs : List Hd) (mir : Bool) (t u : Int) (j : Nat) (h : Hd) : 0 ≤ turn1 m hs mir t u j h ∧ turn1 m hs mir t u j h < m := ⟨Int.emod_nonneg _ (by omega), Int.emod_lt_of_pos _ hm⟩
theorem taken_plain {m : Int} (hm : 0 < m) (hs : List Hd) (r : Rd) (t u : Int) : takenB m (rowsL m hs false r) t u = (turnsL m hs r t u).all fun x => decide (x = 0) := by
  refine all_zw (f := row1 m hs r.2) (g := turn1 m hs r.2 t u) (fun j x => decide_eq_decide.mpr ?_) r.1 hs
  have h := row_turn (m := m) (hs := hs) (mir := r.2) (t := t) (u := u) (j := j) (h := x)
  obtain ⟨h1, h2⟩ := turn1_rng hm hs r.2 t u j x
  rw [emod_zero_iff h, Int.emod_eq_of_lt h1 h2]
theorem taken_blank {m : Int} (hm : 0 < m) (hs : List Hd) (r : Rd) (t u : Int) : takenB m (rowsL m hs true r) t u = (turnsL m hs r t u).tail.all fun x => decide (x = (turnsL m hs r t u).headD 0) := by
  obtain ⟨o, mir⟩ := r
  show takenB m ((rows0 m hs (o, mir)).tail.map fun x => lessR m x ((rows0 m hs (o, mir)).headD (0, 0, 0))) t u = _
  unfold rows0 turnsL takenB
  dsimp only
  generalize hf : row1 m hs mir = f
  generalize hg : turn1 m hs mir t u = g
  cases o with
  | nil => rfl
  | cons j o =>
    cases hs with
    | nil => rfl
    | cons x xs =>
      rw [List.zipWith_cons_cons, List.zipWith_cons_cons, List.tail_cons, List.tail_cons, List.headD_cons, List.headD_cons, List.all_map]
      refine all_zw (p := (fun r : Rw => decide ((r.1 * u - r.2.1 * t - r.2.2) % m = 0)) ∘ fun y => lessR m y (f j x)) (q := fun y => decide (y = g j x)) (fun j' x' => decide_eq_decide.mpr ?_) o xs
      have h0 := row_turn (m := m) (hs := x :: xs) (mir := mir) (t := t) (u := u) (j := j) (h := x)
      have h1 := row_turn (m := m) (hs := x :: xs) (mir := mir) (t := t) (u := u) (j := j') (h := x')
      obtain ⟨a1, a2⟩ := turn1_rng hm (x :: xs) mir t u j x
      obtain ⟨b1, b2⟩ := turn1_rng hm (x :: xs) mir t u j' x'
      rw [hf, hg] at h0 h1
      rw [hg] at a1 a2 b1 b2
      show ((lessR m (f j' x') (f j x)).1 * u - (lessR m (f j' x') (f j x)).2.1 * t - (lessR m (f j' x') (f j x)).2.2) % m = 0 ↔ _
      unfold lessR
      dsimp only
      generalize f j' x' = R1 at *
      generalize f j x = R0 at *
      generalize g j' x' = T1 at *
      generalize g j x = T0 at *
      have e1 := Int.mul_ediv_add_emod (R1.1 - R0.1) m
      have e2 := Int.mul_ediv_add_emod (R1.2.1 - R0.2.1) m
      have e3 := Int.mul_ediv_add_emod (R1.2.2 - R0.2.2) m
      have hd : m ∣ ((R1.1 - R0.1) % m * u - (R1.2.1 - R0.2.1) % m * t - (R1.2.2 - R0.2.2) % m) - (T1 - T0) := by
        obtain ⟨c0, k0⟩ := h0
        obtain ⟨c1, k1⟩ := h1
        refine ⟨c1 - c0 - (R1.1 - R0.1) / m * u + (R1.2.1 - R0.2.1) / m * t + (R1.2.2 - R0.2.2) / m, ?_⟩
        grind
      rw [emod_zero_iff hd]
      constructor
      · intro h
        obtain ⟨c, hc⟩ := Int.dvd_of_emod_eq_zero h
        rcases Int.lt_trichotomy c 0 with hc0 | hc0 | hc0
        · have := Int.mul_le_mul_of_nonneg_left (show c ≤ -1 by omega) (show 0 ≤ m by omega)
          omega
        · subst hc0; omega
        · have := Int.mul_le_mul_of_nonneg_left (show 1 ≤ c by omega) (show 0 ≤ m by omega)
          omega
      · intro h
        rw [h, Int.sub_self, Int.zero_emod]
theorem rowsL_len (m : Int) (hs : List Hd) (bl : Bool) (r : Rd) : (rowsL m hs bl r).length ≤ hs.length := by
  have h : (rows0 m hs r).length ≤ hs.length := by unfold rows0; rw [List.length_zipWith]; omega
  unfold rowsL
  cases bl
  · exact h
  · show ((rows0 m hs r).tail.map _).length ≤ _
    rw [List.length_map, List.length_tail]
    omega
theorem mem_zw {α : Type} {f : Nat → Hd → α} : ∀ {o : List Nat} {hs : List Hd} {x : α}, x ∈ List.zipWith f o hs → ∃ j ∈ o, ∃ h ∈ hs, x = f j h
  | [], _, x, hx => by cases hx
  | _ :: _, [], x, hx => by cases hx
  | j :: o, h :: hs, x, hx => by
    rw [List.zipWith_cons_cons] at hx
    rcases List.mem_cons.mp hx with rfl | hx
    · exact ⟨j, List.mem_cons_self, h, List.mem_cons_self, rfl⟩
    · obtain ⟨j', h1, h', h2, h3⟩ := mem_zw hx
      exact ⟨j', List.mem_cons_of_mem _ h1, h', List.mem_cons_of_mem _ h2, h3⟩
def RwOk (m : Int) (x : Rw) : Prop := (0 ≤ x.1 ∧ x.1 < m) ∧ (0 ≤ x.2.1 ∧ x.2.1 < m) ∧ (0 ≤ x.2.2 ∧ x.2.2 < m)
theorem rowsL_rng {m : Int} {hs : List Hd} {bl : Bool} {r : Rd} (hm : 0 < m) (hk : HandsOk m hs) (ho : SwOk hs.length r.1) : ∀ x ∈ rowsL m hs bl r, RwOk m x := by
  have e : ∀ a : Int, 0 ≤ a % m ∧ a % m < m := fun a => ⟨Int.emod_nonneg _ (by omega), Int.emod_lt_of_pos _ hm⟩
  intro x hx
  unfold rowsL at hx
  cases bl
  · obtain ⟨j, hj, h, hh, rfl⟩ := mem_zw (show x ∈ rows0 m hs r from hx)
    have := ho.lt j hj
    unfold row1
    rw [getD_eq this]
    have := hk hs[j] (List.getElem_mem _)
    exact ⟨⟨this.1, this.2.1⟩, e _, e _⟩
  · obtain ⟨y, hy, rfl⟩ := List.mem_map.mp (show x ∈ (rows0 m hs r).tail.map _ from hx)
    exact ⟨e _, e _, e _⟩
end M

namespace M
open PySem PySem.Spec PyProof.Rows L2
/-! ### pictures -/
abbrev Pc := Str × Int
def pD (p : Pc) : D := .tuple [.str p.1, .int p.2]
def PcOk (l : List Pc) : Prop := ∀ p ∈ l, isLk p.1
def leP : Pc → Pc → Bool := PySem.W.dataLe false pD
def sortP (l : List Pc) : List Pc := l.mergeSort leP
theorem leP_tot : PySem.W.TotalLe leP := by
  show PySem.W.TotalLe (PySem.W.sortLe _ false _)
  exact PySem.W.sortLe_total _ _ _
theorem pD_inj {a b : Pc} (h : PySem.W.keyToks (pD a) = PySem.W.keyToks (pD b)) : a = b := by
  obtain ⟨x, i⟩ := a
  obtain ⟨y, j⟩ := b
  unfold pD at h
  simp only [PySem.W.keyToks, PySem.W.keyToksAll, List.cons_append, List.nil_append, List.cons.injEq, Sum.inl.injEq, Sum.inr.injEq, true_and, and_true] at h
  obtain ⟨h1, h2⟩ := h
  have e : x = y := PySem.W.str_of_cps h1
  rw [e, h2]
theorem leP_anti {a b : Pc} (h1 : leP a b = true) (h2 : leP b a = true) : a = b := by
  have h1 : (!PySem.W.dataLt (pD b) (pD a)) = true := h1
  have h2 : (!PySem.W.dataLt (pD a) (pD b)) = true := h2
  rw [Bool.not_eq_true'] at h1 h2
  exact pD_inj (lex_total _ _ h2 h1)
theorem sortP_perm (l : List Pc) : (sortP l).Perm l := List.mergeSort_perm _ _
theorem sortP_eq {l k : List Pc} : sortP l = sortP k ↔ l.Perm k := by
  constructor
  · intro h
    exact (sortP_perm l).symm.trans (h ▸ sortP_perm k)
  · intro h
    exact List.Perm.eq_of_pairwise (le := fun a b => leP a b = true) (fun a b _ _ => leP_anti) (PySem.W.sort_pairwise leP_tot l) (PySem.W.sort_pairwise leP_tot k) ((sortP_perm l).trans (h.trans (sortP_perm k).symm))
theorem alike_pD (a b : Pc) : PySem.W.alike (pD a) (pD b) = true := by
  unfold pD
  simp [PySem.W.alike, PySem.W.alikeAll]
theorem lay_pD {n : Nat} {p : Pc} (h : isLk p.1) : Lay (n + 1) (pD p) := lay_tup (lay_all2 (lay_lk h) (lay_int _))
theorem lay_pDs {n : Nat} {l : List Pc} (h : PcOk l) : Lay (n + 2) (.list (l.map pD)) := lay_lst fun d hd => by
  obtain ⟨p, hp, rfl⟩ := List.mem_map.mp hd
  exact lay_pD (h p hp)
theorem depth_pD (p : Pc) : (pD p).depth ≤ 1 := Nat.le_refl 1
theorem wo_sortedP {l : List Pc} {Q : List D → Prop} (q : Q ((sortP l).map pD)) : WO (gSorted (.list (l.map pD))) Q := by
  refine ⟨_, ?_, q⟩
  unfold gSorted
  dsimp only
  have h1 : alikeB (l.map pD) = true := by
    unfold alikeB
    refine List.all_eq_true.mpr fun d hd => List.all_eq_true.mpr fun e he => ?_
    obtain ⟨a, _, rfl⟩ := List.mem_map.mp hd
    obtain ⟨b, _, rfl⟩ := List.mem_map.mp he
    exact alike_pD a b
  have h2 : sortB (l.map pD) = true := by
    unfold sortB
    rw [Bool.or_eq_true]
    refine .inl (List.all_eq_true.mpr fun d hd => ?_)
    obtain ⟨a, _, rfl⟩ := List.mem_map.mp hd
    rfl
  have h3 : shallow (l.map pD) = true := by
    unfold shallow
    refine List.all_eq_true.mpr fun d hd => ?_
    obtain ⟨a, _, rfl⟩ := List.mem_map.mp hd
    exact decide_eq_true (by have := depth_pD a; omega)
  rw [h1, h2, h3]
  simp only [Bool.and_self, if_true]
  unfold sortP
  exact congrArg some (PySem.W.sort_maps pD fun a _ b _ => rfl).symm
theorem eqv_pD (a b : Pc) : PyData.eqv (pD a) (pD b) = decide (a = b) := by
  unfold pD
  show PyData.eqvAll [.str a.1, .int a.2] [.str b.1, .int b.2] = _
  show (PyData.eqv (.str a.1) (.str b.1) && (PyData.eqv (.int a.2) (.int b.2) && PyData.eqvAll [] [])) = _
  rw [eqv_str, eqv_int]
  have : PyData.eqvAll [] [] = true := by unfold PyData.eqvAll; rfl
  rw [this, Bool.and_true, ← Bool.decide_and]
  exact decide_eq_decide.mpr ⟨fun h => Prod.ext h.1 h.2, fun h => by rw [h]; exact ⟨rfl, rfl⟩⟩
theorem eqvAll_pD : ∀ l k : List Pc, PyData.eqvAll (l.map pD) (k.map pD) = decide (l = k)
  | [], [] => by unfold PyData.eqvAll; rfl
  | [], y :: ys => by unfold PyData.eqvAll; rfl
  | x :: xs, [] => by unfold PyData.eqvAll; rfl
  | x :: xs, y :: ys => by
    show (PyData.eqv (pD x) (pD y) && PyData.eqvAll (xs.map pD) (ys.map pD)) = _
    rw [eqvAll_pD xs ys, eqv_pD, ← Bool.decide_and]
    exact decide_eq_decide.mpr (by rw [List.cons.injEq])
theorem wo_eqP {l k : List Pc} {Q : D → Prop} (hl : PcOk l) (hk : PcOk k) (q : Q (.bool (decide (l = k)))) : WO (gEq (.list (l.map pD)) (.list (k.map pD))) Q :=
  wo_eqD ((lay_pDs (n := 0) hl).shp (by omega)) ((lay_pDs (n := 0) hk).shp (by omega)) (by
    have : PyData.eqv (.list (l.map pD)) (.list (k.map pD)) = decide (l = k) := by unfold PyData.eqv; exact eqvAll_pD l k
    rw [this]; exact q)
theorem PcOk.perm {l k : List Pc} (h : PcOk l) (p : k.Perm l) : PcOk k := fun x hx => h x (p.mem_iff.mp hx)
theorem PcOk.sort {l : List Pc} (h : PcOk l) : PcOk (sortP l) := h.perm (sortP_perm l)
def markI (h : Hd) (t : Int) : Int := h.2.1 + h.1 * t
def picL (m : Int) (hs : List Hd) (t : Int) : List Pc := hs.map fun h => (h.2.2, markI h t % m)
def movL (m sg r : Int) (l : List Pc) : List Pc := l.map fun p => (p.1, (sg * p.2 + r) % m)
theorem picL_ok {m : Int} {hs : List Hd} {t : Int} (hk : ∀ h ∈ hs, isLk h.2.2) : PcOk (picL m hs t) := fun p hp => by
  obtain ⟨h, hh, rfl⟩ := List.mem_map.mp hp
  exact hk h hh
theorem PcOk.mov {m sg r : Int} {l : List Pc} (h : PcOk l) : PcOk (movL m sg r l) := fun p hp => by
  obtain ⟨x, hx, rfl⟩ := List.mem_map.mp hp
  exact h x hx
def InM (m : Int) (l : List Pc) : Prop := ∀ p ∈ l, 0 ≤ p.2 ∧ p.2 < m
theorem picL_in {m : Int} (hm : 0 < m) (hs : List Hd) (t : Int) : InM m (picL m hs t) := fun p hp => by
  obtain ⟨h, _, rfl⟩ := List.mem_map.mp hp
  exact ⟨Int.emod_nonneg _ (by omega), Int.emod_lt_of_pos _ hm⟩
theorem movL_comp {m a r b s : Int} (l : List Pc) : movL m b s (movL m a r l) = movL m (b * a) (b * r + s) l := by
  unfold movL
  rw [List.map_map]
  refine List.map_congr_left fun p _ => ?_
  show (p.1, (b * ((a * p.2 + r) % m) + s) % m) = (p.1, (b * a * p.2 + (b * r + s)) % m)
  have e := Int.mul_ediv_add_emod (a * p.2 + r) m
  refine congrArg (Prod.mk p.1) (Int.emod_eq_emod_iff_emod_sub_eq_zero.mpr (Int.emod_eq_zero_of_dvd ⟨-(b * ((a * p.2 + r) / m)), ?_⟩))
  generalize (a * p.2 + r) / m = q at *
  generalize (a * p.2 + r) % m = w at *
  grind
theorem movL_id {m r : Int} {l : List Pc} (h : InM m l) (hr : m ∣ r) : movL m 1 r l = l := by
  unfold movL
  have : ∀ p ∈ l, (p.1, (1 * p.2 + r) % m) = p := fun p hp => by
    obtain ⟨c, rfl⟩ := hr
    rw [Int.one_mul, Int.add_mul_emod_self_left, Int.emod_eq_of_lt (h p hp).1 (h p hp).2]
  rw [List.map_congr_left this, List.map_id'']
  exact fun _ => rfl
theorem movL_cong {m sg r s : Int} (l : List Pc) (h : m ∣ r - s) : movL m sg r l = movL m sg s l := by
  unfold movL
  refine List.map_congr_left fun p _ => congrArg (Prod.mk p.1) ?_
  exact Int.emod_eq_emod_iff_emod_sub_eq_zero.mpr (Int.emod_eq_zero_of_dvd (by rw [show sg * p.2 + r - (sg * p.2 + s) = r - s by omega]; exact h))
/-- a sign that the clock allows -/
def SgOk (mir : Bool) (sg : Int) : Prop := sg = 1 ∨ (mir = true ∧ sg = -1)
/-- two ticks show one picture -/
def Show (m : Int) (hs : List Hd) (bl mir : Bool) (t u : Int) : Prop := ∃ sg r : Int, SgOk mir sg ∧ (bl = false → r = 0) ∧ (movL m sg r (picL m hs t)).Perm (picL m hs u)
theorem SgOk.sq {mir : Bool} {sg : Int} (h : SgOk mir sg) : sg * sg = 1 := by
  rcases h with h | ⟨_, h⟩ <;> subst h <;> rfl
theorem SgOk.mul {mir : Bool} {a b : Int} (h : SgOk mir a) (k : SgOk mir b) : SgOk mir (b * a) := by
  rcases h with rfl | ⟨h, rfl⟩
  · rcases k with rfl | ⟨k, rfl⟩
    · exact .inl rfl
    · exact .inr ⟨k, rfl⟩
  · rcases k with rfl | ⟨k, rfl⟩
    · exact .inr ⟨h, rfl⟩
    · exact .inl rfl
theorem Show.refl {m : Int} (hm : 0 < m) (hs : List Hd) (bl mir : Bool) (t : Int) : Show m hs bl mir t t := ⟨1, 0, .inl rfl, fun _ => rfl, by rw [movL_id (picL_in hm hs t) ⟨0, by omega⟩]⟩
theorem Show.symm {m : Int} (hm : 0 < m) {hs : List Hd} {bl mir : Bool} {t u : Int} (h : Show m hs bl mir t u) : Show m hs bl mir u t := by
  obtain ⟨sg, r, h1, h2, h3⟩ := h
  refine ⟨sg, -(sg * r), h1, fun b => by rw [h2 b]; omega, ?_⟩
  have h4 : (movL m sg (-(sg * r)) (movL m sg r (picL m hs t))).Perm (movL m sg (-(sg * r)) (picL m hs u)) := h3.map _
  rw [movL_comp, h1.sq, movL_id (picL_in hm hs t) ⟨0, by omega⟩] at h4
  exact h4.symm
theorem Show.trans {m : Int} {hs : List Hd} {bl mir : Bool} {t u w : Int} (h : Show m hs bl mir t u) (k : Show m hs bl mir u w) : Show m hs bl mir t w := by
  obtain ⟨a, r, h1, h2, h3⟩ := h
  obtain ⟨b, s, k1, k2, k3⟩ := k
  refine ⟨b * a, b * r + s, h1.mul k1, fun e => by rw [h2 e, k2 e]; omega, ?_⟩
  have h4 : (movL m b s (movL m a r (picL m hs t))).Perm (movL m b s (picL m hs u)) := h3.map _
  rw [movL_comp] at h4
  exact h4.trans k3
/-- the turns that are tried -/
theorem turns_try {m sg : Int} {bl : Bool} {l k : List Pc} {p0 : Pc} {l' : List Pc} (hl : sortP l = p0 :: l') : ((if bl then (sortP k).map (fun p => p.2 - sg * p0.2) else [0]).any fun r => decide (sortP (movL m sg r (sortP l)) = sortP k)) = true ↔ ∃ r, (bl = false → r = 0) ∧ (movL m sg r l).Perm k := by
  have key : ∀ r, sortP (movL m sg r (sortP l)) = sortP k ↔ (movL m sg r l).Perm k := fun r => by
    rw [sortP_eq]
    have : (movL m sg r (sortP l)).Perm (movL m sg r l) := (sortP_perm l).map _
    exact ⟨fun h => this.symm.trans h, fun h => this.trans h⟩
  rw [List.any_eq_true]
  cases bl
  · constructor
    · rintro ⟨r, hr, h⟩
      simp only [Bool.false_eq_true, if_false, List.mem_singleton] at hr
      subst hr
      exact ⟨0, fun _ => rfl, (key 0).mp (of_decide_eq_true h)⟩
    · rintro ⟨r, h1, h2⟩
      obtain rfl := h1 rfl
      exact ⟨0, by simp, decide_eq_true ((key 0).mpr h2)⟩
  · constructor
    · rintro ⟨r, _, h⟩
      exact ⟨r, fun z => (by cases z), (key r).mp (of_decide_eq_true h)⟩
    · rintro ⟨r, _, h2⟩
      have hp0 : p0 ∈ l := (sortP_perm l).mem_iff.mp (by rw [hl]; exact List.mem_cons_self)
      have hm0 : (p0.1, (sg * p0.2 + r) % m) ∈ k := h2.mem_iff.mp (List.mem_map.mpr ⟨p0, hp0, rfl⟩)
      refine ⟨(sg * p0.2 + r) % m - sg * p0.2, List.mem_map.mpr ⟨_, (sortP_perm k).mem_iff.mpr hm0, rfl⟩, decide_eq_true ((key _).mpr ?_)⟩
      have e := Int.mul_ediv_add_emod (sg * p0.2 + r) m
      have hc : m ∣ (sg * p0.2 + r) % m - sg * p0.2 - r := ⟨-((sg * p0.2 + r) / m), by
        generalize (sg * p0.2 + r) / m = q at *
        generalize (sg * p0.2 + r) % m = w at *
        grind⟩
      rw [movL_cong l hc]
      exact h2
/-! by readings -/
theorem perm_idx {α β : Type} {g : α → β} : ∀ {l k : List β}, l.Perm k → ∀ s : List α, k = s.map g → ∃ s' : List α, s'.Perm s ∧ l = s'.map g := by
  intro l k h
  induction h with
  | nil => intro s hs; exact ⟨s, List.Perm.refl _, hs⟩
  | cons x p ih =>
    intro s hs
    cases s with
    | nil => cases hs
    | cons a s =>
      rw [List.map_cons] at hs
      injection hs with h1 h2
      obtain ⟨s', h3, h4⟩ := ih s h2
      exact ⟨a :: s', h3.cons a, by rw [List.map_cons, h4, h1]⟩
  | swap x y l =>
    intro s hs
    cases s with
    | nil => cases hs
    | cons a s =>
      cases s with
      | nil => cases hs
      | cons b s =>
        rw [List.map_cons, List.map_cons] at hs
        injection hs with h1 hs
        injection hs with h2 h3
        exact ⟨b :: a :: s, List.Perm.swap a b s, by rw [List.map_cons, List.map_cons, h1, h2, h3]⟩
  | trans p q ih1 ih2 =>
    intro s hs
    obtain ⟨s1, h1, h2⟩ := ih2 s hs
    obtain ⟨s2, h3, h4⟩ := ih1 s1 h2
    exact ⟨s2, h3.trans h1, h4⟩
theorem orders_mem (n : Nat) : ∀ (k : Nat) (o : List Nat), o.length = k → (∀ j ∈ o, j < n) → o.Nodup → o ∈ ordersGo n k
  | 0, o, h, _, _ => by
    have := List.eq_nil_of_length_eq_zero h
    subst this
    simp [ordersGo]
  | k + 1, o, h, h1, h2 => by
    obtain ⟨p, j, rfl⟩ : ∃ p j, o = p ++ [j] := by
      have hne : o ≠ [] := fun e => by rw [e] at h; cases h
      exact ⟨o.dropLast, o.getLast hne, (List.dropLast_concat_getLast hne).symm⟩
    rw [List.length_append, List.length_singleton] at h
    obtain ⟨n1, _, n3⟩ := List.nodup_append.mp h2
    have hp := orders_mem n k p (by omega) (fun i hi => h1 i (List.mem_append_left _ hi)) n1
    show _ ∈ (ordersGo n k).flatMap (nextO n)
    refine List.mem_flatMap.mpr ⟨p, hp, List.mem_map.mpr ⟨j, List.mem_filter.mpr ⟨List.mem_range.mpr (h1 j (by simp)), decide_eq_true fun hj => n3 j hj j (by simp) rfl⟩, rfl⟩⟩
theorem perm_of_sub {α : Type} [BEq α] [LawfulBEq α] : ∀ {xs ys : List α}, xs.Nodup → (∀ x ∈ xs, x ∈ ys) → ys.length ≤ xs.length → xs.Perm ys
  | [], ys, _, _, h => by
    have := List.eq_nil_of_length_eq_zero (Nat.le_zero.mp h)
    rw [this]
  | x :: xs, ys, hn, hs, hl => by
    obtain ⟨h1, h2⟩ := List.nodup_cons.mp hn
    have hx := hs x List.mem_cons_self
    refine (List.Perm.cons x (perm_of_sub h2 (fun y hy => ?_) ?_)).trans (List.perm_cons_erase hx).symm
    · exact (List.mem_erase_of_ne (fun e => h1 (by rw [← e]; exact hy))).mpr (hs y (List.mem_cons_of_mem _ hy))
    · rw [List.length_erase_of_mem hx]
      rw [List.length_cons] at hl
      omega
theorem SwOk.perm {n : Nat} {o : List Nat} (h : SwOk n o) : o.Perm (List.range n) := by
  have hs : ∀ j ∈ o, j ∈ List.range n := fun j hj => List.mem_range.mpr (h.lt j hj)
  exact perm_of_sub h.nd hs (by rw [List.length_range, h.len]; exact Nat.le_refl _)
theorem swOk_of_perm {n : Nat} {o : List Nat} (h : o.Perm (List.range n)) : SwOk n o :=
  ⟨by rw [h.length_eq, List.length_range], fun j hj => List.mem_range.mp (h.mem_iff.mp hj), h.symm.nodup List.nodup_range⟩
theorem swaps_mem {looks : List Str} {o : List Nat} (h : SwOk looks.length o) (hl : ∀ i, i < looks.length → ∀ j, o[i]? = some j → looks[j]? = looks[i]?) : o ∈ swapsL looks := by
  rw [swapsL_orders]
  refine List.mem_filter.mpr ⟨orders_mem _ _ _ h.len h.lt h.nd, decide_eq_true ?_⟩
  rw [List.take_length]
  refine List.ext_getElem? fun i => ?_
  rw [List.getElem?_map, List.getElem?_map]
  by_cases hi : i < looks.length
  · have hio : i < o.length := by rw [h.len]; exact hi
    have := hl i hi o[i] (List.getElem?_eq_getElem hio)
    rw [List.getElem?_eq_getElem hio, Option.map_some, this, List.getElem?_eq_getElem hi]
    rfl
  · rw [List.getElem?_eq_none (by rw [h.len]; omega), List.getElem?_eq_none (by omega)]
    rfl
end M

namespace M
open PySem PySem.Spec PyProof.Rows L2
abbrev h0D : Hd := (0, 0, ⟨#[]⟩)
theorem turn_iff {m r t u : Int} {hs : List Hd} {mv : Bool} {j : Nat} {h : Hd} : turn1 m hs mv t u j h = r % m ↔ (sgn mv * (markI h t % m) + r) % m = markI (hs.getD j h0D) u % m := by
  have hX : (if mv then 0 - (h.2.1 + h.1 * t) else h.2.1 + h.1 * t) = sgn mv * markI h t := by
    cases mv
    · show h.2.1 + h.1 * t = 1 * (h.2.1 + h.1 * t)
      rw [Int.one_mul]
    · show 0 - (h.2.1 + h.1 * t) = -1 * (h.2.1 + h.1 * t)
      omega
  unfold turn1
  rw [hX]
  show (markI (hs.getD j h0D) u - sgn mv * markI h t) % m = _ ↔ _
  generalize markI (hs.getD j h0D) u = A
  generalize markI h t = B
  generalize sgn mv = s
  rw [Int.emod_eq_emod_iff_emod_sub_eq_zero, Int.emod_eq_emod_iff_emod_sub_eq_zero]
  have e := Int.mul_ediv_add_emod B m
  generalize B / m = q at *
  generalize B % m = w at *
  constructor
  · intro h
    obtain ⟨c, hc⟩ := Int.dvd_of_emod_eq_zero h
    exact Int.emod_eq_zero_of_dvd ⟨-c - s * q, by grind⟩
  · intro h
    obtain ⟨c, hc⟩ := Int.dvd_of_emod_eq_zero h
    exact Int.emod_eq_zero_of_dvd ⟨-c - s * q, by grind⟩
def pcA (m : Int) (hs : List Hd) (u : Int) (j : Nat) : Pc := ((hs.getD j h0D).2.2, markI (hs.getD j h0D) u % m)
def pcB (m s r t : Int) (h : Hd) : Pc := (h.2.2, (s * (markI h t % m) + r) % m)
theorem map_iff {m r t u : Int} {hs0 : List Hd} {mv : Bool} : ∀ {o : List Nat} {hs : List Hd}, o.length = hs.length → (o.map (pcA m hs0 u) = hs.map (pcB m (sgn mv) r t) ↔ o.map (fun j => (hs0.getD j h0D).2.2) = hs.map (fun h => h.2.2) ∧ ∀ x ∈ List.zipWith (turn1 m hs0 mv t u) o hs, x = r % m)
  | [], [], _ => by simp
  | [], _ :: _, h => by simp at h
  | _ :: _, [], h => by simp at h
  | j :: o, h :: hs, hl => by
    have ih := map_iff (m := m) (r := r) (t := t) (u := u) (hs0 := hs0) (mv := mv) (o := o) (hs := hs) (by simpa using hl)
    rw [List.map_cons, List.map_cons, List.map_cons, List.map_cons, List.zipWith_cons_cons, List.cons.injEq, List.cons.injEq, List.forall_mem_cons, ih, turn_iff]
    unfold pcA pcB
    rw [Prod.mk.injEq]
    constructor
    · rintro ⟨⟨a, b⟩, c, d⟩
      exact ⟨⟨a, c⟩, b.symm, d⟩
    · rintro ⟨⟨a, c⟩, b, d⟩
      exact ⟨⟨a, b.symm⟩, c, d⟩
theorem turnsL_rng {m : Int} (hm : 0 < m) {hs : List Hd} {r : Rd} {t u x : Int} (h : x ∈ turnsL m hs r t u) : x % m = x := by
  unfold turnsL at h
  obtain ⟨j, _, y, _, rfl⟩ := mem_zw h
  obtain ⟨a, b⟩ := turn1_rng hm hs r.2 t u j y
  exact Int.emod_eq_of_lt a b
theorem taken_iff {m : Int} (hm : 0 < m) {hs : List Hd} {bl : Bool} {rd : Rd} {t u : Int} : takenB m (rowsL m hs bl rd) t u = true ↔ ∃ r, (bl = false → r = 0) ∧ ∀ x ∈ turnsL m hs rd t u, x = r % m := by
  cases bl
  · rw [taken_plain hm, List.all_eq_true]
    constructor
    · intro h
      exact ⟨0, fun _ => rfl, fun x hx => by rw [Int.zero_emod]; exact of_decide_eq_true (h x hx)⟩
    · rintro ⟨r, h1, h2⟩ x hx
      have := h2 x hx
      rw [h1 rfl, Int.zero_emod] at this
      exact decide_eq_true this
  · rw [taken_blank hm]
    have hr := fun x => turnsL_rng hm (hs := hs) (r := rd) (t := t) (u := u) (x := x)
    generalize turnsL m hs rd t u = l at *
    cases l with
    | nil => exact ⟨fun _ => ⟨0, fun _ => rfl, fun x hx => by cases hx⟩, fun _ => rfl⟩
    | cons a l =>
      rw [List.tail_cons, List.headD_cons, List.all_eq_true]
      constructor
      · intro h
        refine ⟨a, fun z => (by cases z), fun x hx => ?_⟩
        rw [hr a List.mem_cons_self]
        rcases List.mem_cons.mp hx with rfl | hx
        · rfl
        · exact of_decide_eq_true (h x hx)
      · rintro ⟨r, _, h2⟩ x hx
        rw [h2 x (List.mem_cons_of_mem _ hx), h2 a List.mem_cons_self]
        exact decide_eq_true rfl
theorem map_getD (hs : List Hd) (F : Hd → Pc) : hs.map F = (List.range hs.length).map fun j => F (hs.getD j h0D) := by
  refine List.ext_getElem? fun i => ?_
  rw [List.getElem?_map, List.getElem?_map]
  by_cases hi : i < hs.length
  · rw [List.getElem?_range hi, List.getElem?_eq_getElem hi, Option.map_some, Option.map_some, getD_eq hi]
  · rw [List.getElem?_eq_none (by omega), List.getElem?_eq_none (by rw [List.length_range]; omega)]
    rfl
theorem movL_picL (m s r t : Int) (hs : List Hd) : movL m s r (picL m hs t) = hs.map (pcB m s r t) := by
  unfold movL picL
  rw [List.map_map]
  rfl
theorem picL_pcA (m u : Int) (hs : List Hd) : picL m hs u = (List.range hs.length).map (pcA m hs u) := map_getD hs _
theorem readOf_mem {mir mv : Bool} {sw : List (List Nat)} {o : List Nat} (h : o ∈ sw) (h2 : mv = true → mir = true) : (o, mv) ∈ readL mir sw := by
  unfold readL
  refine List.mem_flatMap.mpr ⟨o, h, ?_⟩
  cases mir
  · cases mv
    · simp
    · cases h2 rfl
  · cases mv <;> simp
theorem show_iff {m : Int} (hm : 0 < m) {hs : List Hd} {bl mir : Bool} {t u : Int} : Show m hs bl mir t u ↔ ∃ rd ∈ readOf hs mir, takenB m (rowsL m hs bl rd) t u = true := by
  constructor
  · rintro ⟨sg, r, h1, h2, h3⟩
    obtain ⟨mv, rfl, hmv⟩ : ∃ mv : Bool, sg = sgn mv ∧ (mv = true → mir = true) := by
      rcases h1 with rfl | ⟨h1, rfl⟩
      · exact ⟨false, rfl, fun z => by cases z⟩
      · exact ⟨true, rfl, fun _ => h1⟩
    rw [movL_picL] at h3
    obtain ⟨o, p, e⟩ := perm_idx h3 (List.range hs.length) (picL_pcA m u hs)
    have hsw := swOk_of_perm p
    obtain ⟨e1, e2⟩ := (map_iff hsw.len).mp e.symm
    refine ⟨(o, mv), readOf_mem (swaps_mem (by rw [List.length_map]; exact hsw) fun i hi j hj => ?_) hmv, (taken_iff hm).mpr ⟨r, h2, e2⟩⟩
    rw [List.length_map] at hi
    have hjn := hsw.lt j (List.mem_of_getElem? hj)
    have := congrArg (fun l : List Str => l[i]?) e1
    try dsimp only at this
    rw [List.getElem?_map, hj, Option.map_some, getD_eq hjn] at this
    rw [List.getElem?_map (i := j), List.getElem?_eq_getElem hjn, Option.map_some]
    exact this
  · rintro ⟨⟨o, mv⟩, h1, h2⟩
    obtain ⟨h3, h4⟩ := readL_mem h1
    obtain ⟨h5, h6⟩ := swapsL_ok h3
    rw [List.length_map] at h5 h6
    obtain ⟨r, h7, h8⟩ := (taken_iff hm).mp h2
    refine ⟨sgn mv, r, ?_, h7, ?_⟩
    · cases mv
      · exact .inl rfl
      · exact .inr ⟨h4 rfl, rfl⟩
    · rw [movL_picL, picL_pcA, ← (map_iff h5.len).mpr ⟨?_, h8⟩]
      · exact h5.perm.map _
      · refine List.ext_getElem? fun i => ?_
        rw [List.getElem?_map]
        by_cases hi : i < hs.length
        · obtain ⟨j, e1, e2⟩ := h6 i hi
          have hjn := h5.lt j (List.mem_of_getElem? e1)
          rw [List.getElem?_map, List.getElem?_map, List.getElem?_eq_getElem hjn, Option.map_some] at e2
          rw [e1, Option.map_some, getD_eq hjn, e2, List.getElem?_map]
        · rw [List.getElem?_eq_none (by rw [h5.len]; omega), List.getElem?_eq_none (by rw [List.length_map]; omega)]
          rfl
theorem show_step {m g : Int} {hs : List Hd} {bl mir : Bool} {ws : List Int} (W : We m (firstsL m hs bl) g ws) (t : Int) : Show m hs bl mir t (t + m / g) := by
  have hr := (W.round (t := m / g)).mpr (Int.emod_self ..)
  have key : ∀ r : Int, (∀ h ∈ hs, m ∣ h.1 * (m / g) - r) → movL m 1 r (picL m hs t) = picL m hs (t + m / g) := fun r hd => by
    rw [movL_picL]
    unfold picL
    refine List.map_congr_left fun h hh => ?_
    unfold pcB markI
    refine congrArg (Prod.mk h.2.2) (Int.emod_eq_emod_iff_emod_sub_eq_zero.mpr (Int.emod_eq_zero_of_dvd ?_))
    obtain ⟨c, hc⟩ := hd h hh
    have e := Int.mul_ediv_add_emod (h.2.1 + h.1 * t) m
    generalize (h.2.1 + h.1 * t) / m = q at *
    generalize (h.2.1 + h.1 * t) % m = w at *
    exact ⟨-c - q, by grind⟩
  cases bl
  · refine ⟨1, 0, .inl rfl, fun _ => rfl, ?_⟩
    rw [key 0 fun h hh => by rw [Int.sub_zero]; exact Int.dvd_of_emod_eq_zero (hr h.1 (List.mem_map.mpr ⟨h, hh, rfl⟩))]
  · cases hs with
    | nil => exact ⟨1, 0, .inl rfl, fun _ => rfl, List.Perm.refl _⟩
    | cons h0 hs =>
      refine ⟨1, h0.1 * (m / g), .inl rfl, fun z => (by cases z), ?_⟩
      rw [key (h0.1 * (m / g)) fun h hh => ?_]
      rcases List.mem_cons.mp hh with rfl | hh
      · rw [Int.sub_self]; exact ⟨0, by omega⟩
      · have h2 := hr ((h.1 - h0.1) % m) (List.mem_map.mpr ⟨h, hh, rfl⟩)
        obtain ⟨c, hc⟩ := Int.dvd_of_emod_eq_zero h2
        have e := Int.mul_ediv_add_emod (h.1 - h0.1) m
        generalize (h.1 - h0.1) / m = q at *
        generalize (h.1 - h0.1) % m = w at *
        exact ⟨c + q * (m / g), by grind⟩
open Classical in
noncomputable def showB (m : Int) (hs : List Hd) (bl mir : Bool) (t u : Int) : Bool := decide (Show m hs bl mir t u)
theorem showB_iff {m : Int} {hs : List Hd} {bl mir : Bool} {t u : Int} : showB m hs bl mir t u = true ↔ Show m hs bl mir t u := by
  classical
  unfold showB
  exact decide_eq_true_iff
def picD (m t : Int) : D → D
  | .tuple [.int g, .int s, x] => .tuple [x, .int ((s + g * t) % m)]
  | d => d
theorem picD_hands (m t : Int) (hs : List Hd) : (hs.map hD).map (picD m t) = (picL m hs t).map pD := by
  unfold picL
  rw [List.map_map, List.map_map]
  rfl
def movD (m sg r : Int) : D → D
  | .tuple [x, .int k] => .tuple [x, .int ((sg * k + r) % m)]
  | d => d
theorem movD_pic (m sg r : Int) (l : List Pc) : (l.map pD).map (movD m sg r) = (movL m sg r l).map pD := by
  unfold movL
  rw [List.map_map, List.map_map]
  rfl
def moreD (sg a : Int) : D → D
  | .tuple [_, .int k] => .int (k - sg * a)
  | d => d
theorem moreD_pic (sg a : Int) (l : List Pc) : (l.map pD).map (moreD sg a) = (l.map fun p => p.2 - sg * a).map .int := by
  rw [List.map_map, List.map_map]
  rfl
theorem irange_at {n k : Nat} {d : D} (h : (irange 0 n)[k]? = some d) : d = .int (k : Int) ∧ k < n := by
  rw [irange_nat, List.getElem?_map] at h
  by_cases hk : k < n
  · rw [List.getElem?_range hk] at h
    cases h
    exact ⟨rfl, hk⟩
  · rw [List.getElem?_eq_none (by rw [List.length_range]; omega)] at h
    cases h
/-! rows of a table -/
end M

namespace M
open PySem PySem.Spec PyProof.Rows L2
/-! ### numbers solved -/
def Slv (m : Int) (fs ds : List Int) (x : Int) : Prop := ∀ p ∈ fs.zip ds, m ∣ p.1 * x - p.2
theorem dot_slv {m x : Int} : ∀ {ws fs ds : List Int}, fs.length = ds.length → Slv m fs ds x → m ∣ dot ws ds - x * dot ws fs
  | [], _, _, _, _ => ⟨0, by simp [dot]⟩
  | _ :: _, [], [], _, _ => ⟨0, by simp [dot]⟩
  | _ :: _, [], _ :: _, h, _ => by simp at h
  | _ :: _, _ :: _, [], h, _ => by simp at h
  | w :: ws, f :: fs, d :: ds, hl, h => by
    obtain ⟨a, ha⟩ := dot_slv (ws := ws) (fs := fs) (ds := ds) (by simpa using hl) fun p hp => h p (by rw [List.zip_cons_cons]; exact List.mem_cons_of_mem _ hp)
    obtain ⟨b, hb⟩ := h (f, d) (by rw [List.zip_cons_cons]; exact List.mem_cons_self)
    refine ⟨a - w * b, ?_⟩
    show w * d + dot ws ds - x * (w * f + dot ws fs) = _
    have hb : f * x - d = m * b := hb
    grind
theorem slv_dot {m u : Int} {fs ds ws : List Int} (W : We m fs 1 ws) (hl : fs.length = ds.length) (h : Slv m fs ds u) : m ∣ dot ws ds - u := by
  obtain ⟨a, ha⟩ := dot_slv (ws := ws) hl h
  obtain ⟨c, hc⟩ := W.dot
  exact ⟨a + u * c, by grind⟩
theorem Slv.shift {m u v : Int} {fs ds : List Int} (h : Slv m fs ds u) (k : m ∣ u - v) : Slv m fs ds v := fun p hp => by
  obtain ⟨a, ha⟩ := h p hp
  obtain ⟨b, hb⟩ := k
  exact ⟨a - p.1 * b, by grind⟩
theorem mod_eq_dvd {m a b : Int} : a % m = b % m ↔ m ∣ a - b := by
  rw [Int.emod_eq_emod_iff_emod_sub_eq_zero]
  exact ⟨Int.dvd_of_emod_eq_zero, Int.emod_eq_zero_of_dvd⟩
theorem dvd_mod_sub (m a : Int) : m ∣ a % m - a := ⟨-(a / m), by have := Int.mul_ediv_add_emod a m; grind⟩
theorem slv_all {m : Int} {fs ds ws : List Int} (W : We m fs 1 ws) (hl : fs.length = ds.length) (h : Slv m fs ds (dot ws ds % m)) (u : Int) : Slv m fs ds u ↔ u % m = dot ws ds % m := by
  constructor
  · intro k
    exact (mod_eq_dvd.mpr (slv_dot W hl k)).symm
  · intro k
    refine h.shift ?_
    obtain ⟨a, ha⟩ := dvd_mod_sub m (dot ws ds)
    obtain ⟨b, hb⟩ := mod_eq_dvd.mp k
    exact ⟨a - b, by grind⟩
def SolOf (m : Int) (fs ds : List Int) (d : D) : Prop := (∃ e, d = .tuple [.str "not", e] ∧ ∀ u, ¬ Slv m fs ds u) ∨ (∃ (x : Int) (e : D), d = .tuple [.str "all", .int x, .int m, e] ∧ 0 ≤ x ∧ x < m ∧ ∀ u, Slv m fs ds u ↔ u % m = x)
theorem dot_sum1 (ws ns : List Int) : (List.zipWith (fun w n => w * n) ws ns).sum = dot ws ns := by
  have := dot_sum 1 ws ns
  rw [Int.mul_one] at this
  rw [← this]
  congr 1
  congr 1
  funext w n
  rw [Int.mul_one]
def natsI (n : Nat) : List Int := (List.range n).map fun (k : Nat) => (k : Int)
theorem irange_ints0 (n : Nat) : irange 0 n = (natsI n).map .int := by
  unfold natsI
  rw [irange_nat, List.map_map]
  rfl
theorem natsI_len (n : Nat) : (natsI n).length = n := by unfold natsI; rw [List.length_map, List.length_range]
theorem enum_at {ns : List Int} {k : Nat} {d : D} (h : (pairs (irange 0 (ns.map PyData.int).length) (ns.map .int))[k]? = some d) : ∃ hk : k < ns.length, d = .tuple [.int (k : Int), .int ns[k]] := by
  rw [List.length_map] at h
  obtain ⟨x, y, h1, h2, rfl⟩ := pairs_get h
  obtain ⟨rfl, hk⟩ := irange_at h1
  rw [List.getElem?_map, List.getElem?_eq_getElem hk] at h2
  cases h2
  exact ⟨hk, rfl⟩
theorem wo_idxI {ns : List Int} {k : Nat} {Q : D → Prop} (h : k < ns.length) (q : Q (.int ns[k])) : WO (gIdx (.list (ns.map .int)) (.int (k : Int))) Q := by
  refine wo_idxL (by omega) (by rw [List.length_map]; omega) fun d hd _ => ?_
  rw [List.getElem?_map, Int.toNat_natCast, List.getElem?_eq_getElem h] at hd
  cases hd
  exact q
end M

namespace M
open PySem PySem.Spec PyProof.Rows L2
/-! ### whole papers -/
def indI (k : Int) (i : Int) : Int := if decide (i = k) = true then 1 else 0
theorem dot_ind (k c : Int) : ∀ (is ws ns : List Int), is.length = ws.length → dot (List.zipWith (fun i w => indI k i - c * w) is ws) ns = dot (is.map (indI k)) ns - c * dot ws ns
  | [], [], _, _ => by simp [dot]
  | [], _ :: _, _, h => by simp at h
  | _ :: _, [], _, h => by simp at h
  | i :: is, w :: ws, [], _ => by simp [dot]
  | i :: is, w :: ws, n :: ns, h => by
    have ih := dot_ind k c is ws ns (by simpa using h)
    show (indI k i - c * w) * n + dot (List.zipWith (fun i w => indI k i - c * w) is ws) ns = indI k i * n + dot (is.map (indI k)) ns - c * (w * n + dot ws ns)
    rw [ih]
    grind
theorem dot_at : ∀ (ns : List Int) (s k : Nat), dot (((List.range' s ns.length).map fun (i : Nat) => (i : Int)).map (indI ((s + k : Nat) : Int))) ns = (ns[k]?).getD 0
  | [], _, _ => by simp [dot]
  | n :: ns, s, k => by
    rw [List.length_cons, List.range'_succ, List.map_cons, List.map_cons]
    show indI _ _ * n + dot _ ns = _
    cases k with
    | zero =>
      have e : indI ((s + 0 : Nat) : Int) (s : Int) = 1 := by unfold indI; simp
      rw [e]
      have : ∀ (ns : List Int) (r : Nat), s < r → dot (((List.range' r ns.length).map fun (i : Nat) => (i : Int)).map (indI ((s + 0 : Nat) : Int))) ns = 0 := by
        intro ns
        induction ns with
        | nil => intro r _; simp [dot]
        | cons n ns ih =>
          intro r hr
          rw [List.length_cons, List.range'_succ, List.map_cons, List.map_cons]
          show indI _ _ * n + dot _ ns = 0
          rw [ih (r + 1) (by omega)]
          have : indI ((s + 0 : Nat) : Int) (r : Int) = 0 := by unfold indI; rw [if_neg (by simp; omega)]
          rw [this]
          omega
      rw [this ns (s + 1) (by omega)]
      simp
    | succ k =>
      have e : indI ((s + (k + 1) : Nat) : Int) (s : Int) = 0 := by unfold indI; rw [if_neg (by simp; omega)]
      have ih := dot_at ns (s + 1) k
      rw [show s + 1 + k = s + (k + 1) by omega] at ih
      rw [e, ih]
      simp
theorem taken_dvd {m t u : Int} {R : List Rw} (h : takenB m R t u = true) : ∀ r ∈ R, m ∣ r.1 * u - r.2.1 * t - r.2.2 := fun r hr => by
  unfold takenB at h
  exact Int.dvd_of_emod_eq_zero (of_decide_eq_true (List.all_eq_true.mp h r hr))
end M

namespace M
open PySem PySem.Spec PyProof.Rows L2
theorem dot_rowE {es ws : List Int} {k : Nat} {c : Int} (hl : es.length = ws.length) (hk : k < es.length) : dot (List.zipWith (fun i w => indI (k : Int) i - c * w) (natsI ws.length) ws) es = es[k] - c * dot ws es := by
  rw [dot_ind _ _ _ _ _ (by rw [natsI_len])]
  have h := dot_at es 0 k
  rw [Nat.zero_add, List.getElem?_eq_getElem hk] at h
  have e : natsI ws.length = (List.range' 0 es.length).map fun (i : Nat) => (i : Int) := by unfold natsI; rw [List.range_eq_range', hl]
  rw [e, h]
  rfl
/-! what multipliers of rows of multipliers come to -/
/-- a paper of a reading that shows that it takes no other tick for any -/
def PaperOk (m : Int) (R : List Rw) (d : D) : Prop := ∃ (w : Str) (ms : List Int), d = .tuple [.str w, .tuple (ms.map .int)] ∧ ms.length = R.length ∧ (∀ x ∈ ms, 0 ≤ x ∧ x < m) ∧
  ((w = "never" ∧ m ∣ dot ms (R.map (·.1)) ∧ m ∣ dot ms (R.map fun r => r.2.1) ∧ ¬ m ∣ dot ms (R.map fun r => r.2.2)) ∨ (w = "one" ∧ m ∣ dot ms (R.map (·.1)) - 1 ∧ m ∣ dot ms (R.map fun r => r.2.1) - 1 ∧ m ∣ dot ms (R.map fun r => r.2.2)))
theorem dot_taken {m t u : Int} : ∀ (ms : List Int) (R : List Rw), (∀ r ∈ R, m ∣ r.1 * u - r.2.1 * t - r.2.2) → m ∣ dot ms (R.map (·.1)) * u - dot ms (R.map fun r => r.2.1) * t - dot ms (R.map fun r => r.2.2)
  | [], _, _ => ⟨0, by simp [dot]⟩
  | _ :: _, [], _ => ⟨0, by simp [dot]⟩
  | w :: ws, r :: R, h => by
    obtain ⟨a, ha⟩ := dot_taken (m := m) (t := t) (u := u) ws R fun x hx => h x (List.mem_cons_of_mem _ hx)
    obtain ⟨b, hb⟩ := h r List.mem_cons_self
    rw [List.map_cons, List.map_cons, List.map_cons]
    exact ⟨w * b + a, by show (w * r.1 + dot ws _) * u - (w * r.2.1 + dot ws _) * t - (w * r.2.2 + dot ws _) = _; grind⟩
theorem PaperOk.clear {m t u : Int} {R : List Rw} {d : D} (P : PaperOk m R d) (h : takenB m R t u = true) : m ∣ u - t := by
  obtain ⟨w, ms, _, _, _, P⟩ := P
  obtain ⟨a, ha⟩ := dot_taken ms R (taken_dvd h)
  rcases P with ⟨_, ⟨b, hb⟩, ⟨c, hc⟩, hd⟩ | ⟨_, ⟨b, hb⟩, ⟨c, hc⟩, ⟨d, hd⟩⟩
  · exact absurd ⟨b * u - c * t - a, by grind⟩ hd
  · exact ⟨a - b * u + c * t + d, by grind⟩
end M

namespace M
open PySem PySem.Spec PyProof.Rows L2
/-- no coarse clock -/
def Fine (m : Int) (hs : List Hd) (bl : Bool) : Prop := Gd m (firstsL m hs bl) 1
def Cm (hs : List Hd) (bl : Bool) (d : Int) : Prop := if bl then ∀ h ∈ hs, ∀ h' ∈ hs, d ∣ h.1 - h'.1 else ∀ h ∈ hs, d ∣ h.1
theorem dvd_mod {m d a : Int} (h : d ∣ m) : d ∣ a % m ↔ d ∣ a := by
  obtain ⟨c, hc⟩ := h
  have e := Int.mul_ediv_add_emod a m
  constructor
  · rintro ⟨b, hb⟩
    exact ⟨c * (a / m) + b, by grind⟩
  · rintro ⟨b, hb⟩
    exact ⟨b - c * (a / m), by grind⟩
theorem firstsR {m : Int} {hs : List Hd} {bl : Bool} {r : Rd} (ho : SwOk hs.length r.1) (h1 : 1 ≤ hs.length) {d : Int} (hd : d ∣ m) : (∀ n ∈ (rowsL m hs bl r).map (·.1), d ∣ n) ↔ Cm hs bl d := by
  obtain ⟨o, mv⟩ := r
  have hol := ho.len
  have key : ∀ (o : List Nat) (xs : List Hd), o.length = xs.length → (List.zipWith (row1 m hs mv) o xs).map (·.1) = o.map fun j => (hs.getD j h0D).1 := by
    intro o
    induction o with
    | nil => intro xs _; rfl
    | cons j o ih =>
      intro xs hx
      cases xs with
      | nil => simp at hx
      | cons x xs =>
        rw [List.zipWith_cons_cons, List.map_cons, List.map_cons, ih xs (by simpa using hx)]
        rfl
  have hk := key o hs hol
  have hmem : ∀ P : Hd → Prop, (∀ j ∈ o, P (hs.getD j h0D)) ↔ ∀ h ∈ hs, P h := fun P => by
    constructor
    · intro h x hx
      obtain ⟨i, hi, rfl⟩ := List.mem_iff_getElem.mp hx
      have := h i (ho.perm.symm.mem_iff.mp (List.mem_range.mpr hi))
      rw [getD_eq hi] at this
      exact this
    · intro h j hj
      have := ho.lt j hj
      rw [getD_eq this]
      exact h _ (List.getElem_mem _)
  cases bl
  · show (∀ n ∈ (rows0 m hs (o, mv)).map (·.1), d ∣ n) ↔ ∀ h ∈ hs, d ∣ h.1
    show (∀ n ∈ (List.zipWith (row1 m hs mv) o hs).map (·.1), d ∣ n) ↔ ∀ h ∈ hs, d ∣ h.1
    rw [hk, List.forall_mem_map]
    exact hmem fun h => d ∣ h.1
  · show (∀ n ∈ ((rows0 m hs (o, mv)).tail.map (fun x => lessR m x ((rows0 m hs (o, mv)).headD (0, 0, 0)))).map (·.1), d ∣ n) ↔ ∀ h ∈ hs, ∀ h' ∈ hs, d ∣ h.1 - h'.1
    have hk : (rows0 m hs (o, mv)).map (·.1) = o.map fun j => (hs.getD j h0D).1 := hk
    cases hR : rows0 m hs (o, mv) with
    | nil =>
      rw [hR] at hk
      cases o with
      | nil => rw [List.length_nil] at hol; omega
      | cons _ _ => cases hk
    | cons r0 R =>
      rw [hR] at hk
      cases o with
      | nil => cases hk
      | cons j0 o =>
        rw [List.map_cons, List.map_cons] at hk
        injection hk with e0 e1
        rw [List.tail_cons, List.headD_cons, List.map_map, List.forall_mem_map]
        have h2 : (∀ x ∈ R, d ∣ ((fun x : Rw => x.1) ∘ fun x => lessR m x r0) x) ↔ ∀ j ∈ o, d ∣ (hs.getD j h0D).1 - (hs.getD j0 h0D).1 := by
          have : (∀ x ∈ R, d ∣ ((fun x : Rw => x.1) ∘ fun x => lessR m x r0) x) ↔ ∀ n ∈ R.map (·.1), d ∣ n - r0.1 := by
            rw [List.forall_mem_map]
            exact forall_congr' fun x => forall_congr' fun _ => dvd_mod hd
          rw [this, e1, e0, List.forall_mem_map]
        rw [h2]
        constructor
        · intro h
          have h3 : ∀ x ∈ hs, d ∣ x.1 - (hs.getD j0 h0D).1 := (hmem fun x => d ∣ x.1 - (hs.getD j0 h0D).1).mp fun j hj => by
            rcases List.mem_cons.mp hj with rfl | hj
            · exact ⟨0, by omega⟩
            · exact h j hj
          intro x hx y hy
          obtain ⟨a, ha⟩ := h3 x hx
          obtain ⟨b, hb⟩ := h3 y hy
          exact ⟨a - b, by grind⟩
        · intro h j hj
          have hj2 := ho.lt j (List.mem_cons_of_mem _ hj)
          have hj3 := ho.lt j0 List.mem_cons_self
          rw [getD_eq hj2, getD_eq hj3]
          exact h _ (List.getElem_mem _) _ (List.getElem_mem _)
theorem fine_iff {m : Int} {hs : List Hd} {bl : Bool} (hm : 0 < m) (h1 : 1 ≤ hs.length) : Fine m hs bl ↔ ∀ d : Int, d ∣ m → Cm hs bl d → d ∣ 1 := by
  have e := rowsL_firsts hm hs bl
  have key : ∀ d : Int, d ∣ m → ((∀ n ∈ firstsL m hs bl, d ∣ n) ↔ Cm hs bl d) := fun d hd => by
    rw [← e]
    exact firstsR (swOk_range _) h1 hd
  constructor
  · intro h d hd hc
    exact h.all d hd ((key d hd).mpr hc)
  · intro h
    exact ⟨by omega, ⟨m, by omega⟩, fun n _ => ⟨n, by omega⟩, fun d hd hc => h d hd ((key d hd).mp hc)⟩
theorem Fine.rows {m : Int} {hs : List Hd} {bl : Bool} {r : Rd} (hm : 0 < m) (h1 : 1 ≤ hs.length) (ho : SwOk hs.length r.1) (F : Fine m hs bl) : Gd m ((rowsL m hs bl r).map (·.1)) 1 :=
  ⟨by omega, ⟨m, by omega⟩, fun n _ => ⟨n, by omega⟩, fun d hd hc => (fine_iff hm h1).mp F d hd ((firstsR ho h1 hd).mp hc)⟩
theorem slv_map {m : Int} {R : List Rw} {f : Rw → Int} {u : Int} : Slv m (R.map (·.1)) (R.map f) u ↔ ∀ r ∈ R, m ∣ r.1 * u - f r := by
  unfold Slv
  rw [List.zip_map', List.forall_mem_map]
theorem slv_taken {m t u : Int} {R : List Rw} : Slv m (R.map (·.1)) (R.map fun r => (r.2.1 * t + r.2.2) % m) u ↔ takenB m R t u = true := by
  rw [slv_map]
  unfold takenB
  rw [List.all_eq_true]
  refine forall_congr' fun r => forall_congr' fun _ => ?_
  rw [decide_eq_true_eq]
  obtain ⟨c, hc⟩ := dvd_mod_sub m (r.2.1 * t + r.2.2)
  constructor
  · rintro ⟨a, ha⟩
    exact Int.emod_eq_zero_of_dvd ⟨a + c, by grind⟩
  · intro h
    obtain ⟨a, ha⟩ := Int.dvd_of_emod_eq_zero h
    exact ⟨a - c, by grind⟩
def dueR (m t : Int) : D → D
  | .tuple [.int _, .int b, .int c] => .int ((b * t + c) % m)
  | d => d
theorem dueR_rows (m t : Int) (R : List Rw) : (R.map rwD).map (dueR m t) = (R.map fun r => (r.2.1 * t + r.2.2) % m).map .int := by
  rw [List.map_map, List.map_map]
  rfl
/-- what a reading tells of something that holds of one rest alone -/
def OneOf (m : Int) (P : Int → Prop) (d : D) : Prop := (∃ e, d = .tuple [.str "not", e] ∧ ∀ u, ¬ P u) ∨ (∃ (x : Int) (e : D), d = .tuple [.str "all", .int x, .int m, e] ∧ 0 ≤ x ∧ x < m ∧ ∀ u, P u ↔ u % m = x)
end M

namespace M
open PySem PySem.Spec PyProof.Rows L2
/-- what numbers solved tell, each with what shows it -/
def SolW (m : Int) (fs ds : List Int) (d : D) : Prop :=
  (∃ es : List Int, d = .tuple [.str "not", .list (es.map .int)] ∧ es.length = fs.length ∧ (∀ e ∈ es, e.natAbs ≤ 10 ^ 121) ∧ m ∣ dot es fs ∧ ¬ m ∣ dot es ds) ∨
  (∃ (x : Int) (ws : List Int), d = .tuple [.str "all", .int x, .int m, .list (ws.map .int)] ∧ 0 ≤ x ∧ x < m ∧ We m fs 1 ws ∧ ∀ u, Slv m fs ds u ↔ u % m = x)
theorem slv_dotE {m u : Int} {fs ds es : List Int} (hl : fs.length = ds.length) (h : Slv m fs ds u) (he : m ∣ dot es fs) : m ∣ dot es ds := by
  obtain ⟨a, ha⟩ := dot_slv (ws := es) hl h
  obtain ⟨c, hc⟩ := he
  exact ⟨a + u * c, by grind⟩
theorem SolW.not {m : Int} {fs ds : List Int} {es : List Int} (hl : fs.length = ds.length) (h1 : m ∣ dot es fs) (h2 : ¬ m ∣ dot es ds) (u : Int) : ¬ Slv m fs ds u := fun h => h2 (slv_dotE hl h h1)
theorem SolW.weak {m : Int} {fs ds : List Int} {d : D} (hl : fs.length = ds.length) (h : SolW m fs ds d) : SolOf m fs ds d := by
  rcases h with ⟨es, rfl, _, _, h1, h2⟩ | ⟨x, ws, rfl, h1, h2, _, h3⟩
  · exact .inl ⟨_, rfl, SolW.not hl h1 h2⟩
  · exact .inr ⟨x, _, rfl, h1, h2, h3⟩
def dueL (m t : Int) (R : List Rw) : List Int := R.map fun r => (r.2.1 * t + r.2.2) % m
/-- what a reading tells of a tick -/
def OneW (m : Int) (R : List Rw) (t : Int) (d : D) : Prop :=
  (∃ es : List Int, d = .tuple [.str "not", .list (es.map .int)] ∧ es.length = R.length ∧ (∀ e ∈ es, e.natAbs ≤ 10 ^ 121) ∧ m ∣ dot es (R.map (·.1)) ∧ ¬ m ∣ dot es (dueL m t R)) ∨
  (∃ (x : Int) (ws : List Int), d = .tuple [.str "all", .int x, .int m, .list (ws.map .int)] ∧ 0 ≤ x ∧ x < m ∧ We m (R.map (·.1)) 1 ws ∧ ∀ u, takenB m R t u = true ↔ u % m = x)
theorem OneW.not {m t : Int} {R : List Rw} {es : List Int} (h1 : m ∣ dot es (R.map (·.1))) (h2 : ¬ m ∣ dot es (dueL m t R)) (u : Int) : ¬ takenB m R t u = true := fun h =>
  SolW.not (by unfold dueL; rw [List.length_map, List.length_map]) h1 h2 u (slv_taken.mpr h)
theorem OneW.weak {m t : Int} {R : List Rw} {d : D} (h : OneW m R t d) : OneOf m (fun u => takenB m R t u = true) d := by
  rcases h with ⟨es, rfl, _, _, h1, h2⟩ | ⟨x, ws, rfl, h1, h2, _, h3⟩
  · exact .inl ⟨_, rfl, OneW.not h1 h2⟩
  · exact .inr ⟨x, _, rfl, h1, h2, h3⟩
/-- what a tick's paper says of a reading: no other tick is taken by it -/
def TickPaper (m : Int) (R : List Rw) (t : Int) (p : D) : Prop :=
  (∃ es : List Int, p = .tuple [.str "not", .tuple (es.map .int)] ∧ es.length = R.length ∧ (∀ e ∈ es, e.natAbs ≤ 10 ^ 121) ∧ m ∣ dot es (R.map (·.1)) ∧ ¬ m ∣ dot es (dueL m t R)) ∨
  (∃ ws : List Int, p = .tuple [.str "one", .tuple (ws.map .int)] ∧ We m (R.map (·.1)) 1 ws ∧ ∀ u, takenB m R t u = true ↔ u % m = t % m)
theorem TickPaper.clear {m t u : Int} {R : List Rw} {p : D} (h : TickPaper m R t p) (k : takenB m R t u = true) : u % m = t % m := by
  rcases h with ⟨es, rfl, _, _, h1, h2⟩ | ⟨ws, rfl, _, h3⟩
  · exact absurd k (OneW.not h1 h2 u)
  · exact (h3 u).mp k
def TickOf (m : Int) (hs : List Hd) (bl mir : Bool) (t : Int) (d : D) : Prop :=
  (∃ (x : Int) (r : Rd), d = .tuple [.str "rival", .int x, rD r] ∧ r ∈ readOf hs mir ∧ 0 ≤ x ∧ x < m ∧ x ≠ t % m ∧ takenB m (rowsL m hs bl r) t x = true) ∨
  (∃ ps : List D, d = .tuple [.str "clear", .list ps] ∧ ps.length = (readOf hs mir).length ∧ ∀ k (h1 : k < (readOf hs mir).length) (h2 : k < ps.length), TickPaper m (rowsL m hs bl (readOf hs mir)[k]) t ps[k])
theorem ticks_clear {m : Int} (hm : 0 < m) {hs : List Hd} {bl mir : Bool} {t u : Int} {ps : List D} (hl : ps.length = (readOf hs mir).length) (h : ∀ k (h1 : k < (readOf hs mir).length) (h2 : k < ps.length), TickPaper m (rowsL m hs bl (readOf hs mir)[k]) t ps[k]) (hS : Show m hs bl mir t u) : u % m = t % m := by
  obtain ⟨rd, hr, hT⟩ := (show_iff hm).mp hS
  obtain ⟨k, hk, rfl⟩ := List.mem_iff_getElem.mp hr
  exact (h k hk (by omega)).clear hT
end M

namespace M
open PySem PySem.Spec PyProof.Rows L2
def Met (m : Int) (E S : Int → Prop) (xs : List Int) : Prop := xs.Nodup ∧ ∀ u, u ∈ xs ↔ (0 ≤ u ∧ u < m) ∧ E u ∧ S u
theorem Met.cong {m : Int} {E S S' : Int → Prop} {xs : List Int} (h : Met m E S xs) (k : ∀ u, S' u ↔ S u) : Met m E S' xs := ⟨h.1, fun u => by rw [h.2 u, k u]⟩
theorem Met.nil (m : Int) (E : Int → Prop) : Met m E (fun _ => False) [] := ⟨List.nodup_nil, fun u => ⟨fun h => (by cases h), fun h => h.2.2.elim⟩⟩
theorem Met.not {m : Int} {E S P : Int → Prop} {xs : List Int} (h : Met m E S xs) (hp : ∀ u, ¬ P u) : Met m E (fun u => S u ∨ P u) xs := h.cong fun u => ⟨fun k => k.elim id fun k => (hp u k).elim, .inl⟩
theorem Met.old {m x : Int} {E S P : Int → Prop} {xs : List Int} (h : Met m E S xs) (hp : ∀ u, P u ↔ u % m = x) (hx : ¬ E x ∨ x ∈ xs) : Met m E (fun u => S u ∨ P u) xs := ⟨h.1, fun u => by
  constructor
  · intro k
    obtain ⟨a, b, c⟩ := (h.2 u).mp k
    exact ⟨a, b, .inl c⟩
  · rintro ⟨a, b, c | c⟩
    · exact (h.2 u).mpr ⟨a, b, c⟩
    · have e := (hp u).mp c
      rw [Int.emod_eq_of_lt a.1 a.2] at e
      subst e
      rcases hx with hx | hx
      · exact absurd b hx
      · exact hx⟩
theorem Met.new {m x : Int} {E S P : Int → Prop} {xs : List Int} (h : Met m E S xs) (hp : ∀ u, P u ↔ u % m = x) (h0 : 0 ≤ x) (h1 : x < m) (he : E x) (hx : x ∉ xs) : Met m E (fun u => S u ∨ P u) (xs ++ [x]) :=
  ⟨List.nodup_append.mpr ⟨h.1, by simp, fun a ha b hb e => hx (by rw [List.mem_singleton] at hb; rw [← hb, ← e]; exact ha)⟩, fun u => by
    rw [List.mem_append, List.mem_singleton, h.2 u]
    constructor
    · rintro (⟨a, b, c⟩ | rfl)
      · exact ⟨a, b, .inl c⟩
      · exact ⟨⟨h0, h1⟩, he, .inr ((hp u).mpr (Int.emod_eq_of_lt h0 h1))⟩
    · rintro ⟨a, b, c | c⟩
      · exact .inl ⟨a, b, c⟩
      · have e := (hp u).mp c
        rw [Int.emod_eq_of_lt a.1 a.2] at e
        exact .inr e⟩
theorem take_or {α : Type} {l : List α} {k : Nat} (h : k < l.length) (P : α → Prop) : (∃ x ∈ l.take (k + 1), P x) ↔ (∃ x ∈ l.take k, P x) ∨ P l[k] := by
  rw [List.take_succ_eq_append_getElem h]
  constructor
  · rintro ⟨x, hx, hp⟩
    rcases List.mem_append.mp hx with hx | hx
    · exact .inl ⟨x, hx, hp⟩
    · rw [List.mem_singleton] at hx
      subst hx
      exact .inr hp
  · rintro (⟨x, hx, hp⟩ | hp)
    · exact ⟨x, List.mem_append_left _ hx, hp⟩
    · exact ⟨l[k], List.mem_append_right _ (by simp), hp⟩
theorem any_ints (x : Int) : ∀ xs : List Int, ((xs.map PyData.int).any fun e => PyData.eqv e (.int x)) = decide (x ∈ xs)
  | [] => by simp
  | a :: xs => by
    rw [List.map_cons, List.any_cons, any_ints x xs, eqv_int, ← Bool.decide_or]
    refine decide_eq_decide.mpr ?_
    rw [List.mem_cons]
    constructor
    · rintro (h | h)
      · exact .inl h.symm
      · exact .inr h
    · rintro (h | h)
      · exact .inl h.symm
      · exact .inr h
theorem isIn_int (x : Int) (xs : List Int) : isIn (.int x) (.list (xs.map .int)) = some (decide (x ∈ xs)) := by
  unfold isIn
  dsimp only
  rw [if_pos (by rw [shp_ints]; rfl), any_ints]
theorem wo_niI {x : Int} {xs : List Int} {Q : D → Prop} (q : Q (.bool (!decide (x ∈ xs)))) : WO (gNi (.int x) (.list (xs.map .int))) Q := ⟨_, by unfold gNi; rw [isIn_int]; rfl, q⟩
theorem wo_inI {x : Int} {xs : List Int} {Q : D → Prop} (q : Q (.bool (decide (x ∈ xs)))) : WO (gIs (.int x) (.list (xs.map .int))) Q := ⟨_, by unfold gIs; rw [isIn_int]; rfl, q⟩
theorem wo_sortedI {xs : List Int} {Q : List D → Prop} (hn : xs.Nodup) (q : ∀ L : List Int, L.Perm xs → L.Pairwise (· < ·) → Q (L.map .int)) : WO (gSorted (.list (xs.map .int))) Q := by
  have hp : (xs.mergeSort fun a b => decide (a ≤ b)).Perm xs := List.mergeSort_perm _ _
  have hs : (xs.mergeSort fun a b => decide (a ≤ b)).Pairwise (· < ·) := by
    have h1 : (xs.mergeSort fun a b => decide (a ≤ b)).Pairwise fun a b => decide (a ≤ b) = true := List.pairwise_mergeSort (fun a b c h h' => by simp at *; omega) (fun a b => by simp; omega) xs
    have h2 : (xs.mergeSort fun a b => decide (a ≤ b)).Pairwise (· ≠ ·) := hp.symm.nodup hn
    exact (h1.and h2).imp fun {a b} h => by
      have := of_decide_eq_true h.1
      have := h.2
      omega
  refine wo_sorted ?_ ?_ ?_ (s := (xs.mergeSort fun a b => decide (a ≤ b)).map .int) (List.pairwise_map.mpr (hs.imp fun {a b} h => by rw [PySem.W.dataLt_int]; exact decide_eq_true h)) (hp.symm.map _) (q _ hp hs)
  · unfold alikeB
    refine List.all_eq_true.mpr fun d hd => List.all_eq_true.mpr fun e he => ?_
    obtain ⟨a, _, rfl⟩ := List.mem_map.mp hd
    obtain ⟨b, _, rfl⟩ := List.mem_map.mp he
    simp [PySem.W.alike]
  · unfold sortB
    rw [Bool.or_eq_true]
    refine .inr (List.all_eq_true.mpr fun d hd => ?_)
    obtain ⟨a, _, rfl⟩ := List.mem_map.mp hd
    rfl
  · unfold shallow
    refine List.all_eq_true.mpr fun d hd => ?_
    obtain ⟨a, _, rfl⟩ := List.mem_map.mp hd
    rfl
theorem rise_ext : ∀ {L K : List Int}, L.Pairwise (· < ·) → K.Pairwise (· < ·) → (∀ u, u ∈ L ↔ u ∈ K) → L = K := fun {L K} h k e =>
  List.Perm.eq_of_pairwise (le := fun a b => a < b) (fun a b _ _ x y => by omega) h k ((List.perm_ext_iff_of_nodup (h.imp fun {a b} h => by omega) (k.imp fun {a b} h => by omega)).mpr e)
/-- the rivals of a tick -/
def RivOf (m : Int) (hs : List Hd) (bl mir : Bool) (t : Int) (L : List Int) : Prop := L.Pairwise (· < ·) ∧ ∀ u, u ∈ L ↔ (0 ≤ u ∧ u < m) ∧ u ≠ t % m ∧ Show m hs bl mir t u
end M

namespace M
open PySem PySem.Spec PyProof.Rows L2
/-! ### the least image of a picture -/
theorem toks_pDs : ∀ {l k : List Pc}, PySem.W.keyToksAll (l.map pD) = PySem.W.keyToksAll (k.map pD) → l = k
  | [], [], _ => rfl
  | [], _ :: _, h => by simp [PySem.W.keyToksAll] at h
  | _ :: _, [], h => by simp [PySem.W.keyToksAll] at h
  | (x, i) :: l, (y, j) :: k, h => by
    unfold pD at h
    simp only [List.map_cons, PySem.W.keyToksAll, PySem.W.keyToks, List.cons_append, List.nil_append, List.cons.injEq, Sum.inl.injEq, Sum.inr.injEq, true_and] at h
    obtain ⟨h1, h2, h3⟩ := h
    have e : x = y := PySem.W.str_of_cps h1
    rw [e, h2, toks_pDs (l := l) (k := k) h3]
def lpD (l : List Pc) : D := .list (l.map pD)
def leL : List Pc → List Pc → Bool := PySem.W.dataLe false lpD
theorem leL_tot : PySem.W.TotalLe leL := by
  show PySem.W.TotalLe (PySem.W.sortLe _ false _)
  exact PySem.W.sortLe_total _ _ _
theorem leL_anti {a b : List Pc} (h1 : leL a b = true) (h2 : leL b a = true) : a = b := by
  have h1 : (!PySem.W.dataLt (lpD b) (lpD a)) = true := h1
  have h2 : (!PySem.W.dataLt (lpD a) (lpD b)) = true := h2
  rw [Bool.not_eq_true'] at h1 h2
  have h3 := lex_total _ _ h2 h1
  unfold lpD at h3
  simp only [PySem.W.keyToks] at h3
  exact toks_pDs h3
structure Least (S : List (List Pc)) (L : List Pc) : Prop where
  mem : L ∈ S
  le : ∀ z ∈ S, leL L z = true
theorem least_uniq {S S' : List (List Pc)} {L L' : List Pc} (h : Least S L) (h' : Least S' L') (e : ∀ z, z ∈ S ↔ z ∈ S') : L = L' :=
  leL_anti (h.le _ ((e _).mpr h'.mem)) (h'.le _ ((e _).mp h.mem))
theorem minD_least : ∀ (xs : List (List Pc)) (x : List Pc), ∃ L, PySem.W.minD (lpD x) (xs.map lpD) = lpD L ∧ Least (x :: xs) L
  | [], x => ⟨x, rfl, List.mem_cons_self, fun z hz => by
      rw [List.mem_singleton] at hz
      subst hz
      exact (leL_tot.total z z).elim id id⟩
  | y :: xs, x => by
    have e : PySem.W.minD (lpD x) ((y :: xs).map lpD) = PySem.W.minD (lpD (if leL x y then x else y)) (xs.map lpD) := by
      unfold PySem.W.minD
      rw [List.map_cons, List.foldl_cons]
      have : (leL x y) = !PySem.W.dataLt (lpD y) (lpD x) := rfl
      rw [this]
      cases PySem.W.dataLt (lpD y) (lpD x) <;> rfl
    obtain ⟨L, h1, h2⟩ := minD_least xs (if leL x y then x else y)
    refine ⟨L, e.trans h1, ?_, fun z hz => ?_⟩
    · rcases List.mem_cons.mp h2.mem with h | h
      · rw [h]
        split
        · exact List.mem_cons_self
        · exact List.mem_cons_of_mem _ List.mem_cons_self
      · exact List.mem_cons_of_mem _ (List.mem_cons_of_mem _ h)
    · have h3 := h2.le _ List.mem_cons_self
      by_cases hxy : leL x y = true
      · rw [if_pos hxy] at h3
        rcases List.mem_cons.mp hz with rfl | hz
        · exact h3
        rcases List.mem_cons.mp hz with rfl | hz
        · exact leL_tot.trans _ _ _ h3 hxy
        · exact h2.le _ (List.mem_cons_of_mem _ hz)
      · rw [if_neg hxy] at h3
        have hyx : leL y x = true := by
          exact (leL_tot.total x y).resolve_left hxy
        rcases List.mem_cons.mp hz with rfl | hz
        · exact leL_tot.trans _ _ _ h3 hyx
        rcases List.mem_cons.mp hz with rfl | hz
        · exact h3
        · exact h2.le _ (List.mem_cons_of_mem _ hz)
def sgnsL (mir : Bool) : List Int := if mir then [1, -1] else [1]
theorem sgns_ok {mir : Bool} {sg : Int} : sg ∈ sgnsL mir ↔ SgOk mir sg := by
  unfold sgnsL SgOk
  cases mir <;> simp
def backsL (bl : Bool) (row : List Pc) : List Int := if bl then row.map (·.2) else [0]
def imgs1 (m : Int) (bl : Bool) (P : List Pc) (sg : Int) : List (List Pc) := (backsL bl (movL m sg 0 P)).map fun b => sortP (movL m 1 (-b) (movL m sg 0 P))
def imgsL (m : Int) (bl mir : Bool) (P : List Pc) : List (List Pc) := (sgnsL mir).flatMap (imgs1 m bl P)
/-- one picture is another one, moved -/
def ShowL (m : Int) (bl mir : Bool) (P P' : List Pc) : Prop := ∃ sg r : Int, SgOk mir sg ∧ (bl = false → r = 0) ∧ (movL m sg r P).Perm P'
theorem ShowL.symm {m : Int} {bl mir : Bool} {P P' : List Pc} (hP : InM m P) (h : ShowL m bl mir P P') : ShowL m bl mir P' P := by
  obtain ⟨sg, r, h1, h2, h3⟩ := h
  refine ⟨sg, -(sg * r), h1, fun b => by rw [h2 b]; omega, ?_⟩
  have h4 : (movL m sg (-(sg * r)) (movL m sg r P)).Perm (movL m sg (-(sg * r)) P') := h3.map _
  rw [movL_comp, h1.sq, movL_id hP ⟨0, by omega⟩] at h4
  exact h4.symm
theorem img_mem {m : Int} {bl mir : Bool} {P : List Pc} {z : List Pc} : z ∈ imgsL m bl mir P ↔ ∃ sg b : Int, SgOk mir sg ∧ b ∈ backsL bl (movL m sg 0 P) ∧ z = sortP (movL m sg (-b) P) := by
  unfold imgsL imgs1
  rw [List.mem_flatMap]
  constructor
  · rintro ⟨sg, h1, h2⟩
    obtain ⟨b, h3, rfl⟩ := List.mem_map.mp h2
    refine ⟨sg, b, sgns_ok.mp h1, h3, ?_⟩
    rw [movL_comp, Int.one_mul, Int.mul_zero, Int.zero_add]
  · rintro ⟨sg, b, h1, h2, rfl⟩
    refine ⟨sg, sgns_ok.mpr h1, List.mem_map.mpr ⟨b, h2, ?_⟩⟩
    rw [movL_comp, Int.one_mul, Int.mul_zero, Int.zero_add]
theorem backs_iff {m sg b : Int} {bl : Bool} {P : List Pc} : b ∈ backsL bl (movL m sg 0 P) ↔ if bl then ∃ p ∈ P, b = sg * p.2 % m else b = 0 := by
  unfold backsL movL
  cases bl
  · simp
  · simp only [if_true, List.map_map, List.mem_map, Function.comp]
    constructor
    · rintro ⟨p, hp, rfl⟩
      exact ⟨p, hp, by rw [Int.add_zero]⟩
    · rintro ⟨p, hp, rfl⟩
      exact ⟨p, hp, by rw [Int.add_zero]⟩
theorem imgs_sub {m : Int} {bl mir : Bool} {P P' : List Pc} (h : ShowL m bl mir P P') {z : List Pc} (hz : z ∈ imgsL m bl mir P') : z ∈ imgsL m bl mir P := by
  obtain ⟨sg, r, h1, h2, h3⟩ := h
  obtain ⟨sg', b', k1, k2, rfl⟩ := img_mem.mp hz
  have hp : (movL m sg' (-b') P').Perm (movL m (sg' * sg) (sg' * r + -b') P) := by
    rw [← movL_comp]
    exact (h3.map _).symm
  rw [backs_iff] at k2
  refine img_mem.mpr ?_
  cases bl
  · rw [if_neg (by decide)] at k2
    subst k2
    refine ⟨sg' * sg, 0, h1.mul k1, backs_iff.mpr (by rw [if_neg (by decide)]), ?_⟩
    rw [h2 rfl, Int.mul_zero, Int.zero_add] at hp
    exact sortP_eq.mpr hp
  · rw [if_pos rfl] at k2
    obtain ⟨p', hp', rfl⟩ := k2
    obtain ⟨p, hpm, rfl⟩ := List.mem_map.mp (h3.mem_iff.mpr hp')
    refine ⟨sg' * sg, sg' * sg * p.2 % m, h1.mul k1, backs_iff.mpr (by rw [if_pos rfl]; exact ⟨p, hpm, rfl⟩), ?_⟩
    refine sortP_eq.mpr (hp.trans ?_)
    rw [movL_cong (s := -(sg' * sg * p.2 % m))]
    dsimp only
    obtain ⟨a, ha⟩ := dvd_mod_sub m (sg' * ((sg * p.2 + r) % m))
    obtain ⟨c, hc⟩ := dvd_mod_sub m (sg * p.2 + r)
    obtain ⟨e, he⟩ := dvd_mod_sub m (sg' * sg * p.2)
    exact ⟨e - a - sg' * c, by grind⟩
theorem imgs_show {m : Int} {bl mir : Bool} {P P' z : List Pc} (hP' : InM m P') (h : z ∈ imgsL m bl mir P) (h' : z ∈ imgsL m bl mir P') : ShowL m bl mir P P' := by
  obtain ⟨a, b, h1, h2, rfl⟩ := img_mem.mp h
  obtain ⟨a', b', k1, k2, e⟩ := img_mem.mp h'
  have hp := sortP_eq.mp e
  refine ⟨a' * a, a' * -b + a' * b', h1.mul k1, fun hb => ?_, ?_⟩
  · subst hb
    rw [backs_iff, if_neg (by decide)] at h2 k2
    rw [h2, k2]
    omega
  · have h4 : (movL m a' (a' * b') (movL m a (-b) P)).Perm (movL m a' (a' * b') (movL m a' (-b') P')) := hp.map _
    rw [movL_comp, movL_comp, k1.sq, movL_id hP' ⟨0, by grind⟩] at h4
    exact h4
theorem norm_eq {m : Int} {bl mir : Bool} {P P' L L' : List Pc} (hP : InM m P) (hP' : InM m P') (h : Least (imgsL m bl mir P) L) (h' : Least (imgsL m bl mir P') L') : L = L' ↔ ShowL m bl mir P P' := by
  constructor
  · rintro rfl
    exact imgs_show hP' h.mem h'.mem
  · intro hs
    exact least_uniq h h' fun z => ⟨imgs_sub (hs.symm hP), imgs_sub hs⟩
theorem imgs_ok {m : Int} {bl mir : Bool} {P : List Pc} (h : PcOk P) : ∀ z ∈ imgsL m bl mir P, PcOk z := fun z hz => by
  obtain ⟨a, b, _, _, rfl⟩ := img_mem.mp hz
  exact h.mov.sort
theorem imgs_len {m : Int} {bl mir : Bool} {P : List Pc} : ∀ z ∈ imgsL m bl mir P, z.length = P.length := fun z hz => by
  obtain ⟨a, b, _, _, rfl⟩ := img_mem.mp hz
  rw [(sortP_perm _).length_eq]
  unfold movL
  rw [List.length_map]
theorem alike_lpD (a b : List Pc) : PySem.W.alike (lpD a) (lpD b) = true := by
  unfold lpD
  simp only [PySem.W.alike]
  induction a generalizing b with
  | nil => cases b <;> rfl
  | cons x a ih =>
    cases b with
    | nil => rfl
    | cons y b =>
      simp only [List.map_cons, PySem.W.alikeAll]
      rw [alike_pD, ih b]
      rfl
theorem depth_lpD (l : List Pc) : (lpD l).depth ≤ 2 := by
  unfold lpD
  have := depthAll_le (ds := l.map pD) (n := 1) fun d hd => by
    obtain ⟨p, _, rfl⟩ := List.mem_map.mp hd
    exact depth_pD p
  unfold PyData.depth
  omega
theorem wo_minP {S : List (List Pc)} {Q : D → Prop} (hS : S ≠ []) (q : ∀ L, Least S L → Q (lpD L)) : WO (gMinL (.list (S.map lpD))) Q := by
  cases S with
  | nil => exact absurd rfl hS
  | cons x xs =>
    rw [List.map_cons]
    obtain ⟨L, h1, h2⟩ := minD_least xs x
    refine wo_minL ?_ ?_ ?_ (by rw [h1]; exact q L h2)
    · unfold alikeB
      refine List.all_eq_true.mpr fun d hd => List.all_eq_true.mpr fun e he => ?_
      rw [← List.map_cons] at hd he
      obtain ⟨a, _, rfl⟩ := List.mem_map.mp hd
      obtain ⟨b, _, rfl⟩ := List.mem_map.mp he
      exact alike_lpD a b
    · unfold noNone
      refine List.all_eq_true.mpr fun d hd => ?_
      rw [← List.map_cons] at hd
      obtain ⟨a, _, rfl⟩ := List.mem_map.mp hd
      rfl
    · unfold shallow
      refine List.all_eq_true.mpr fun d hd => ?_
      rw [← List.map_cons] at hd
      obtain ⟨a, _, rfl⟩ := List.mem_map.mp hd
      exact decide_eq_true (by have := depth_lpD a; omega)
theorem eqv_lpD (a b : List Pc) : PyData.eqv (lpD a) (lpD b) = decide (a = b) := by
  unfold lpD PyData.eqv
  exact eqvAll_pD a b
theorem wo_mulBit {ds : List D} {b : Bool} {Q : D → Prop} (hl : ds.length ≤ 1000) (q : Q (.list (if b then ds else []))) : WO (gMul (.list ds) (.int (if b = true then 1 else 0))) Q := by
  refine ⟨_, ?_, q⟩
  unfold gMul
  cases b
  · simp [fits_of (show 0 ≤ sizeLine by unfold sizeLine; omega)]
  · simp [fits_of (show ds.length ≤ sizeLine by unfold sizeLine; omega)]
def sndP : D → D
  | .tuple [_, x] => x
  | d => d
theorem sndP_pic (l : List Pc) : (l.map pD).map sndP = (l.map (·.2)).map .int := by
  rw [List.map_map, List.map_map]
  rfl
end M

namespace M
open PySem PySem.Spec PyProof.Rows L2
end M

namespace M
open PySem PySem.Spec PyProof.Rows L2
/-! ### the first reading, by which each tick is taken for itself -/
theorem rows0_id {m : Int} {hs : List Hd} (hk : HandsOk m hs) : ∀ r ∈ rows0 m hs (List.range hs.length, false), r.2.1 = r.1 ∧ r.2.2 = 0 := fun r hr => by
  unfold rows0 at hr
  obtain ⟨i, hi, rfl⟩ := List.mem_iff_getElem.mp hr
  rw [List.length_zipWith, List.length_range] at hi
  rw [List.getElem_zipWith, List.getElem_range]
  have hil : i < hs.length := by omega
  have hg : hs.getD i (0, 0, ⟨#[]⟩) = hs[i] := getD_eq hil
  have hb := hk hs[i] (List.getElem_mem _)
  unfold row1 sgn
  rw [hg]
  refine ⟨?_, ?_⟩
  · show 1 * hs[i].1 % m = hs[i].1
    rw [Int.one_mul, Int.emod_eq_of_lt hb.1 hb.2.1]
  · show (1 * hs[i].2.1 - hs[i].2.1) % m = 0
    rw [show 1 * hs[i].2.1 - hs[i].2.1 = 0 by omega, Int.zero_emod]
theorem rows_id {m : Int} {hs : List Hd} {bl : Bool} (hk : HandsOk m hs) : ∀ r ∈ rowsL m hs bl (List.range hs.length, false), r.2.1 = r.1 ∧ r.2.2 = 0 := fun r hr => by
  have h0 := rows0_id hk
  unfold rowsL at hr
  cases bl
  · exact h0 r hr
  · rw [if_pos rfl] at hr
    generalize rows0 m hs (List.range hs.length, false) = R at *
    cases R with
    | nil => cases hr
    | cons r0 R =>
      obtain ⟨x, hx, rfl⟩ := List.mem_map.mp hr
      have hx : x ∈ R := hx
      have e1 := h0 x (List.mem_cons_of_mem _ hx)
      have e2 := h0 r0 List.mem_cons_self
      show (x.2.1 - r0.2.1) % m = (x.1 - r0.1) % m ∧ (x.2.2 - r0.2.2) % m = 0
      rw [e1.1, e1.2, e2.1, e2.2]
      exact ⟨rfl, by simp⟩
theorem dot_mulT {m t : Int} : ∀ (ws fs : List Int), m ∣ dot ws (fs.map fun f => f * t % m) - t * dot ws fs
  | [], _ => ⟨0, by simp [dot]⟩
  | _ :: _, [] => ⟨0, by simp [dot]⟩
  | w :: ws, f :: fs => by
    obtain ⟨a, ha⟩ := dot_mulT (m := m) (t := t) ws fs
    obtain ⟨b, hb⟩ := dvd_mod_sub m (f * t)
    rw [List.map_cons]
    exact ⟨w * b + a, by show w * (f * t % m) + dot ws _ - t * (w * f + dot ws fs) = _; grind⟩
theorem due_of {m t g : Int} {fs ws : List Int} (hm : 0 < m) (W : We m fs g ws) : dot ws (fs.map fun f => f * t % m) % m = t * g % m ∧ (t * g % m) / g % (m / g) = t % (m / g) ∧ ∀ f ∈ fs, (f * t % m - f / g * (t * g % m)) % m = 0 := by
  have hg := W.pos
  obtain ⟨k, hk⟩ := W.dm
  have e : m / g = k := by rw [hk, Int.mul_ediv_cancel_left _ (by omega)]
  refine ⟨?_, ?_, fun f hf => ?_⟩
  · refine mod_eq_dvd.mpr ?_
    obtain ⟨a, ha⟩ := dot_mulT (m := m) (t := t) ws fs
    obtain ⟨b, hb⟩ := W.dot
    exact ⟨a + t * b, by grind⟩
  · rw [e, hk, Int.mul_comm t g, Int.mul_emod_mul_of_pos _ _ hg, Int.mul_ediv_cancel_left _ (by omega), Int.emod_emod_of_dvd _ (Int.dvd_refl k)]
  · obtain ⟨p, hp⟩ := W.dn f hf
    have e3 : f / g = p := by rw [hp, Int.mul_ediv_cancel_left _ (by omega)]
    rw [e3]
    obtain ⟨a, ha⟩ := dvd_mod_sub m (f * t)
    obtain ⟨b, hb⟩ := dvd_mod_sub m (t * g)
    exact Int.emod_eq_zero_of_dvd ⟨a - p * b, by grind⟩
end M

namespace M
open PySem PySem.Spec PyProof.Rows L2
/-! ### swaps made by pairs; rows that are not taken by their rests -/
/-- entries that leave the same rests -/
def CgL (m : Int) (R R' : List Rw) : Prop := R.length = R'.length ∧ ∀ k (h1 : k < R.length) (h2 : k < R'.length), m ∣ R[k].1 - R'[k].1 ∧ m ∣ R[k].2.1 - R'[k].2.1 ∧ m ∣ R[k].2.2 - R'[k].2.2
theorem CgL.tail {m : Int} {x y : Rw} {R R' : List Rw} (h : CgL m (x :: R) (y :: R')) : (m ∣ x.1 - y.1 ∧ m ∣ x.2.1 - y.2.1 ∧ m ∣ x.2.2 - y.2.2) ∧ CgL m R R' := by
  refine ⟨h.2 0 (Nat.zero_lt_succ _) (Nat.zero_lt_succ _), by simpa using h.1, fun k h1 h2 => ?_⟩
  have := h.2 (k + 1) (by simp; omega) (by simp; omega)
  simpa using this
theorem CgL.dot {m : Int} (f : Rw → Int) (hf : ∀ x y : Rw, (m ∣ x.1 - y.1 ∧ m ∣ x.2.1 - y.2.1 ∧ m ∣ x.2.2 - y.2.2) → m ∣ f x - f y) : ∀ {R R' : List Rw} (ws : List Int), CgL m R R' → m ∣ dot ws (R.map f) - dot ws (R'.map f)
  | _, _, [], _ => ⟨0, by simp [M.dot]⟩
  | [], [], _ :: _, _ => ⟨0, by simp [M.dot]⟩
  | [], _ :: _, _ :: _, h => by cases h.1
  | _ :: _, [], _ :: _, h => by cases h.1
  | x :: R, y :: R', w :: ws, h => by
    obtain ⟨h1, h2⟩ := h.tail
    obtain ⟨a, ha⟩ := hf x y h1
    obtain ⟨b, hb⟩ := CgL.dot f hf ws h2
    refine ⟨w * a + b, ?_⟩
    rw [List.map_cons, List.map_cons]
    show w * f x + M.dot ws (R.map f) - (w * f y + M.dot ws (R'.map f)) = _
    grind
end M

namespace M
open PySem PySem.Spec PyProof.Rows L2
theorem showL_pics {m : Int} {hs : List Hd} {bl mir : Bool} {t u : Int} : ShowL m bl mir (sortP (picL m hs t)) (sortP (picL m hs u)) ↔ Show m hs bl mir t u := by
  constructor
  · rintro ⟨sg, r, h1, h2, h3⟩
    exact ⟨sg, r, h1, h2, ((sortP_perm _).symm.map _).trans (h3.trans (sortP_perm _))⟩
  · rintro ⟨sg, r, h1, h2, h3⟩
    exact ⟨sg, r, h1, h2, ((sortP_perm _).map _).trans (h3.trans (sortP_perm _).symm)⟩
theorem InM.sort {m : Int} {l : List Pc} (h : InM m l) : InM m (sortP l) := fun p hp => h p ((sortP_perm l).mem_iff.mp hp)
/-- the least image of what a tick shows -/
def NormAt (m : Int) (hs : List Hd) (bl mir : Bool) (t : Int) (L : List Pc) : Prop := Least (imgsL m bl mir (sortP (picL m hs t))) L
theorem NormAt.eq {m : Int} (hm : 0 < m) {hs : List Hd} {bl mir : Bool} {t u : Int} {L K : List Pc} (h : NormAt m hs bl mir t L) (k : NormAt m hs bl mir u K) : L = K ↔ Show m hs bl mir t u :=
  (norm_eq (picL_in hm hs t).sort (picL_in hm hs u).sort h k).trans showL_pics
theorem NormAt.ok {m : Int} {hs : List Hd} {bl mir : Bool} {t : Int} {L : List Pc} (hk : HandsOk m hs) (h : NormAt m hs bl mir t L) : PcOk L := imgs_ok (picL_ok fun h hh => (hk h hh).2.2.2.2).sort L h.mem
theorem NormAt.len {m : Int} {hs : List Hd} {bl mir : Bool} {t : Int} {L : List Pc} (h : NormAt m hs bl mir t L) : L.length = hs.length := by
  rw [imgs_len L h.mem, (sortP_perm _).length_eq]
  exact List.length_map ..
theorem shp_lpD {L : List Pc} (h : PcOk L) : shp (lpD L) = true := (lay_pDs (n := 0) h).shp (by omega)
end M

namespace M
open PySem PySem.Spec PyProof.Rows L2
end M

namespace M
open PySem PySem.Spec PyProof.Rows L2
end M

namespace M
open PySem PySem.Spec PyProof.Rows L2
theorem riv_nd {m : Int} {hs : List Hd} {bl mir : Bool} {t : Int} {L : List Int} (h : RivOf m hs bl mir t L) : (L ++ [t % m]).Nodup := by
  refine List.nodup_append.mpr ⟨h.1.imp fun hab => by omega, by simp, fun a ha b hb e => ?_⟩
  rw [List.mem_singleton] at hb
  subst hb; subst e
  exact ((h.2 _).mp ha).2.1 rfl
end M

namespace M
open PySem PySem.Spec PyProof.Rows L2
/-! ### marks by hand -/
def pairL (hs : List Hd) (ms : List Int) : List Pc := List.zipWith (fun h k => (h.2.2, k)) hs ms
theorem place_pD {ls : List Pc} {p : Pc} (h : p ∈ ls) : ∃ j, SeqAt.dataPlace (ls.map pD) (pD p) = some j ∧ ((ls.map pD).eraseIdx j) = (ls.erase p).map pD := by
  induction ls with
  | nil => cases h
  | cons a ls ih =>
    by_cases e : a = p
    · subst e
      refine ⟨0, ?_, ?_⟩
      · unfold SeqAt.dataPlace
        rw [List.map_cons, List.findIdx?_cons, eqv_pD]
        simp
      · rw [List.erase_cons_head]
        rfl
    · rcases List.mem_cons.mp h with h | h
      · exact absurd h.symm e
      · obtain ⟨j, h1, h2⟩ := ih h
        refine ⟨j + 1, ?_, ?_⟩
        · unfold SeqAt.dataPlace at h1 ⊢
          rw [List.map_cons, List.findIdx?_cons, eqv_pD, h1]
          simp [e]
        · rw [List.erase_cons_tail (by simpa using e), List.map_cons, List.map_cons, List.eraseIdx_cons_succ, h2]
def lookP (x : Str) : D → Bool
  | .tuple (.str y :: _) => decide (y = x)
  | _ => false
theorem lookP_pic (x : Str) (ls : List Pc) : (ls.map pD).filter (lookP x) = (ls.filter fun p => decide (p.1 = x)).map pD := by
  rw [List.filter_map]
  rfl
theorem lfree_pDs : ∀ ls : List Pc, lfreeA (ls.map pD) = true
  | [] => by unfold lfreeA; rfl
  | p :: ls => by
    rw [List.map_cons]
    unfold lfreeA
    rw [lfree_pDs ls]
    unfold pD lfree lfreeA lfree lfreeA lfree lfreeA
    rfl
/-! a picture in a drawn order, by readings -/
def ShowP (m : Int) (hs : List Hd) (bl mir : Bool) (P : List Pc) (u : Int) : Prop := ∃ sg r : Int, SgOk mir sg ∧ (bl = false → r = 0) ∧ (movL m sg r P).Perm (picL m hs u)
theorem ShowP.perm {m : Int} {hs : List Hd} {bl mir : Bool} {P P' : List Pc} {u : Int} (h : P.Perm P') : ShowP m hs bl mir P u ↔ ShowP m hs bl mir P' u := by
  constructor
  · rintro ⟨sg, r, a, b, c⟩
    exact ⟨sg, r, a, b, ((h.map _).symm.trans c)⟩
  · rintro ⟨sg, r, a, b, c⟩
    exact ⟨sg, r, a, b, ((h.map _).trans c)⟩
def pcC (m s r : Int) (h : Hd) (k : Int) : Pc := (h.2.2, (s * k + r) % m)
theorem movL_pair (m s r : Int) : ∀ (hs : List Hd) (ms : List Int), movL m s r (pairL hs ms) = List.zipWith (pcC m s r) hs ms
  | [], _ => rfl
  | _ :: _, [] => rfl
  | h :: hs, k :: ms => by
    have := movL_pair m s r hs ms
    unfold movL pairL at this ⊢
    rw [List.zipWith_cons_cons, List.zipWith_cons_cons, List.map_cons, this]
    rfl
/-- by how much a hand's mark must be turned -/
def turnK (m : Int) (hs : List Hd) (mv : Bool) (u : Int) (j : Nat) (k : Int) : Int := (markI (hs.getD j h0D) u - sgn mv * k) % m
theorem turnK_iff {m r u : Int} {hs : List Hd} {mv : Bool} {j : Nat} {k : Int} : turnK m hs mv u j k = r % m ↔ (sgn mv * k + r) % m = markI (hs.getD j h0D) u % m := by
  unfold turnK
  rw [mod_eq_dvd, mod_eq_dvd]
  constructor
  · rintro ⟨c, hc⟩
    exact ⟨-c, by grind⟩
  · rintro ⟨c, hc⟩
    exact ⟨-c, by grind⟩
theorem mapK_iff {m r u : Int} {hs0 : List Hd} {mv : Bool} : ∀ {o : List Nat} {hs : List Hd} {ms : List Int}, o.length = hs.length → ms.length = hs.length → (o.map (pcA m hs0 u) = List.zipWith (pcC m (sgn mv) r) hs ms ↔ o.map (fun j => (hs0.getD j h0D).2.2) = hs.map (fun h => h.2.2) ∧ ∀ x ∈ List.zipWith (turnK m hs0 mv u) o ms, x = r % m)
  | [], [], [], _, _ => by simp
  | [], [], _ :: _, _, h => by simp at h
  | [], _ :: _, _, h, _ => by simp at h
  | _ :: _, [], _, h, _ => by simp at h
  | _ :: _, _ :: _, [], _, h => by simp at h
  | j :: o, h :: hs, k :: ms, hl, hl2 => by
    have ih := mapK_iff (m := m) (r := r) (u := u) (hs0 := hs0) (mv := mv) (o := o) (hs := hs) (ms := ms) (by simpa using hl) (by simpa using hl2)
    rw [List.map_cons, List.map_cons, List.map_cons, List.zipWith_cons_cons, List.zipWith_cons_cons, List.cons.injEq, List.cons.injEq, List.forall_mem_cons, ih, turnK_iff]
    unfold pcA pcC
    rw [Prod.mk.injEq]
    constructor
    · rintro ⟨⟨a, b⟩, c, d⟩
      exact ⟨⟨a, c⟩, b.symm, d⟩
    · rintro ⟨⟨a, c⟩, b, d⟩
      exact ⟨⟨a, b.symm⟩, c, d⟩
/-- a reading gives such marks at a tick -/
def Gives (m : Int) (hs : List Hd) (bl : Bool) (ms : List Int) (rd : Rd) (u : Int) : Prop := ∃ r, (bl = false → r = 0) ∧ ∀ x ∈ List.zipWith (turnK m hs rd.2 u) rd.1 ms, x = r % m
theorem showP_iff {m : Int} {hs : List Hd} {bl mir : Bool} {ms : List Int} {u : Int} (hms : ms.length = hs.length) : ShowP m hs bl mir (pairL hs ms) u ↔ ∃ rd ∈ readOf hs mir, Gives m hs bl ms rd u := by
  constructor
  · rintro ⟨sg, r, h1, h2, h3⟩
    obtain ⟨mv, rfl, hmv⟩ : ∃ mv : Bool, sg = sgn mv ∧ (mv = true → mir = true) := by
      rcases h1 with rfl | ⟨h1, rfl⟩
      · exact ⟨false, rfl, fun z => by cases z⟩
      · exact ⟨true, rfl, fun _ => h1⟩
    rw [movL_pair] at h3
    obtain ⟨o, p, e⟩ := perm_idx h3 (List.range hs.length) (picL_pcA m u hs)
    have hsw := swOk_of_perm p
    obtain ⟨e1, e2⟩ := (mapK_iff hsw.len hms).mp e.symm
    refine ⟨(o, mv), readOf_mem (swaps_mem (by rw [List.length_map]; exact hsw) fun i hi j hj => ?_) hmv, r, h2, e2⟩
    rw [List.length_map] at hi
    have hjn := hsw.lt j (List.mem_of_getElem? hj)
    have := congrArg (fun l : List Str => l[i]?) e1
    try dsimp only at this
    rw [List.getElem?_map, hj, Option.map_some, getD_eq hjn] at this
    rw [List.getElem?_map (i := j), List.getElem?_eq_getElem hjn, Option.map_some]
    exact this
  · rintro ⟨⟨o, mv⟩, h1, r, h7, h8⟩
    obtain ⟨h3, h4⟩ := readL_mem h1
    obtain ⟨h5, h6⟩ := swapsL_ok h3
    rw [List.length_map] at h5 h6
    refine ⟨sgn mv, r, ?_, h7, ?_⟩
    · cases mv
      · exact .inl rfl
      · exact .inr ⟨h4 rfl, rfl⟩
    · rw [movL_pair, picL_pcA, ← (mapK_iff h5.len hms).mpr ⟨?_, h8⟩]
      · exact h5.perm.map _
      · refine List.ext_getElem? fun i => ?_
        rw [List.getElem?_map]
        by_cases hi : i < hs.length
        · obtain ⟨j, e1, e2⟩ := h6 i hi
          have hjn := h5.lt j (List.mem_of_getElem? e1)
          rw [List.getElem?_map, List.getElem?_map, List.getElem?_eq_getElem hjn, Option.map_some] at e2
          rw [e1, Option.map_some, getD_eq hjn, e2, List.getElem?_map]
        · rw [List.getElem?_eq_none (by rw [h5.len]; omega), List.getElem?_eq_none (by rw [List.length_map]; omega)]
          rfl
/-- what is to be met, row by row -/
def movedL (hs : List Hd) (bl mv : Bool) (ms : List Int) : List Int :=
  if bl then ((List.zipWith (fun k h => sgn mv * (k - h.2.1)) ms hs).tail).map (fun x => x - (List.zipWith (fun k h => sgn mv * (k - h.2.1)) ms hs).headD 0)
  else List.zipWith (fun k h => sgn mv * (k - h.2.1)) ms hs
def dueK (m : Int) (row : Rw) (x : Int) : Int := (row.2.2 + x) % m
theorem slv_cons {m f d u : Int} {fs ds : List Int} : Slv m (f :: fs) (d :: ds) u ↔ m ∣ f * u - d ∧ Slv m fs ds u := by
  unfold Slv
  rw [List.zip_cons_cons, List.forall_mem_cons]
theorem slvA {m u : Int} : ∀ {R : List Rw} {vs : List Int}, R.length = vs.length → (Slv m (R.map (·.1)) (List.zipWith (dueK m) R vs) u ↔ ∀ p ∈ R.zip vs, m ∣ p.1.1 * u - p.1.2.2 - p.2 - 0)
  | [], [], _ => by simp [Slv]
  | [], _ :: _, h => by simp at h
  | _ :: _, [], h => by simp at h
  | r :: R, v :: vs, h => by
    rw [List.map_cons, List.zipWith_cons_cons, slv_cons, List.zip_cons_cons, List.forall_mem_cons, slvA (by simpa using h)]
    refine and_congr ?_ Iff.rfl
    unfold dueK
    obtain ⟨c, hc⟩ := dvd_mod_sub m (r.2.2 + v)
    constructor
    · rintro ⟨a, ha⟩
      exact ⟨a + c, by dsimp only; grind⟩
    · rintro ⟨a, ha⟩
      exact ⟨a - c, by dsimp only at ha; grind⟩
theorem slvB {m u v0 : Int} {r0 : Rw} : ∀ {R : List Rw} {vs : List Int}, R.length = vs.length → (Slv m ((R.map fun x => lessR m x r0).map (·.1)) (List.zipWith (dueK m) (R.map fun x => lessR m x r0) (vs.map fun x => x - v0)) u ↔ ∀ p ∈ R.zip vs, m ∣ p.1.1 * u - p.1.2.2 - p.2 - (r0.1 * u - r0.2.2 - v0))
  | [], [], _ => by simp [Slv]
  | [], _ :: _, h => by simp at h
  | _ :: _, [], h => by simp at h
  | r :: R, v :: vs, h => by
    have ih := slvB (m := m) (u := u) (v0 := v0) (r0 := r0) (R := R) (vs := vs) (by simpa using h)
    rw [List.map_cons, List.map_cons, List.map_cons, List.zipWith_cons_cons, slv_cons, List.zip_cons_cons, List.forall_mem_cons, ih]
    refine and_congr ?_ Iff.rfl
    unfold dueK lessR
    dsimp only
    obtain ⟨c, hc⟩ := dvd_mod_sub m ((r.2.2 - r0.2.2) % m + (v - v0))
    obtain ⟨d, hd⟩ := dvd_mod_sub m (r.2.2 - r0.2.2)
    obtain ⟨e, he⟩ := dvd_mod_sub m (r.1 - r0.1)
    constructor
    · rintro ⟨a, ha⟩
      exact ⟨a + c + d - e * u, by grind⟩
    · rintro ⟨a, ha⟩
      exact ⟨a - c - d + e * u, by grind⟩
theorem rowK {m u : Int} {hs : List Hd} {mv : Bool} {j : Nat} {h : Hd} {k : Int} : m ∣ (row1 m hs mv j h).1 * u - (row1 m hs mv j h).2.2 - sgn mv * (k - h.2.1) - turnK m hs mv u j k := by
  unfold row1 turnK markI
  dsimp only
  generalize hs.getD j h0D = g
  obtain ⟨a, ha⟩ := dvd_mod_sub m (sgn mv * h.2.1 - g.2.1)
  obtain ⟨b, hb⟩ := dvd_mod_sub m (g.2.1 + g.1 * u - sgn mv * k)
  exact ⟨-a - b, by grind⟩
theorem zipK {m u z : Int} {hs0 : List Hd} {mv : Bool} : ∀ {o : List Nat} {hs : List Hd} {ms : List Int}, o.length = hs.length → ms.length = hs.length → ((∀ p ∈ (List.zipWith (row1 m hs0 mv) o hs).zip (List.zipWith (fun k h => sgn mv * (k - h.2.1)) ms hs), m ∣ p.1.1 * u - p.1.2.2 - p.2 - z) ↔ ∀ x ∈ List.zipWith (turnK m hs0 mv u) o ms, m ∣ x - z)
  | [], [], [], _, _ => by simp
  | [], [], _ :: _, _, h => by simp at h
  | [], _ :: _, _, h, _ => by simp at h
  | _ :: _, [], _, h, _ => by simp at h
  | _ :: _, _ :: _, [], _, h => by simp at h
  | j :: o, h :: hs, k :: ms, hl, hl2 => by
    have ih := zipK (m := m) (u := u) (z := z) (hs0 := hs0) (mv := mv) (o := o) (hs := hs) (ms := ms) (by simpa using hl) (by simpa using hl2)
    rw [List.zipWith_cons_cons, List.zipWith_cons_cons, List.zipWith_cons_cons, List.zip_cons_cons, List.forall_mem_cons, List.forall_mem_cons, ih]
    refine and_congr ?_ Iff.rfl
    obtain ⟨c, hc⟩ := rowK (m := m) (u := u) (hs := hs0) (mv := mv) (j := j) (h := h) (k := k)
    dsimp only
    constructor
    · rintro ⟨a, ha⟩
      exact ⟨a - c, by grind⟩
    · rintro ⟨a, ha⟩
      exact ⟨a + c, by grind⟩
theorem turnK_rng {m u x : Int} {hs : List Hd} {mv : Bool} : ∀ {o : List Nat} {ms : List Int}, x ∈ List.zipWith (turnK m hs mv u) o ms → x % m = x
  | [], _, h => by cases h
  | _ :: _, [], h => by cases h
  | j :: o, k :: ms, h => by
    rw [List.zipWith_cons_cons] at h
    rcases List.mem_cons.mp h with rfl | h
    · unfold turnK
      exact Int.emod_emod_of_dvd _ (Int.dvd_refl m)
    · exact turnK_rng h
theorem slv_gives {m u : Int} {hs : List Hd} {bl mv : Bool} {o : List Nat} {ms : List Int} (h1 : 1 ≤ hs.length) (hol : o.length = hs.length) (hml : ms.length = hs.length) :
    Slv m ((rowsL m hs bl (o, mv)).map (·.1)) (List.zipWith (dueK m) (rowsL m hs bl (o, mv)) (movedL hs bl mv ms)) u ↔ Gives m hs bl ms (o, mv) u := by
  have hl : (List.zipWith (row1 m hs mv) o hs).length = (List.zipWith (fun k h => sgn mv * (k - h.2.1)) ms hs).length := by rw [List.length_zipWith, List.length_zipWith]; omega
  cases bl
  · show Slv m ((List.zipWith (row1 m hs mv) o hs).map (·.1)) (List.zipWith (dueK m) (List.zipWith (row1 m hs mv) o hs) (List.zipWith (fun k h => sgn mv * (k - h.2.1)) ms hs)) u ↔ _
    rw [slvA hl, zipK hol hml]
    unfold Gives
    constructor
    · intro h
      refine ⟨0, fun _ => rfl, fun x hx => ?_⟩
      rw [← turnK_rng hx]
      exact mod_eq_dvd.mpr (h x hx)
    · rintro ⟨r, h2, h3⟩ x hx
      obtain rfl := h2 rfl
      have := h3 x hx
      rw [← turnK_rng hx] at this
      exact mod_eq_dvd.mp this
  · cases o with
    | nil => rw [List.length_nil] at hol; omega
    | cons j0 o =>
      cases hs0 : hs with
      | nil => rw [hs0] at h1; simp at h1
      | cons h0 hs' =>
        cases ms with
        | nil => rw [List.length_nil] at hml; omega
        | cons k0 ms =>
          rw [hs0, List.length_cons, List.length_cons] at hol hml
          have hl' : (List.zipWith (row1 m (h0 :: hs') mv) o hs').length = (List.zipWith (fun k h => sgn mv * (k - h.2.1)) ms hs').length := by rw [List.length_zipWith, List.length_zipWith]; omega
          show Slv m (((List.zipWith (row1 m (h0 :: hs') mv) o hs').map fun x => lessR m x (row1 m (h0 :: hs') mv j0 h0)).map (·.1)) (List.zipWith (dueK m) ((List.zipWith (row1 m (h0 :: hs') mv) o hs').map fun x => lessR m x (row1 m (h0 :: hs') mv j0 h0)) ((List.zipWith (fun k h => sgn mv * (k - h.2.1)) ms hs').map fun x => x - sgn mv * (k0 - h0.2.1))) u ↔ _
          rw [slvB hl', zipK (by omega) (by omega)]
          obtain ⟨c, hc⟩ := rowK (m := m) (u := u) (hs := h0 :: hs') (mv := mv) (j := j0) (h := h0) (k := k0)
          unfold Gives
          dsimp only
          rw [List.zipWith_cons_cons]
          constructor
          · intro h
            refine ⟨turnK m (h0 :: hs') mv u j0 k0, fun z => (by cases z), fun x hx => ?_⟩
            rcases List.mem_cons.mp hx with rfl | hx
            · exact (Int.emod_emod_of_dvd _ (Int.dvd_refl m)).symm
            · rw [← turnK_rng hx]
              obtain ⟨a, ha⟩ := h x hx
              exact mod_eq_dvd.mpr ⟨a + c, by grind⟩
          · rintro ⟨r, _, h3⟩ x hx
            have e0 := h3 _ List.mem_cons_self
            have e1 := h3 x (List.mem_cons_of_mem _ hx)
            exact ⟨-c, by grind⟩
end M

namespace M
open PySem PySem.Spec PyProof.Rows L2
def mvF (sg : Int) : D → D
  | .tuple [.int k, .tuple [_, .int s, _]] => .int (sg * (k - s))
  | d => d
theorem mvF_pairs (sg : Int) : ∀ (ms : List Int) (hs : List Hd), (pairs (ms.map .int) (hs.map hD)).map (mvF sg) = (List.zipWith (fun k h => sg * (k - h.2.1)) ms hs).map .int
  | [], _ => by simp [pairs]
  | _ :: _, [] => by simp [pairs]
  | k :: ms, h :: hs => by
    have ih := mvF_pairs sg ms hs
    unfold pairs at ih ⊢
    rw [List.map_cons, List.map_cons, List.zip_cons_cons, List.map_cons, List.map_cons, ih]
    rfl
def dueD (m : Int) : D → D
  | .tuple [.tuple [_, _, .int c], .int x] => .int ((c + x) % m)
  | d => d
theorem dueD_pairs (m : Int) : ∀ (R : List Rw) (vs : List Int), (pairs (R.map rwD) (vs.map .int)).map (dueD m) = (List.zipWith (dueK m) R vs).map .int
  | [], _ => by simp [pairs]
  | _ :: _, [] => by simp [pairs]
  | r :: R, v :: vs => by
    have ih := dueD_pairs m R vs
    unfold pairs at ih ⊢
    rw [List.map_cons, List.map_cons, List.zip_cons_cons, List.map_cons, List.map_cons, ih]
    rfl
theorem zip_mem2 {α β : Type} {f : α → D} {g : β → D} {xs : List α} {ys : List β} {d : D} (h : d ∈ pairs (xs.map f) (ys.map g)) : ∃ x ∈ xs, ∃ y ∈ ys, d = .tuple [f x, g y] := by
  unfold pairs at h
  rw [List.zip_map, List.map_map] at h
  obtain ⟨⟨x, y⟩, hp, rfl⟩ := List.mem_map.mp h
  exact ⟨x, (List.of_mem_zip hp).1, y, (List.of_mem_zip hp).2, rfl⟩
theorem subI (a : Int) (ns : List Int) : (ns.map PyData.int).map (mapI fun x => x - a) = (ns.map fun x => x - a).map .int := mapI_ints _ _
theorem rowsL_len2 {m : Int} {hs : List Hd} {bl : Bool} {r : Rd} (h : r.1.length = hs.length) : (rowsL m hs bl r).length = if bl then hs.length - 1 else hs.length := by
  have h0 : (rows0 m hs r).length = hs.length := by unfold rows0; rw [List.length_zipWith]; omega
  unfold rowsL
  cases bl
  · exact h0
  · show ((rows0 m hs r).tail.map _).length = hs.length - 1
    rw [List.length_map, List.length_tail, h0]
theorem movedL_len {hs : List Hd} {bl mv : Bool} {ms : List Int} (h : ms.length = hs.length) : (movedL hs bl mv ms).length = if bl then hs.length - 1 else hs.length := by
  have h0 : (List.zipWith (fun k h => sgn mv * (k - h.2.1)) ms hs).length = hs.length := by rw [List.length_zipWith]; omega
  unfold movedL
  cases bl
  · exact h0
  · show ((List.zipWith (fun k h => sgn mv * (k - h.2.1)) ms hs).tail.map _).length = hs.length - 1
    rw [List.length_map, List.length_tail, h0]
theorem pairL_snd : ∀ {hs : List Hd} {ms : List Int}, ms.length = hs.length → (pairL hs ms).map (·.2) = ms
  | [], [], _ => rfl
  | [], _ :: _, h => by simp at h
  | _ :: _, [], h => by simp at h
  | h :: hs, k :: ms, hl => by
    have := pairL_snd (hs := hs) (ms := ms) (by simpa using hl)
    unfold pairL at this ⊢
    rw [List.zipWith_cons_cons, List.map_cons, this]
theorem pairL_in {m : Int} {hs : List Hd} {ms : List Int} {P : List Pc} (hl : ms.length = hs.length) (hp : (pairL hs ms).Perm P) (hi : InM m P) : ∀ k ∈ ms, 0 ≤ k ∧ k < m := fun k hk => by
  rw [← pairL_snd hl] at hk
  obtain ⟨p, h1, rfl⟩ := List.mem_map.mp hk
  exact hi p (hp.mem_iff.mp h1)
end M

namespace M
open PySem PySem.Spec PyProof.Rows L2
theorem wo_neNil {n : Nat} {ds : List D} {Q : D → Prop} (h : Lay n (.list ds)) (q : Q (.bool (!ds.isEmpty))) (hn : n ≤ 64 := by omega) : WO (gNe (.list ds) (.list [])) Q := by
  refine wo_neD (h.shp hn) rfl ?_
  cases ds with
  | nil => exact q
  | cons _ _ => exact q
/-- all ticks whose picture is one with a picture, rising -/
def ReadG (m : Int) (hs : List Hd) (bl mir : Bool) (P : List Pc) (L : List Int) : Prop := L.Pairwise (· < ·) ∧ ∀ u, u ∈ L ↔ (0 ≤ u ∧ u < m) ∧ ShowP m hs bl mir P u
theorem ShowP.looks {m : Int} {hs : List Hd} {bl mir : Bool} {P : List Pc} {u : Int} (h : ShowP m hs bl mir P u) : (P.map (·.1)).Perm (looksOf hs) := by
  obtain ⟨sg, r, _, _, hp⟩ := h
  have h2 := hp.map (·.1)
  unfold movL picL at h2
  rw [List.map_map, List.map_map] at h2
  exact h2
theorem ReadG.uniq {m : Int} {hs : List Hd} {bl mir : Bool} {P P' : List Pc} {L K : List Int} (hp : P.Perm P') (h : ReadG m hs bl mir P L) (k : ReadG m hs bl mir P' K) : L = K :=
  rise_ext h.1 k.1 fun u => by rw [h.2 u, k.2 u, ShowP.perm hp]
theorem pairL_fst : ∀ {hs : List Hd} {ms : List Int}, ms.length = hs.length → (pairL hs ms).map (·.1) = looksOf hs
  | [], [], _ => rfl
  | [], _ :: _, h => by simp at h
  | _ :: _, [], h => by simp at h
  | h :: hs, k :: ms, hl => by
    have := pairL_fst (hs := hs) (ms := ms) (by simpa using hl)
    unfold pairL looksOf at this ⊢
    rw [List.zipWith_cons_cons, List.map_cons, List.map_cons, this]
theorem left_looks {hs : List Hd} {P ls : List Pc} {ms : List Int} {k : Nat} (hk : k ≤ hs.length) (hml : ms.length = k) (hpm : (pairL (hs.take k) ms ++ ls).Perm P) (hl : (P.map (·.1)).Perm (looksOf hs)) : (ls.map (·.1)).Perm ((looksOf hs).drop k) := by
  have h1 := (hpm.map (·.1)).trans hl
  rw [List.map_append, pairL_fst (by rw [List.length_take]; omega)] at h1
  have h2 : looksOf hs = looksOf (hs.take k) ++ (looksOf hs).drop k := by
    rw [show looksOf (hs.take k) = (looksOf hs).take k from List.map_take .., List.take_append_drop]
  rw [h2] at h1
  have h3 := (List.perm_append_left_iff _).mp h1
  exact h3
end M

namespace M
open PySem PySem.Spec PyProof.Rows L2
/-! ### a pot of draws: one number or two -/
theorem wo_abc {k : Int} {Q : D → Prop} (h0 : 0 ≤ k) (h1 : k < 26) (q : ∀ x, isLk x → Q (.str x)) : WO (gIdx (.str "abcdefghijklmnopqrstuvwxyz") (.int k)) Q := by
  have hc : ("abcdefghijklmnopqrstuvwxyz" : Str).cps = letters.toArray := by decide +kernel
  have hl : letters.length = 26 := rfl
  have hk : k.toNat < letters.length := by omega
  refine ⟨.str ⟨#[letters[k.toNat]]⟩, ?_, q _ ⟨letters[k.toNat], ?_, ?_, rfl⟩⟩
  · unfold gIdx
    dsimp only
    rw [if_pos (by decide +kernel), hc]
    rw [show letters.toArray.toList = letters from rfl]
    unfold atI ixN
    rw [if_pos h0, if_pos (by omega), Option.bind_some, List.getElem?_eq_getElem hk]
    rfl
  · have : ∀ c ∈ letters, 97 ≤ c := by decide
    exact this _ (List.getElem_mem _)
  · have : ∀ c ∈ letters, c ≤ 122 := by decide
    exact this _ (List.getElem_mem _)
theorem wo_idxInts {ns : List Int} {k : Int} {Q : D → Prop} (h0 : 0 ≤ k) (h1 : k < ns.length) (q : ∀ n, n ∈ ns → Q (.int n)) : WO (gIdx (.list (ns.map .int)) (.int k)) Q := by
  refine wo_idxL h0 (by rw [List.length_map]; exact h1) fun d _ hd => ?_
  obtain ⟨n, hn, rfl⟩ := List.mem_map.mp hd
  exact q n hn
theorem wo_idxStrs {ns : List Str} {k : Int} {Q : D → Prop} (h0 : 0 ≤ k) (h1 : k < ns.length) (q : ∀ n, n ∈ ns → Q (.str n)) : WO (gIdx (.list (ns.map .str)) (.int k)) Q := by
  refine wo_idxL h0 (by rw [List.length_map]; exact h1) fun d _ hd => ?_
  obtain ⟨n, hn, rfl⟩ := List.mem_map.mp hd
  exact q n hn
end M

namespace M
open PySem PySem.Spec PyProof.Rows L2
theorem handsOk_app {m g s : Int} {x : Str} {hs : List Hd} (h : HandsOk m hs) (h1 : 0 ≤ g ∧ g < m) (h2 : 0 ≤ s ∧ s < m) (h3 : isLk x) : HandsOk m (hs ++ [(g, s, x)]) := fun y hy => by
  rcases List.mem_append.mp hy with hy | hy
  · exact h y hy
  · rw [List.mem_singleton] at hy
    subst hy
    exact ⟨h1.1, h1.2, h2.1, h2.2, h3⟩
end M

namespace M
open PySem PySem.Spec PyProof.Rows L2
structure PicOk (m : Int) (P : List Pc) : Prop where
  lk : PcOk P
  rg : InM m P
theorem PicOk.nil (m : Int) : PicOk m [] := ⟨fun _ h => (by cases h), fun _ h => (by cases h)⟩
theorem PicOk.insert {m : Int} {P : List Pc} {p : Pc} (h : PicOk m P) (k : Nat) (h1 : isLk p.1) (h2 : 0 ≤ p.2 ∧ p.2 < m) : PicOk m (P.take k ++ p :: P.drop k) := by
  constructor
  · intro x hx
    rcases List.mem_append.mp hx with hx | hx
    · exact h.lk x (List.mem_of_mem_take hx)
    · rcases List.mem_cons.mp hx with rfl | hx
      · exact h1
      · exact h.lk x (List.mem_of_mem_drop hx)
  · intro x hx
    rcases List.mem_append.mp hx with hx | hx
    · exact h.rg x (List.mem_of_mem_take hx)
    · rcases List.mem_cons.mp hx with rfl | hx
      · exact h2
      · exact h.rg x (List.mem_of_mem_drop hx)
theorem PicOk.set {m : Int} {P : List Pc} {p : Pc} (h : PicOk m P) (k : Nat) (h1 : isLk p.1) (h2 : 0 ≤ p.2 ∧ p.2 < m) : PicOk m (P.set k p) := by
  constructor
  · intro x hx
    rcases List.mem_or_eq_of_mem_set hx with hx | rfl
    · exact h.lk x hx
    · exact h1
  · intro x hx
    rcases List.mem_or_eq_of_mem_set hx with hx | rfl
    · exact h.rg x hx
    · exact h2
theorem PicOk.erase {m : Int} {P : List Pc} (h : PicOk m P) (k : Nat) : PicOk m (P.eraseIdx k) :=
  ⟨fun x hx => h.lk x (List.mem_of_mem_eraseIdx hx), fun x hx => h.rg x (List.mem_of_mem_eraseIdx hx)⟩
theorem norm_showP {m : Int} (hm : 0 < m) {hs : List Hd} {bl mir : Bool} {t : Int} {P L N : List Pc} (hP : InM m P) (hN : Least (imgsL m bl mir P) N) (hL : NormAt m hs bl mir t L) : L = N ↔ ShowP m hs bl mir P t := by
  rw [eq_comm, norm_eq hP (picL_in hm hs t).sort hN hL]
  constructor
  · rintro ⟨sg, r, a, b, c⟩
    exact ⟨sg, r, a, b, c.trans (sortP_perm _)⟩
  · rintro ⟨sg, r, a, b, c⟩
    exact ⟨sg, r, a, b, c.trans (sortP_perm _).symm⟩
end M

namespace M
open PySem PySem.Spec PyProof.Rows L2
theorem showP_mov {m : Int} (hm : 0 < m) {hs : List Hd} {bl mir : Bool} {P : List Pc} {a r u : Int} (hP : InM m P) (ha : SgOk mir a) (hr : bl = false → r = 0) : ShowP m hs bl mir (movL m a r P) u ↔ ShowP m hs bl mir P u := by
  constructor
  · rintro ⟨b, s, k1, k2, k3⟩
    rw [movL_comp] at k3
    exact ⟨b * a, b * r + s, ha.mul k1, fun e => by rw [hr e, k2 e]; omega, k3⟩
  · rintro ⟨b, s, k1, k2, k3⟩
    have e : movL m b s P = movL m (b * a) (s - b * a * r) (movL m a r P) := by
      rw [movL_comp, Int.mul_assoc, ha.sq, Int.mul_one, show b * a * r + (s - b * a * r) = s by omega]
    rw [e] at k3
    exact ⟨b * a, s - b * a * r, ha.mul k1, fun e => by rw [hr e, k2 e]; omega, k3⟩
theorem showP_pic {m : Int} {hs : List Hd} {bl mir : Bool} {t u : Int} : ShowP m hs bl mir (sortP (picL m hs t)) u ↔ Show m hs bl mir t u := ShowP.perm (sortP_perm _)
/-- all the ticks with one picture -/
def AllOf (m : Int) (hs : List Hd) (bl mir : Bool) (t : Int) (A : List Int) : Prop := A.Pairwise (· < ·) ∧ ∀ u, u ∈ A ↔ (0 ≤ u ∧ u < m) ∧ Show m hs bl mir t u
theorem AllOf.uniq {m : Int} {hs : List Hd} {bl mir : Bool} {t t' : Int} {A B : List Int} (hm : 0 < m) (h : AllOf m hs bl mir t A) (k : AllOf m hs bl mir t' B) (e : Show m hs bl mir t t') : A = B :=
  rise_ext h.1 k.1 fun u => by
    rw [h.2 u, k.2 u]
    exact ⟨fun ⟨a, b⟩ => ⟨a, (e.symm hm).trans b⟩, fun ⟨a, b⟩ => ⟨a, e.trans b⟩⟩
theorem AllOf.of {m : Int} {hs : List Hd} {bl mir : Bool} {t : Int} {L S : List Int} (hm : 0 < m) (h0 : 0 ≤ t) (h1 : t < m) (h : RivOf m hs bl mir t L) (hp : S.Perm (L ++ [t])) (hS : S.Pairwise (· < ·)) : AllOf m hs bl mir t S := ⟨hS, fun u => by
  rw [hp.mem_iff, List.mem_append, h.2 u, List.mem_singleton, Int.emod_eq_of_lt h0 h1]
  constructor
  · rintro (⟨h1, _, h2⟩ | rfl)
    · exact ⟨h1, h2⟩
    · exact ⟨⟨h0, h1⟩, Show.refl hm ..⟩
  · rintro ⟨h1, h2⟩
    by_cases e : u = t
    · exact .inr e
    · exact .inl ⟨h1, e, h2⟩⟩
theorem riv_nd0 {m : Int} {hs : List Hd} {bl mir : Bool} {t : Int} {L : List Int} (h0 : 0 ≤ t) (h1 : t < m) (h : RivOf m hs bl mir t L) : (L ++ [t]).Nodup := by
  have := riv_nd h
  rwa [Int.emod_eq_of_lt h0 h1] at this
theorem eraseIdx_map' {α β : Type} (f : α → β) : ∀ (l : List α) (n : Nat), (l.map f).eraseIdx n = (l.eraseIdx n).map f
  | [], _ => by simp
  | _ :: _, 0 => rfl
  | x :: l, n + 1 => by
    rw [List.map_cons, List.eraseIdx_cons_succ, List.eraseIdx_cons_succ, List.map_cons, eraseIdx_map' f l n]
/-- a move of one pair -/
def mvD (m sg r : Int) : D → D
  | .tuple [.str x, .int k] => pD (x, (sg * k + r) % m)
  | _ => .none
theorem mvD_list (m sg r : Int) (l : List Pc) : (l.map pD).map (mvD m sg r) = (movL m sg r l).map pD := by
  unfold movL
  rw [List.map_map, List.map_map]
  rfl
end M


namespace Lw
open PySem PySem.Spec PyProof.Rows L2 M
local macro_rules | `(tactic| walk_at "sd") => `(tactic| (first | (with_reducible assumption) | omega | (simp; done) | (simp; omega) | decide))
local macro_rules | `(tactic| walk_at "v1") => `(tactic| (first | ((with_reducible show WE _ _ _); first | with_reducible refine we_callN ?_ | with_reducible refine we_c ?_ | with_reducible refine we_un ?_ | with_reducible refine we_bin ?_ | with_reducible refine we_chain ?_ | with_reducible refine we_and ?_ | with_reducible refine we_or ?_ | with_reducible refine we_not ?_ | with_reducible refine we_if ?_ | with_reducible refine we_fz ?_ | with_reducible refine we_tup ?_ | with_reducible refine we_sl ?_ | with_reducible refine we_tupRg ?_ | with_reducible refine we_bor ?_ | with_reducible refine we_call ?_ | with_reducible refine we_din ?_ | with_reducible refine we_borL ?_ | ((with_reducible apply we_v); (· rfl)) | ((with_reducible show WE (eO _) _ _); first | ((with_reducible apply we_oV); (· rfl)) | ((with_reducible apply we_oW); (· rfl)) | ((with_reducible apply we_oR); (· rfl))) | ((with_reducible show WE (eBinV _ _ _) _ _); first | ((with_reducible apply we_bV); (· rfl)) | ((with_reducible apply we_bVr); (· rfl)) | ((with_reducible apply we_bVv); (· rfl))) | ((with_reducible apply we_mut); (· rfl)) | ((with_reducible apply we_mut0); (· rfl)) | ((with_reducible apply we_dget2); (· rfl)) | ((with_reducible apply we_didx); (· rfl))) | ((with_reducible show WO _ _); first | ((with_reducible show WO (gIsO _ _) _); first | with_reducible refine wo_isON ?_ | ((with_reducible refine wo_isO (b := true) ?_ ?_); (· rfl)) | ((with_reducible refine wo_isO (b := false) ?_ ?_); (· rfl))) | with_reducible refine wo_attr ?_ | ((with_reducible show WO (valsA _) _); first | with_reducible refine vals_nil ?_ | with_reducible refine vals_v ?_) | with_reducible refine wo_isB ?_ | with_reducible refine wo_ntB ?_ | ((with_reducible show WO (backAr _ _ _) _); first | with_reducible refine back_nil ?_ | with_reducible refine back_v ?_ | with_reducible refine back_o ?_ | ((with_reducible apply back_r); (· rfl))) | ((with_reducible show WO (resArs _ _) _); first | with_reducible refine res_nil ?_ | with_reducible refine res_v ?_ | ((with_reducible apply res_r); (· rfl)) | ((with_reducible apply res_oO); (· rfl)) | ((with_reducible apply res_oR); (· rfl)) | ((with_reducible apply res_oV); (· rfl))) | ((with_reducible show WO (gAdd _ _) _); first | with_reducible refine wo_add ?_ | ((with_reducible refine wo_addL ?_ ?_); (· first | rfl | (apply fits_of; first | omega | (simp; omega)))) | ((with_reducible refine wo_addT ?_ ?_); (· first | rfl | (apply fits_of; first | omega | (simp; omega))))) | with_reducible refine wo_sub ?_ | with_reducible refine wo_neg ?_ | with_reducible refine wo_lt ?_ | with_reducible refine wo_le ?_ | with_reducible refine wo_gt ?_ | with_reducible refine wo_ge ?_ | ((with_reducible show WO (gEq _ _) _); first | with_reducible refine wo_eq ?_ | with_reducible refine wo_eqB ?_ | ((with_reducible refine wo_eqT ?_ ?_); (· decide +kernel)) | ((with_reducible refine wo_eqF ?_ ?_); (· decide +kernel))) | ((with_reducible show WO (gNe _ _) _); first | with_reducible refine wo_ne ?_ | with_reducible refine wo_neB ?_ | ((with_reducible refine wo_neT ?_ ?_); (· decide +kernel)) | ((with_reducible refine wo_neF ?_ ?_); (· decide +kernel))) | with_reducible refine wo_isN ?_ | with_reducible refine wo_ntN ?_ | ((with_reducible show WO (gLen _) _); first | with_reducible refine wo_lenL ?_ | with_reducible refine wo_lenT ?_) | with_reducible refine wo_abs ?_ | ((with_reducible show WO (gInt _) _); first | with_reducible refine wo_intB ?_ | with_reducible refine wo_intI ?_) | ((with_reducible show WO (gList _) _); first | with_reducible refine wo_listL ?_ | with_reducible refine wo_listT ?_) | ((with_reducible show WO (gTuple _) _); first | with_reducible refine wo_tupL ?_ | with_reducible refine wo_tupT ?_) | with_reducible refine wo_max ?_ | with_reducible refine wo_min ?_ | ((with_reducible show WO (gIsi _ _) _); first | with_reducible refine wo_isiI ?_ | with_reducible refine wo_isiB ?_ | ((with_reducible apply wo_isiE); (· rfl))) | ((with_reducible show WO (cutOf _ _ _) _); first | with_reducible refine wo_cutL ?_ | with_reducible refine wo_cutT ?_) | ((with_reducible show WO (gPow _ _) _); first | with_reducible refine wo_p10_60 ?_ | with_reducible refine wo_p10_18 ?_ | with_reducible refine wo_p10_30 ?_ | with_reducible refine wo_p2_24 ?_ | with_reducible refine wo_p10_8 ?_ | with_reducible refine wo_p10_19 ?_ | with_reducible refine wo_p10_55 ?_ | with_reducible refine wo_p10_59 ?_ | with_reducible refine wo_p3_30 ?_ | with_reducible refine wo_p2_40 ?_ | with_reducible refine wo_p10_54 ?_ | with_reducible refine wo_p3_13 ?_ | with_reducible refine wo_p2_20 ?_ | with_reducible refine wo_p10_57 ?_ | with_reducible refine wo_p10_40 ?_ | with_reducible refine wo_p10_61 ?_ | with_reducible refine wo_p10_50 ?_) | ((with_reducible apply wo_idxE); (· rfl)) | ((with_reducible apply wo_allE); (· rfl)) | ((with_reducible apply wo_anyE); (· rfl)) | ((with_reducible show WO (ixN _ _) _); first | ((with_reducible apply wo_ixE); (· rfl)) | ((with_reducible refine wo_ix ?_ ?_ ?_); (· walk_at "sd"); (· walk_at "sd"))) | ((with_reducible refine wo_mod ?_ ?_); (· walk_at "sd")) | ((with_reducible refine wo_div ?_ ?_ ?_); (· walk_at "sd"); (· walk_at "sd")) | ((with_reducible refine wo_mul ?_ ?_); (· first | exact mul_ok1 (by walk_at "sd") | exact mul_ok2 (by walk_at "sd") | exact mul_ok3 (by omega) (by omega))) | ((with_reducible refine wo_app ?_ ?_); (· first | rfl | (apply fits_of; first | omega | (simp; omega)))) | ((with_reducible refine wo_ext ?_ ?_); (· first | rfl | (apply fits_of; first | omega | (simp; omega))))) | ((with_reducible show WS _ _ _); first | with_reducible refine ws_try ?_ | with_reducible refine ws_retT ?_ | with_reducible refine ws_seq ?_ | with_reducible refine ws_expr ?_ | with_reducible refine ws_ret ?_ | with_reducible refine ws_retL ?_ | with_reducible refine ws_if ?_ | with_reducible refine ws_set ?_ | with_reducible refine ws_setO ?_ | with_reducible refine ws_asg ?_ | with_reducible refine ws_par ?_ | with_reducible refine ws_nil ?_ | with_reducible refine ws_retN ?_ | with_reducible refine ws_dput ?_ | with_reducible refine ws_dnew ?_ | ((with_reducible show WS (sFrz _ _) _ _); first | ((with_reducible apply ws_frz); (· rfl)) | ((with_reducible apply ws_frzV); (· rfl))) | ((with_reducible apply ws_retO); (· rfl)) | ((with_reducible apply ws_putI); (· rfl))) | ((with_reducible apply nrm_); (· (try simp only [wipeE, backE, List.set_cons_zero, List.set_cons_succ, List.getElem?_cons_zero, List.getElem?_cons_succ, List.cons_append, List.nil_append, List.replicate_succ, List.replicate_zero, Nat.reduceSub, unowns_nil, unowns_cons, unown_own, unown_val, unown_no, unown_ro, unown_dct]); rfl)) | ((with_reducible show IfB _ _ _); first | with_reducible refine ifb_not ?_ | with_reducible refine ifb_t ?_ | with_reducible refine ifb_f ?_ | ((with_reducible refine ifb_decT ?_ ?_); (· first | (with_reducible assumption) | omega | (simp only [List.length_cons, List.length_nil]; omega))) | ((with_reducible refine ifb_decF ?_ ?_); (· first | (with_reducible assumption) | omega | (simp only [List.length_cons, List.length_nil]; omega))) | with_reducible refine ifb_dec (fun _ => ?_) (fun _ => ?_) | ((with_reducible apply ifb_eT); (· rfl)) | ((with_reducible apply ifb_eF); (· rfl))) | ((with_reducible show WB _ _ _); first | with_reducible refine wb_bor ?_ | with_reducible refine wb_v ?_ | with_reducible refine wb_and ?_ | with_reducible refine wb_or ?_ | with_reducible refine wb_not ?_ | with_reducible refine wb_yes ?_) | with_reducible refine isb ?_ | ((with_reducible show WL _ _ _); first | with_reducible refine wl_nil ?_ | with_reducible refine wl_cons ?_ | with_reducible refine wl_lst ?_ | with_reducible refine wl_un ?_ | with_reducible refine wl_it ?_ | with_reducible refine wl_rng1 ?_ | with_reducible refine wl_rng2 ?_ | with_reducible refine wl_enum ?_ | with_reducible refine wl_enumA ?_ | with_reducible refine wl_addE ?_ | with_reducible refine wl_rg1 ?_ | with_reducible refine wl_bor ?_ | with_reducible refine wl_call ?_ | ((with_reducible apply wl_addO); (· rfl)) | ((with_reducible show WL (lSlV _ _ _) _ _); first | ((with_reducible apply wl_slO); (· rfl)) | ((with_reducible apply wl_slR); (· rfl)))) | ((with_reducible show WA _ _ _); first | with_reducible refine wa_nil ?_ | with_reducible refine wa_v ?_ | ((with_reducible apply wa_r); (· rfl)) | ((with_reducible show WA (aO _ _) _ _); first | ((with_reducible apply wa_oR); (· rfl)) | ((with_reducible apply wa_oO); (· rfl)) | ((with_reducible apply wa_oV); (· rfl)))) | ((with_reducible show IsS _ _); first | with_reducible refine iss_l ?_ | with_reducible refine iss_t ?_) | ((with_reducible refine fit_ ?_ ?_); (· first | rfl | (apply fits_of; first | omega | (simp; omega)))) | ((with_reducible show CallG _ _ _ _); first | ((with_reducible apply cg0); (· rfl)) | ((with_reducible apply cg1); (· rfl); (· rfl))) | ((with_reducible show WT _ _ _ _); first | with_reducible refine wt_n ?_ | ((with_reducible apply wt_t); (· rfl)) | ((with_reducible apply wt_unl); (· rfl))) | ((with_reducible show WTs _ _ _ _); first | with_reducible refine wts_nil ?_ | with_reducible refine wts_cons ?_) | ((with_reducible apply own_); (· rfl)) | ((with_reducible refine sml_ ?_ ?_ ?_); (· walk_at "sd"); (· walk_at "sd")) | with_reducible refine isi_ ?_ | ((with_reducible show WSX _ _ _); first | with_reducible refine wsx_lift ?_ | with_reducible refine wsx_seq ?_ | with_reducible refine wsx_if ?_ | with_reducible refine wsx_raise0 ?_ | with_reducible refine wsx_expr ?_ | with_reducible refine wsx_ret ?_ | with_reducible refine wsx_set ?_) | with_reducible refine wex_call ?_ | ((with_reducible show WPu _ _ _ _); first | with_reducible refine wpu_nil ?_ | with_reducible refine wpu_seq ?_ | with_reducible refine wpu_ret ?_ | with_reducible refine wpu_if ?_) | ((with_reducible show WTd _ _ _ _ _); first | with_reducible refine wtd_P ?_ | with_reducible refine wtd_G ?_ | with_reducible refine wtd_If ?_ | ((with_reducible refine wtd_K ?_ ?_); (· exact ⟨rfl, by decide⟩)) | ((with_reducible refine wtd_U ?_ ?_); (· exact ⟨rfl, by decide⟩)) | ((with_reducible refine wtd_C ?_ ?_); (· rfl)) | ((with_reducible refine wtd_A ?_ ?_ ?_); (· rfl); (· first | rfl | (apply fits_of; first | omega | (simp; omega))))) | with_reducible refine two_ ?_ | ((with_reducible show WC _ _ _ _ _ _ _); first | with_reducible refine wc_nil ?_ | with_reducible refine wc_cons ?_) | ((with_reducible show WP _ _ _); first | with_reducible refine wp_no ?_ | with_reducible refine wp_e ?_) | with_reducible refine isl ?_ | ((with_reducible show RetT _ _ _); first | ((with_reducible apply retT1); (· rfl)) | ((with_reducible apply retT2); (· rfl))) | ((with_reducible show Any _ _); first | ((with_reducible apply any_o); (· rfl)) | ((with_reducible apply any_r); (· rfl))) | ((with_reducible show CallH _ _ _ _); first | ((with_reducible apply ch0); (· rfl)) | ((with_reducible apply ch1); (· rfl); (· rfl))) | ((with_reducible apply cgx0); (· rfl))))
local macro_rules | `(tactic| walk_at "v2") => `(tactic| (first | ((with_reducible show WE _ _ _); first | with_reducible refine we_callN ?_ | with_reducible refine we_c ?_ | with_reducible refine we_un ?_ | with_reducible refine we_bin ?_ | with_reducible refine we_chain ?_ | with_reducible refine we_and ?_ | with_reducible refine we_or ?_ | with_reducible refine we_not ?_ | with_reducible refine we_if ?_ | with_reducible refine we_fz ?_ | with_reducible refine we_tup ?_ | with_reducible refine we_sl ?_ | with_reducible refine we_tupRg ?_ | with_reducible refine we_bor ?_ | with_reducible refine we_call ?_ | with_reducible refine we_din ?_ | with_reducible refine we_borL ?_ | ((with_reducible apply we_v); (· rfl)) | ((with_reducible show WE (eO _) _ _); first | ((with_reducible apply we_oV); (· rfl)) | ((with_reducible apply we_oW); (· rfl)) | ((with_reducible apply we_oR); (· rfl))) | ((with_reducible show WE (eBinV _ _ _) _ _); first | ((with_reducible apply we_bV); (· rfl)) | ((with_reducible apply we_bVr); (· rfl)) | ((with_reducible apply we_bVv); (· rfl))) | ((with_reducible apply we_mut); (· rfl)) | ((with_reducible apply we_mut0); (· rfl)) | ((with_reducible apply we_dget2); (· rfl)) | ((with_reducible apply we_didx); (· rfl))) | ((with_reducible show WO _ _); first | ((with_reducible show WO (gIsO _ _) _); first | with_reducible refine wo_isON ?_ | ((with_reducible refine wo_isO (b := true) ?_ ?_); (· rfl)) | ((with_reducible refine wo_isO (b := false) ?_ ?_); (· rfl))) | with_reducible refine wo_attr ?_ | ((with_reducible show WO (valsA _) _); first | with_reducible refine vals_nil ?_ | with_reducible refine vals_v ?_) | with_reducible refine wo_isB ?_ | with_reducible refine wo_ntB ?_ | ((with_reducible show WO (backAr _ _ _) _); first | with_reducible refine back_nil ?_ | with_reducible refine back_v ?_ | with_reducible refine back_o ?_ | ((with_reducible apply back_r); (· rfl))) | ((with_reducible show WO (resArs _ _) _); first | with_reducible refine res_nil ?_ | with_reducible refine res_v ?_ | ((with_reducible apply res_r); (· rfl)) | ((with_reducible apply res_oO); (· rfl)) | ((with_reducible apply res_oR); (· rfl)) | ((with_reducible apply res_oV); (· rfl))) | ((with_reducible show WO (gAdd _ _) _); first | with_reducible refine wo_add ?_ | ((with_reducible refine wo_addL ?_ ?_); (· first | rfl | (apply fits_of; first | omega | (simp; omega)))) | ((with_reducible refine wo_addT ?_ ?_); (· first | rfl | (apply fits_of; first | omega | (simp; omega))))) | with_reducible refine wo_sub ?_ | with_reducible refine wo_neg ?_ | with_reducible refine wo_lt ?_ | with_reducible refine wo_le ?_ | with_reducible refine wo_gt ?_ | with_reducible refine wo_ge ?_ | ((with_reducible show WO (gEq _ _) _); first | with_reducible refine wo_eq ?_ | with_reducible refine wo_eqB ?_ | ((with_reducible refine wo_eqT ?_ ?_); (· decide +kernel)) | ((with_reducible refine wo_eqF ?_ ?_); (· decide +kernel))) | ((with_reducible show WO (gNe _ _) _); first | with_reducible refine wo_ne ?_ | with_reducible refine wo_neB ?_ | ((with_reducible refine wo_neT ?_ ?_); (· decide +kernel)) | ((with_reducible refine wo_neF ?_ ?_); (· decide +kernel))) | with_reducible refine wo_isN ?_ | with_reducible refine wo_ntN ?_ | ((with_reducible show WO (gLen _) _); first | with_reducible refine wo_lenL ?_ | with_reducible refine wo_lenT ?_) | with_reducible refine wo_abs ?_ | ((with_reducible show WO (gInt _) _); first | with_reducible refine wo_intB ?_ | with_reducible refine wo_intI ?_) | ((with_reducible show WO (gList _) _); first | with_reducible refine wo_listL ?_ | with_reducible refine wo_listT ?_) | ((with_reducible show WO (gTuple _) _); first | with_reducible refine wo_tupL ?_ | with_reducible refine wo_tupT ?_) | with_reducible refine wo_max ?_ | with_reducible refine wo_min ?_ | ((with_reducible show WO (gIsi _ _) _); first | with_reducible refine wo_isiI ?_ | with_reducible refine wo_isiB ?_ | ((with_reducible apply wo_isiE); (· rfl))) | ((with_reducible show WO (cutOf _ _ _) _); first | with_reducible refine wo_cutL ?_ | with_reducible refine wo_cutT ?_) | ((with_reducible show WO (gPow _ _) _); first | with_reducible refine wo_p10_60 ?_ | with_reducible refine wo_p10_18 ?_ | with_reducible refine wo_p10_30 ?_ | with_reducible refine wo_p2_24 ?_ | with_reducible refine wo_p10_8 ?_ | with_reducible refine wo_p10_19 ?_ | with_reducible refine wo_p10_55 ?_ | with_reducible refine wo_p10_59 ?_ | with_reducible refine wo_p3_30 ?_ | with_reducible refine wo_p2_40 ?_ | with_reducible refine wo_p10_54 ?_ | with_reducible refine wo_p3_13 ?_ | with_reducible refine wo_p2_20 ?_ | with_reducible refine wo_p10_57 ?_ | with_reducible refine wo_p10_40 ?_ | with_reducible refine wo_p10_61 ?_ | with_reducible refine wo_p10_50 ?_) | ((with_reducible apply wo_idxE); (· rfl)) | ((with_reducible apply wo_allE); (· rfl)) | ((with_reducible apply wo_anyE); (· rfl)) | ((with_reducible show WO (ixN _ _) _); first | ((with_reducible apply wo_ixE); (· rfl)) | ((with_reducible refine wo_ix ?_ ?_ ?_); (· walk_at "sd"); (· walk_at "sd"))) | ((with_reducible refine wo_mod ?_ ?_); (· walk_at "sd")) | ((with_reducible refine wo_div ?_ ?_ ?_); (· walk_at "sd"); (· walk_at "sd")) | ((with_reducible refine wo_mul ?_ ?_); (· first | exact mul_ok1 (by walk_at "sd") | exact mul_ok2 (by walk_at "sd") | exact mul_ok3 (by omega) (by omega))) | ((with_reducible refine wo_app ?_ ?_); (· first | rfl | (apply fits_of; first | omega | (simp; omega)))) | ((with_reducible refine wo_ext ?_ ?_); (· first | rfl | (apply fits_of; first | omega | (simp; omega))))) | ((with_reducible show WS _ _ _); first | with_reducible refine ws_try ?_ | with_reducible refine ws_retT ?_ | with_reducible refine ws_seq ?_ | with_reducible refine ws_expr ?_ | with_reducible refine ws_ret ?_ | with_reducible refine ws_retL ?_ | with_reducible refine ws_set ?_ | with_reducible refine ws_setO ?_ | with_reducible refine ws_asg ?_ | with_reducible refine ws_par ?_ | with_reducible refine ws_nil ?_ | with_reducible refine ws_retN ?_ | with_reducible refine ws_dput ?_ | with_reducible refine ws_dnew ?_ | ((with_reducible show WS (sFrz _ _) _ _); first | ((with_reducible apply ws_frz); (· rfl)) | ((with_reducible apply ws_frzV); (· rfl))) | ((with_reducible apply ws_retO); (· rfl)) | ((with_reducible apply ws_putI); (· rfl))) | ((with_reducible apply nrm_); (· (try simp only [wipeE, backE, List.set_cons_zero, List.set_cons_succ, List.getElem?_cons_zero, List.getElem?_cons_succ, List.cons_append, List.nil_append, List.replicate_succ, List.replicate_zero, Nat.reduceSub, unowns_nil, unowns_cons, unown_own, unown_val, unown_no, unown_ro, unown_dct]); rfl)) | ((with_reducible show IfB _ _ _); first | with_reducible refine ifb_not ?_ | with_reducible refine ifb_t ?_ | with_reducible refine ifb_f ?_ | ((with_reducible refine ifb_decT ?_ ?_); (· first | (with_reducible assumption) | omega | (simp only [List.length_cons, List.length_nil]; omega))) | ((with_reducible refine ifb_decF ?_ ?_); (· first | (with_reducible assumption) | omega | (simp only [List.length_cons, List.length_nil]; omega))) | with_reducible refine ifb_dec (fun _ => ?_) (fun _ => ?_) | ((with_reducible apply ifb_eT); (· rfl)) | ((with_reducible apply ifb_eF); (· rfl))) | ((with_reducible show WB _ _ _); first | with_reducible refine wb_bor ?_ | with_reducible refine wb_v ?_ | with_reducible refine wb_and ?_ | with_reducible refine wb_or ?_ | with_reducible refine wb_not ?_ | with_reducible refine wb_yes ?_) | with_reducible refine isb ?_ | ((with_reducible show WL _ _ _); first | with_reducible refine wl_nil ?_ | with_reducible refine wl_cons ?_ | with_reducible refine wl_lst ?_ | with_reducible refine wl_un ?_ | with_reducible refine wl_it ?_ | with_reducible refine wl_rng1 ?_ | with_reducible refine wl_rng2 ?_ | with_reducible refine wl_enum ?_ | with_reducible refine wl_enumA ?_ | with_reducible refine wl_addE ?_ | with_reducible refine wl_rg1 ?_ | with_reducible refine wl_bor ?_ | with_reducible refine wl_call ?_ | ((with_reducible apply wl_addO); (· rfl)) | ((with_reducible show WL (lSlV _ _ _) _ _); first | ((with_reducible apply wl_slO); (· rfl)) | ((with_reducible apply wl_slR); (· rfl)))) | ((with_reducible show WA _ _ _); first | with_reducible refine wa_nil ?_ | with_reducible refine wa_v ?_ | ((with_reducible apply wa_r); (· rfl)) | ((with_reducible show WA (aO _ _) _ _); first | ((with_reducible apply wa_oR); (· rfl)) | ((with_reducible apply wa_oO); (· rfl)) | ((with_reducible apply wa_oV); (· rfl)))) | ((with_reducible show IsS _ _); first | with_reducible refine iss_l ?_ | with_reducible refine iss_t ?_) | ((with_reducible refine fit_ ?_ ?_); (· first | rfl | (apply fits_of; first | omega | (simp; omega)))) | ((with_reducible show CallG _ _ _ _); first | ((with_reducible apply cg0); (· rfl)) | ((with_reducible apply cg1); (· rfl); (· rfl))) | ((with_reducible show WT _ _ _ _); first | with_reducible refine wt_n ?_ | ((with_reducible apply wt_t); (· rfl)) | ((with_reducible apply wt_unl); (· rfl))) | ((with_reducible show WTs _ _ _ _); first | with_reducible refine wts_nil ?_ | with_reducible refine wts_cons ?_) | ((with_reducible apply own_); (· rfl)) | ((with_reducible refine sml_ ?_ ?_ ?_); (· walk_at "sd"); (· walk_at "sd")) | with_reducible refine isi_ ?_ | ((with_reducible show WSX _ _ _); first | with_reducible refine wsx_lift ?_ | with_reducible refine wsx_seq ?_ | with_reducible refine wsx_if ?_ | with_reducible refine wsx_raise0 ?_ | with_reducible refine wsx_expr ?_ | with_reducible refine wsx_ret ?_ | with_reducible refine wsx_set ?_) | with_reducible refine wex_call ?_ | ((with_reducible show WPu _ _ _ _); first | with_reducible refine wpu_nil ?_ | with_reducible refine wpu_seq ?_ | with_reducible refine wpu_ret ?_ | with_reducible refine wpu_if ?_) | ((with_reducible show WTd _ _ _ _ _); first | with_reducible refine wtd_P ?_ | with_reducible refine wtd_G ?_ | with_reducible refine wtd_If ?_ | ((with_reducible refine wtd_K ?_ ?_); (· exact ⟨rfl, by decide⟩)) | ((with_reducible refine wtd_U ?_ ?_); (· exact ⟨rfl, by decide⟩)) | ((with_reducible refine wtd_C ?_ ?_); (· rfl)) | ((with_reducible refine wtd_A ?_ ?_ ?_); (· rfl); (· first | rfl | (apply fits_of; first | omega | (simp; omega))))) | with_reducible refine two_ ?_ | ((with_reducible show WC _ _ _ _ _ _ _); first | with_reducible refine wc_nil ?_ | with_reducible refine wc_cons ?_) | ((with_reducible show WP _ _ _); first | with_reducible refine wp_no ?_ | with_reducible refine wp_e ?_) | with_reducible refine isl ?_ | ((with_reducible show RetT _ _ _); first | ((with_reducible apply retT1); (· rfl)) | ((with_reducible apply retT2); (· rfl))) | ((with_reducible show Any _ _); first | ((with_reducible apply any_o); (· rfl)) | ((with_reducible apply any_r); (· rfl))) | ((with_reducible show CallH _ _ _ _); first | ((with_reducible apply ch0); (· rfl)) | ((with_reducible apply ch1); (· rfl); (· rfl))) | ((with_reducible apply cgx0); (· rfl))))
local macro_rules | `(tactic| walk_at "vc") => `(tactic| (repeat' first | ((with_reducible show WE _ _ _); first | with_reducible refine we_callN ?_ | with_reducible refine we_c ?_ | with_reducible refine we_un ?_ | with_reducible refine we_bin ?_ | with_reducible refine we_chain ?_ | with_reducible refine we_and ?_ | with_reducible refine we_or ?_ | with_reducible refine we_not ?_ | with_reducible refine we_if ?_ | with_reducible refine we_fz ?_ | with_reducible refine we_tup ?_ | with_reducible refine we_sl ?_ | with_reducible refine we_tupRg ?_ | with_reducible refine we_bor ?_ | with_reducible refine we_call ?_ | with_reducible refine we_din ?_ | with_reducible refine we_borL ?_ | ((with_reducible apply we_v); (· rfl)) | ((with_reducible show WE (eO _) _ _); first | ((with_reducible apply we_oV); (· rfl)) | ((with_reducible apply we_oW); (· rfl)) | ((with_reducible apply we_oR); (· rfl))) | ((with_reducible show WE (eBinV _ _ _) _ _); first | ((with_reducible apply we_bV); (· rfl)) | ((with_reducible apply we_bVr); (· rfl)) | ((with_reducible apply we_bVv); (· rfl))) | ((with_reducible apply we_mut); (· rfl)) | ((with_reducible apply we_mut0); (· rfl)) | ((with_reducible apply we_dget2); (· rfl)) | ((with_reducible apply we_didx); (· rfl))) | ((with_reducible show WO _ _); first | ((with_reducible show WO (gIsO _ _) _); first | with_reducible refine wo_isON ?_ | ((with_reducible refine wo_isO (b := true) ?_ ?_); (· rfl)) | ((with_reducible refine wo_isO (b := false) ?_ ?_); (· rfl))) | with_reducible refine wo_attr ?_ | ((with_reducible show WO (valsA _) _); first | with_reducible refine vals_nil ?_ | with_reducible refine vals_v ?_) | with_reducible refine wo_isB ?_ | with_reducible refine wo_ntB ?_ | ((with_reducible show WO (backAr _ _ _) _); first | with_reducible refine back_nil ?_ | with_reducible refine back_v ?_ | with_reducible refine back_o ?_ | ((with_reducible apply back_r); (· rfl))) | ((with_reducible show WO (resArs _ _) _); first | with_reducible refine res_nil ?_ | with_reducible refine res_v ?_ | ((with_reducible apply res_r); (· rfl)) | ((with_reducible apply res_oO); (· rfl)) | ((with_reducible apply res_oR); (· rfl)) | ((with_reducible apply res_oV); (· rfl))) | ((with_reducible show WO (gAdd _ _) _); first | with_reducible refine wo_add ?_ | ((with_reducible refine wo_addL ?_ ?_); (· first | rfl | (apply fits_of; first | omega | (simp; omega)))) | ((with_reducible refine wo_addT ?_ ?_); (· first | rfl | (apply fits_of; first | omega | (simp; omega))))) | with_reducible refine wo_sub ?_ | with_reducible refine wo_neg ?_ | with_reducible refine wo_lt ?_ | with_reducible refine wo_le ?_ | with_reducible refine wo_gt ?_ | with_reducible refine wo_ge ?_ | ((with_reducible show WO (gEq _ _) _); first | with_reducible refine wo_eq ?_ | with_reducible refine wo_eqB ?_ | ((with_reducible refine wo_eqT ?_ ?_); (· decide +kernel)) | ((with_reducible refine wo_eqF ?_ ?_); (· decide +kernel))) | ((with_reducible show WO (gNe _ _) _); first | with_reducible refine wo_ne ?_ | with_reducible refine wo_neB ?_ | ((with_reducible refine wo_neT ?_ ?_); (· decide +kernel)) | ((with_reducible refine wo_neF ?_ ?_); (· decide +kernel))) | with_reducible refine wo_isN ?_ | with_reducible refine wo_ntN ?_ | ((with_reducible show WO (gLen _) _); first | with_reducible refine wo_lenL ?_ | with_reducible refine wo_lenT ?_) | with_reducible refine wo_abs ?_ | ((with_reducible show WO (gInt _) _); first | with_reducible refine wo_intB ?_ | with_reducible refine wo_intI ?_) | ((with_reducible show WO (gList _) _); first | with_reducible refine wo_listL ?_ | with_reducible refine wo_listT ?_) | ((with_reducible show WO (gTuple _) _); first | with_reducible refine wo_tupL ?_ | with_reducible refine wo_tupT ?_) | with_reducible refine wo_max ?_ | with_reducible refine wo_min ?_ | ((with_reducible show WO (gIsi _ _) _); first | with_reducible refine wo_isiI ?_ | with_reducible refine wo_isiB ?_ | ((with_reducible apply wo_isiE); (· rfl))) | ((with_reducible show WO (cutOf _ _ _) _); first | with_reducible refine wo_cutL ?_ | with_reducible refine wo_cutT ?_) | ((with_reducible show WO (gPow _ _) _); first | with_reducible refine wo_p10_60 ?_ | with_reducible refine wo_p10_18 ?_ | with_reducible refine wo_p10_30 ?_ | with_reducible refine wo_p2_24 ?_ | with_reducible refine wo_p10_8 ?_ | with_reducible refine wo_p10_19 ?_ | with_reducible refine wo_p10_55 ?_ | with_reducible refine wo_p10_59 ?_ | with_reducible refine wo_p3_30 ?_ | with_reducible refine wo_p2_40 ?_ | with_reducible refine wo_p10_54 ?_ | with_reducible refine wo_p3_13 ?_ | with_reducible refine wo_p2_20 ?_ | with_reducible refine wo_p10_57 ?_ | with_reducible refine wo_p10_40 ?_ | with_reducible refine wo_p10_61 ?_ | with_reducible refine wo_p10_50 ?_) | ((with_reducible apply wo_idxE); (· rfl)) | ((with_reducible apply wo_allE); (· rfl)) | ((with_reducible apply wo_anyE); (· rfl)) | ((with_reducible show WO (ixN _ _) _); first | ((with_reducible apply wo_ixE); (· rfl)) | ((with_reducible refine wo_ix ?_ ?_ ?_); (· walk_at "sd"); (· walk_at "sd"))) | ((with_reducible refine wo_mod ?_ ?_); (· walk_at "sd")) | ((with_reducible refine wo_div ?_ ?_ ?_); (· walk_at "sd"); (· walk_at "sd")) | ((with_reducible refine wo_mul ?_ ?_); (· first | exact mul_ok1 (by walk_at "sd") | exact mul_ok2 (by walk_at "sd") | exact mul_ok3 (by omega) (by omega))) | ((with_reducible refine wo_app ?_ ?_); (· first | rfl | (apply fits_of; first | omega | (simp; omega)))) | ((with_reducible refine wo_ext ?_ ?_); (· first | rfl | (apply fits_of; first | omega | (simp; omega))))) | ((with_reducible show WS _ _ _); first | with_reducible refine ws_try ?_ | with_reducible refine ws_retT ?_ | with_reducible refine ws_seq ?_ | with_reducible refine ws_expr ?_ | with_reducible refine ws_ret ?_ | with_reducible refine ws_retL ?_ | with_reducible refine ws_if ?_ | with_reducible refine ws_set ?_ | with_reducible refine ws_setO ?_ | with_reducible refine ws_asg ?_ | with_reducible refine ws_par ?_ | with_reducible refine ws_nil ?_ | with_reducible refine ws_retN ?_ | with_reducible refine ws_dput ?_ | with_reducible refine ws_dnew ?_ | ((with_reducible show WS (sFrz _ _) _ _); first | ((with_reducible apply ws_frz); (· rfl)) | ((with_reducible apply ws_frzV); (· rfl))) | ((with_reducible apply ws_retO); (· rfl)) | ((with_reducible apply ws_putI); (· rfl))) | ((with_reducible apply nrm_); (· (try simp only [wipeE, backE, List.set_cons_zero, List.set_cons_succ, List.getElem?_cons_zero, List.getElem?_cons_succ, List.cons_append, List.nil_append, List.replicate_succ, List.replicate_zero, Nat.reduceSub, unowns_nil, unowns_cons, unown_own, unown_val, unown_no, unown_ro, unown_dct]); rfl)) | ((with_reducible show IfB _ _ _); first | with_reducible refine ifb_not ?_ | with_reducible refine ifb_t ?_ | with_reducible refine ifb_f ?_ | ((with_reducible refine ifb_decT ?_ ?_); (· first | (with_reducible assumption) | omega | (simp only [List.length_cons, List.length_nil]; omega))) | ((with_reducible refine ifb_decF ?_ ?_); (· first | (with_reducible assumption) | omega | (simp only [List.length_cons, List.length_nil]; omega))) | with_reducible refine ifb_dec (fun _ => ?_) (fun _ => ?_) | ((with_reducible apply ifb_eT); (· rfl)) | ((with_reducible apply ifb_eF); (· rfl))) | ((with_reducible show WB _ _ _); first | with_reducible refine wb_bor ?_ | with_reducible refine wb_v ?_ | with_reducible refine wb_and ?_ | with_reducible refine wb_or ?_ | with_reducible refine wb_not ?_ | with_reducible refine wb_yes ?_) | with_reducible refine isb ?_ | ((with_reducible show WL _ _ _); first | with_reducible refine wl_nil ?_ | with_reducible refine wl_cons ?_ | with_reducible refine wl_lst ?_ | with_reducible refine wl_un ?_ | with_reducible refine wl_it ?_ | with_reducible refine wl_rng1 ?_ | with_reducible refine wl_rng2 ?_ | with_reducible refine wl_enum ?_ | with_reducible refine wl_enumA ?_ | with_reducible refine wl_addE ?_ | with_reducible refine wl_rg1 ?_ | with_reducible refine wl_bor ?_ | with_reducible refine wl_call ?_ | ((with_reducible apply wl_addO); (· rfl)) | ((with_reducible show WL (lSlV _ _ _) _ _); first | ((with_reducible apply wl_slO); (· rfl)) | ((with_reducible apply wl_slR); (· rfl)))) | ((with_reducible show WA _ _ _); first | with_reducible refine wa_nil ?_ | with_reducible refine wa_v ?_ | ((with_reducible apply wa_r); (· rfl)) | ((with_reducible show WA (aO _ _) _ _); first | ((with_reducible apply wa_oR); (· rfl)) | ((with_reducible apply wa_oO); (· rfl)) | ((with_reducible apply wa_oV); (· rfl)))) | ((with_reducible show IsS _ _); first | with_reducible refine iss_l ?_ | with_reducible refine iss_t ?_) | ((with_reducible refine fit_ ?_ ?_); (· first | rfl | (apply fits_of; first | omega | (simp; omega)))) | ((with_reducible show CallG _ _ _ _); first | ((with_reducible apply cg0); (· rfl)) | ((with_reducible apply cg1); (· rfl); (· rfl))) | ((with_reducible show WT _ _ _ _); first | with_reducible refine wt_n ?_ | ((with_reducible apply wt_t); (· rfl)) | ((with_reducible apply wt_unl); (· rfl))) | ((with_reducible show WTs _ _ _ _); first | with_reducible refine wts_nil ?_ | with_reducible refine wts_cons ?_) | ((with_reducible apply own_); (· rfl)) | ((with_reducible refine sml_ ?_ ?_ ?_); (· walk_at "sd"); (· walk_at "sd")) | with_reducible refine isi_ ?_ | ((with_reducible show WSX _ _ _); first | with_reducible refine wsx_lift ?_ | with_reducible refine wsx_seq ?_ | with_reducible refine wsx_if ?_ | with_reducible refine wsx_raise0 ?_ | with_reducible refine wsx_expr ?_ | with_reducible refine wsx_ret ?_ | with_reducible refine wsx_set ?_) | with_reducible refine wex_call ?_ | ((with_reducible show WPu _ _ _ _); first | with_reducible refine wpu_nil ?_ | with_reducible refine wpu_seq ?_ | with_reducible refine wpu_ret ?_ | with_reducible refine wpu_if ?_) | ((with_reducible show WTd _ _ _ _ _); first | with_reducible refine wtd_P ?_ | with_reducible refine wtd_G ?_ | with_reducible refine wtd_If ?_ | ((with_reducible refine wtd_K ?_ ?_); (· exact ⟨rfl, by decide⟩)) | ((with_reducible refine wtd_U ?_ ?_); (· exact ⟨rfl, by decide⟩)) | ((with_reducible refine wtd_C ?_ ?_); (· rfl)) | ((with_reducible refine wtd_A ?_ ?_ ?_); (· rfl); (· first | rfl | (apply fits_of; first | omega | (simp; omega))))) | with_reducible refine two_ ?_ | ((with_reducible show WC _ _ _ _ _ _ _); first | with_reducible refine wc_nil ?_ | with_reducible refine wc_cons ?_) | ((with_reducible show WP _ _ _); first | with_reducible refine wp_no ?_ | with_reducible refine wp_e ?_) | with_reducible refine isl ?_ | ((with_reducible show RetT _ _ _); first | ((with_reducible apply retT1); (· rfl)) | ((with_reducible apply retT2); (· rfl))) | ((with_reducible show Any _ _); first | ((with_reducible apply any_o); (· rfl)) | ((with_reducible apply any_r); (· rfl))) | ((with_reducible show CallH _ _ _ _); first | ((with_reducible apply ch0); (· rfl)) | ((with_reducible apply ch1); (· rfl); (· rfl))) | ((with_reducible apply cgx0); (· rfl))))
local macro_rules | `(tactic| walk_at "vd") => `(tactic| (repeat' first | ((with_reducible show WE _ _ _); first | with_reducible refine we_callN ?_ | with_reducible refine we_c ?_ | with_reducible refine we_un ?_ | with_reducible refine we_bin ?_ | with_reducible refine we_chain ?_ | with_reducible refine we_and ?_ | with_reducible refine we_or ?_ | with_reducible refine we_not ?_ | with_reducible refine we_if ?_ | with_reducible refine we_fz ?_ | with_reducible refine we_tup ?_ | with_reducible refine we_sl ?_ | with_reducible refine we_tupRg ?_ | with_reducible refine we_bor ?_ | with_reducible refine we_call ?_ | with_reducible refine we_din ?_ | with_reducible refine we_borL ?_ | ((with_reducible apply we_v); (· rfl)) | ((with_reducible show WE (eO _) _ _); first | ((with_reducible apply we_oV); (· rfl)) | ((with_reducible apply we_oW); (· rfl)) | ((with_reducible apply we_oR); (· rfl))) | ((with_reducible show WE (eBinV _ _ _) _ _); first | ((with_reducible apply we_bV); (· rfl)) | ((with_reducible apply we_bVr); (· rfl)) | ((with_reducible apply we_bVv); (· rfl))) | ((with_reducible apply we_mut); (· rfl)) | ((with_reducible apply we_mut0); (· rfl)) | ((with_reducible apply we_dget2); (· rfl)) | ((with_reducible apply we_didx); (· rfl))) | ((with_reducible show WO _ _); first | ((with_reducible show WO (gIsO _ _) _); first | with_reducible refine wo_isON ?_ | ((with_reducible refine wo_isO (b := true) ?_ ?_); (· rfl)) | ((with_reducible refine wo_isO (b := false) ?_ ?_); (· rfl))) | with_reducible refine wo_attr ?_ | ((with_reducible show WO (valsA _) _); first | with_reducible refine vals_nil ?_ | with_reducible refine vals_v ?_) | with_reducible refine wo_isB ?_ | with_reducible refine wo_ntB ?_ | ((with_reducible show WO (backAr _ _ _) _); first | with_reducible refine back_nil ?_ | with_reducible refine back_v ?_ | with_reducible refine back_o ?_ | ((with_reducible apply back_r); (· rfl))) | ((with_reducible show WO (resArs _ _) _); first | with_reducible refine res_nil ?_ | with_reducible refine res_v ?_ | ((with_reducible apply res_r); (· rfl)) | ((with_reducible apply res_oO); (· rfl)) | ((with_reducible apply res_oR); (· rfl)) | ((with_reducible apply res_oV); (· rfl))) | ((with_reducible show WO (gAdd _ _) _); first | with_reducible refine wo_add ?_ | ((with_reducible refine wo_addL ?_ ?_); (· first | rfl | (apply fits_of; first | omega | (simp; omega)))) | ((with_reducible refine wo_addT ?_ ?_); (· first | rfl | (apply fits_of; first | omega | (simp; omega))))) | with_reducible refine wo_sub ?_ | with_reducible refine wo_neg ?_ | with_reducible refine wo_lt ?_ | with_reducible refine wo_le ?_ | with_reducible refine wo_gt ?_ | with_reducible refine wo_ge ?_ | ((with_reducible show WO (gEq _ _) _); first | with_reducible refine wo_eq ?_ | with_reducible refine wo_eqB ?_ | ((with_reducible refine wo_eqT ?_ ?_); (· decide +kernel)) | ((with_reducible refine wo_eqF ?_ ?_); (· decide +kernel))) | ((with_reducible show WO (gNe _ _) _); first | with_reducible refine wo_ne ?_ | with_reducible refine wo_neB ?_ | ((with_reducible refine wo_neT ?_ ?_); (· decide +kernel)) | ((with_reducible refine wo_neF ?_ ?_); (· decide +kernel))) | with_reducible refine wo_isN ?_ | with_reducible refine wo_ntN ?_ | ((with_reducible show WO (gLen _) _); first | with_reducible refine wo_lenL ?_ | with_reducible refine wo_lenT ?_) | with_reducible refine wo_abs ?_ | ((with_reducible show WO (gInt _) _); first | with_reducible refine wo_intB ?_ | with_reducible refine wo_intI ?_) | ((with_reducible show WO (gList _) _); first | with_reducible refine wo_listL ?_ | with_reducible refine wo_listT ?_) | ((with_reducible show WO (gTuple _) _); first | with_reducible refine wo_tupL ?_ | with_reducible refine wo_tupT ?_) | with_reducible refine wo_max ?_ | with_reducible refine wo_min ?_ | ((with_reducible show WO (gIsi _ _) _); first | with_reducible refine wo_isiI ?_ | with_reducible refine wo_isiB ?_ | ((with_reducible apply wo_isiE); (· rfl))) | ((with_reducible show WO (cutOf _ _ _) _); first | with_reducible refine wo_cutL ?_ | with_reducible refine wo_cutT ?_) | ((with_reducible show WO (gPow _ _) _); first | with_reducible refine wo_p10_60 ?_ | with_reducible refine wo_p10_18 ?_ | with_reducible refine wo_p10_30 ?_ | with_reducible refine wo_p2_24 ?_ | with_reducible refine wo_p10_8 ?_ | with_reducible refine wo_p10_19 ?_ | with_reducible refine wo_p10_55 ?_ | with_reducible refine wo_p10_59 ?_ | with_reducible refine wo_p3_30 ?_ | with_reducible refine wo_p2_40 ?_ | with_reducible refine wo_p10_54 ?_ | with_reducible refine wo_p3_13 ?_ | with_reducible refine wo_p2_20 ?_ | with_reducible refine wo_p10_57 ?_ | with_reducible refine wo_p10_40 ?_ | with_reducible refine wo_p10_61 ?_ | with_reducible refine wo_p10_50 ?_) | ((with_reducible apply wo_idxE); (· rfl)) | ((with_reducible apply wo_allE); (· rfl)) | ((with_reducible apply wo_anyE); (· rfl)) | ((with_reducible show WO (ixN _ _) _); first | ((with_reducible apply wo_ixE); (· rfl)) | ((with_reducible refine wo_ix ?_ ?_ ?_); (· walk_at "sd"); (· walk_at "sd"))) | ((with_reducible refine wo_mod ?_ ?_); (· walk_at "sd")) | ((with_reducible refine wo_div ?_ ?_ ?_); (· walk_at "sd"); (· walk_at "sd")) | ((with_reducible refine wo_mul ?_ ?_); (· first | exact mul_ok1 (by walk_at "sd") | exact mul_ok2 (by walk_at "sd") | exact mul_ok3 (by omega) (by omega))) | ((with_reducible refine wo_app ?_ ?_); (· first | rfl | (apply fits_of; first | omega | (simp; omega)))) | ((with_reducible refine wo_ext ?_ ?_); (· first | rfl | (apply fits_of; first | omega | (simp; omega))))) | ((with_reducible show WS _ _ _); first | with_reducible refine ws_try ?_ | with_reducible refine ws_retT ?_ | with_reducible refine ws_seq ?_ | with_reducible refine ws_expr ?_ | with_reducible refine ws_ret ?_ | with_reducible refine ws_retL ?_ | with_reducible refine ws_set ?_ | with_reducible refine ws_setO ?_ | with_reducible refine ws_asg ?_ | with_reducible refine ws_par ?_ | with_reducible refine ws_nil ?_ | with_reducible refine ws_retN ?_ | with_reducible refine ws_dput ?_ | with_reducible refine ws_dnew ?_ | ((with_reducible show WS (sFrz _ _) _ _); first | ((with_reducible apply ws_frz); (· rfl)) | ((with_reducible apply ws_frzV); (· rfl))) | ((with_reducible apply ws_retO); (· rfl)) | ((with_reducible apply ws_putI); (· rfl))) | ((with_reducible apply nrm_); (· (try simp only [wipeE, backE, List.set_cons_zero, List.set_cons_succ, List.getElem?_cons_zero, List.getElem?_cons_succ, List.cons_append, List.nil_append, List.replicate_succ, List.replicate_zero, Nat.reduceSub, unowns_nil, unowns_cons, unown_own, unown_val, unown_no, unown_ro, unown_dct]); rfl)) | ((with_reducible show IfB _ _ _); first | with_reducible refine ifb_not ?_ | with_reducible refine ifb_t ?_ | with_reducible refine ifb_f ?_ | ((with_reducible refine ifb_decT ?_ ?_); (· first | (with_reducible assumption) | omega | (simp only [List.length_cons, List.length_nil]; omega))) | ((with_reducible refine ifb_decF ?_ ?_); (· first | (with_reducible assumption) | omega | (simp only [List.length_cons, List.length_nil]; omega))) | with_reducible refine ifb_dec (fun _ => ?_) (fun _ => ?_) | ((with_reducible apply ifb_eT); (· rfl)) | ((with_reducible apply ifb_eF); (· rfl))) | ((with_reducible show WB _ _ _); first | with_reducible refine wb_bor ?_ | with_reducible refine wb_v ?_ | with_reducible refine wb_and ?_ | with_reducible refine wb_or ?_ | with_reducible refine wb_not ?_ | with_reducible refine wb_yes ?_) | with_reducible refine isb ?_ | ((with_reducible show WL _ _ _); first | with_reducible refine wl_nil ?_ | with_reducible refine wl_cons ?_ | with_reducible refine wl_lst ?_ | with_reducible refine wl_un ?_ | with_reducible refine wl_it ?_ | with_reducible refine wl_rng1 ?_ | with_reducible refine wl_rng2 ?_ | with_reducible refine wl_enum ?_ | with_reducible refine wl_enumA ?_ | with_reducible refine wl_addE ?_ | with_reducible refine wl_rg1 ?_ | with_reducible refine wl_bor ?_ | with_reducible refine wl_call ?_ | ((with_reducible apply wl_addO); (· rfl)) | ((with_reducible show WL (lSlV _ _ _) _ _); first | ((with_reducible apply wl_slO); (· rfl)) | ((with_reducible apply wl_slR); (· rfl)))) | ((with_reducible show WA _ _ _); first | with_reducible refine wa_nil ?_ | with_reducible refine wa_v ?_ | ((with_reducible apply wa_r); (· rfl)) | ((with_reducible show WA (aO _ _) _ _); first | ((with_reducible apply wa_oR); (· rfl)) | ((with_reducible apply wa_oO); (· rfl)) | ((with_reducible apply wa_oV); (· rfl)))) | ((with_reducible show IsS _ _); first | with_reducible refine iss_l ?_ | with_reducible refine iss_t ?_) | ((with_reducible refine fit_ ?_ ?_); (· first | rfl | (apply fits_of; first | omega | (simp; omega)))) | ((with_reducible show CallG _ _ _ _); first | ((with_reducible apply cg0); (· rfl)) | ((with_reducible apply cg1); (· rfl); (· rfl))) | ((with_reducible show WT _ _ _ _); first | with_reducible refine wt_n ?_ | ((with_reducible apply wt_t); (· rfl)) | ((with_reducible apply wt_unl); (· rfl))) | ((with_reducible show WTs _ _ _ _); first | with_reducible refine wts_nil ?_ | with_reducible refine wts_cons ?_) | ((with_reducible apply own_); (· rfl)) | ((with_reducible refine sml_ ?_ ?_ ?_); (· walk_at "sd"); (· walk_at "sd")) | with_reducible refine isi_ ?_ | ((with_reducible show WSX _ _ _); first | with_reducible refine wsx_lift ?_ | with_reducible refine wsx_seq ?_ | with_reducible refine wsx_if ?_ | with_reducible refine wsx_raise0 ?_ | with_reducible refine wsx_expr ?_ | with_reducible refine wsx_ret ?_ | with_reducible refine wsx_set ?_) | with_reducible refine wex_call ?_ | ((with_reducible show WPu _ _ _ _); first | with_reducible refine wpu_nil ?_ | with_reducible refine wpu_seq ?_ | with_reducible refine wpu_ret ?_ | with_reducible refine wpu_if ?_) | ((with_reducible show WTd _ _ _ _ _); first | with_reducible refine wtd_P ?_ | with_reducible refine wtd_G ?_ | with_reducible refine wtd_If ?_ | ((with_reducible refine wtd_K ?_ ?_); (· exact ⟨rfl, by decide⟩)) | ((with_reducible refine wtd_U ?_ ?_); (· exact ⟨rfl, by decide⟩)) | ((with_reducible refine wtd_C ?_ ?_); (· rfl)) | ((with_reducible refine wtd_A ?_ ?_ ?_); (· rfl); (· first | rfl | (apply fits_of; first | omega | (simp; omega))))) | with_reducible refine two_ ?_ | ((with_reducible show WC _ _ _ _ _ _ _); first | with_reducible refine wc_nil ?_ | with_reducible refine wc_cons ?_) | ((with_reducible show WP _ _ _); first | with_reducible refine wp_no ?_ | with_reducible refine wp_e ?_) | with_reducible refine isl ?_ | ((with_reducible show RetT _ _ _); first | ((with_reducible apply retT1); (· rfl)) | ((with_reducible apply retT2); (· rfl))) | ((with_reducible show Any _ _); first | ((with_reducible apply any_o); (· rfl)) | ((with_reducible apply any_r); (· rfl))) | ((with_reducible show CallH _ _ _ _); first | ((with_reducible apply ch0); (· rfl)) | ((with_reducible apply ch1); (· rfl); (· rfl))) | ((with_reducible apply cgx0); (· rfl))))
local macro_rules | `(tactic| walk_at "nr") => `(tactic| ((with_reducible apply nrm_); (· (try simp only [wipeE, backE, List.set_cons_zero, List.set_cons_succ, List.getElem?_cons_zero, List.getElem?_cons_succ, List.cons_append, List.nil_append, List.replicate_succ, List.replicate_zero, Nat.reduceSub, unowns_nil, unowns_cons, unown_own, unown_val, unown_no, unown_ro, unown_dct]); rfl)))
local macro_rules | `(tactic| walk_at "nb") => `(tactic| simp only [wipeE, backE, List.set_cons_zero, List.set_cons_succ, List.getElem?_cons_zero, List.getElem?_cons_succ])
theorem take_w {a m : Int} {Q : D → List Sl → Prop} (hm : 0 < m) (hm2 : m < 10 ^ 200) (q : ∀ (r a' : Int) x, 0 ≤ r → r < m → Q (.int r) [.own false [.int a'], x]) :
    WG g__law_take [.own false [.int a], .val (.int m)] Q := by
  refine wg_run rfl ?_
  unfold b__law_take
  walk_at "vc"
  exact q _ _ _ (Int.emod_nonneg _ (by omega)) (Int.emod_lt_of_pos _ hm)
theorem purse_w {ns : List Int} {k : Int} {Q : List D → List Sl → Prop} (hk0 : 0 ≤ k) (hk1 : k < 1000) (q : ∀ (a : Int) x y, Q [.int a] [x, y]) : WH g__law_purse [.ro (ns.map .int), .val (.int k)] Q := by
  refine wh_new rfl ?_
  unfold b__law_purse
  walk_at "nr"
  refine ws_mid (fun e => e = [.ro (ns.map .int), .val (.int k), .val (.int 0), .no, .no, .no]) (by walk_at "vc"; rfl) ?_
  rintro _ rfl
  refine ws_mid (fun e => ∃ c : Int, e = [.ro (ns.map .int), .val (.int k), .val (.int c), .no, .no, .no]) ?_ ?_
  · walk_at "vc"
    · rename_i h
      rw [List.length_map] at h
      refine wo_idxInts hk0 (by omega) fun n _ => ?_
      walk_at "vc"
      exact ⟨_, rfl⟩
    · refine wo_neD (shp_ints _) rfl ?_
      cases ns with
      | nil =>
        walk_at "vc"
        exact ⟨_, rfl⟩
      | cons n0 ns =>
        have hp : (0 : Int) < ((n0 :: ns).length : Int) := by rw [List.length_cons]; omega
        have e0 := Int.emod_nonneg k (show ((n0 :: ns).length : Int) ≠ 0 by omega)
        have e1 := Int.emod_lt_of_pos k hp
        walk_at "vc"
        rw [show ((List.map PyData.int (n0 :: ns)).length : Int) = ((n0 :: ns).length : Int) by rw [List.length_map]]
        refine wo_idxInts e0 e1 fun n _ => ?_
        walk_at "vc"
        exact ⟨_, rfl⟩
  rintro e ⟨c, rfl⟩
  refine ws_mid (fun e => e = [.ro (ns.map .int), .val (.int k), .val (.int c), .no, .no, .no]) ?_ ?_
  · walk_at "vc"
    · exact q _ _ _
    · rfl
  rintro _ rfl
  refine ws_mid (fun e => ∃ x : Int, 0 ≤ x ∧ x < 10 ^ 30 + 57 ∧ e = [.ro (ns.map .int), .val (.int k), .val (.int c), .val (.int x), .no, .no]) ?_ ?_
  · have e0 := Int.emod_nonneg c (show (10 ^ 30 + 57 : Int) ≠ 0 by decide)
    have e1 := Int.emod_lt_of_pos c (show (0 : Int) < 10 ^ 30 + 57 by decide)
    walk_at "vc"
    refine wo_pow2 (by omega) ?_
    walk_at "vc"
    refine ⟨_, Int.emod_nonneg _ (by decide), Int.emod_lt_of_pos _ (by decide), rfl⟩
  rintro e ⟨x, hx0, hx1, rfl⟩
  refine ws_mid (fun e => e = [.ro (ns.map .int), .val (.int k), .val (.int c), .val (.int x), .val (.int 0), .no]) (by walk_at "vc"; rfl) ?_
  rintro _ rfl
  refine ws_mid (fun e => ∃ (x f : Int) (x5 : Sl), e = [.ro (ns.map .int), .val (.int k), .val (.int c), .val (.int x), .val (.int f), x5]) ?_ ?_
  · refine ws_forN (fun ds n e => ∃ (x f : Int) (x5 : Sl), 0 ≤ x ∧ x < 10 ^ 30 + 57 ∧ 0 ≤ f ∧ f < (((10 ^ 31) ^ n : Nat) : Int) ∧ e = [.ro (ns.map .int), .val (.int k), .val (.int c), .val (.int x), .val (.int f), x5]) ?_
    walk_at "vc"
    refine ⟨⟨x, 0, .no, hx0, hx1, Int.le_refl 0, by decide, rfl⟩, ?_, ?_⟩
    · rintro n d e hn hd ⟨x, f, x5, hx0, hx1, hf0, hf1, rfl⟩
      have hn6 : n < 6 := by rw [irange_length] at hn; exact hn
      obtain ⟨t, rfl⟩ : ∃ t : Int, d = .int t := by
        obtain ⟨i, rfl, _, _⟩ := irange_zero (List.mem_of_getElem? hd)
        exact ⟨i, rfl⟩
      have hB : (10 ^ 31 : Nat) ^ n ≤ (10 ^ 31) ^ 5 := Nat.pow_le_pow_right (by decide) (by omega)
      have hB5 : ((10 ^ 31 : Nat) ^ 5) = 10 ^ 155 := by decide
      have hS : (10 ^ 31 : Nat) ^ (n + 1) = (10 ^ 31) ^ n * 10 ^ 31 := Nat.pow_succ ..
      generalize (10 ^ 31 : Nat) ^ n = B at *
      walk_at "vc"
      have hM0 := Int.emod_nonneg (x * 618033988749894848204586834365 + 977 * k + t + 5) (show (1000000000000000000000000000057 : Int) ≠ 0 by decide)
      have hM1 := Int.emod_lt_of_pos (x * 618033988749894848204586834365 + 977 * k + t + 5) (show (0 : Int) < 1000000000000000000000000000057 by decide)
      refine ⟨_, _, _, hM0, by omega, by omega, ?_, rfl⟩
      rw [hS, Int.natCast_mul]
      generalize (x * 618033988749894848204586834365 + 977 * k + t + 5) % 1000000000000000000000000000057 = z at *
      omega
    · rintro e ⟨x, f, x5, _, _, _, _, rfl⟩
      exact ⟨_, _, _, rfl⟩
  rintro e ⟨x, f, x5, rfl⟩
  walk_at "vc"
  exact q _ _ _
theorem number_w {a m : Int} {Q : D → List Sl → Prop} (hm : 1 < m) (hm2 : m ≤ 10 ^ 60) (q : ∀ (r a' : Int) x, 0 ≤ r → r < m → Q (.int r) [.own false [.int a'], x]) :
    WG g__law_number [.own false [.int a], .val (.int m)] Q := by
  refine wg_run rfl ?_
  unfold b__law_number
  walk_at "nr"
  refine ws_mid (fun e => ∃ a p : Int, 2 ≤ p ∧ p ≤ 12 ∧ e = [.own false [.int a], .val (.int m), .val (.int p), .no]) ?_ ?_
  · (repeat' first | walk_at "v1" | ((with_reducible refine take_w ?_ ?_ fun _ _ _ _ _ => ?_); (· walk_at "sd"); (· walk_at "sd")))
    refine pick_w (xs := [2, 3, 4, 5, 6, 12]) (lo := 2) (hi := 12) (by omega) (by simp; omega) rfl (by decide) fun x h1' h2 _ => ?_
    walk_at "vc"
    exact ⟨_, _, h1', h2, rfl⟩
  rintro e ⟨a, p, hp0, hp1, rfl⟩
  have hI : ∀ ns : List Int, True := fun _ => trivial
  refine ws_mid (fun e => ∃ (a : Int) (ns : List Int), ns.length = 4 ∧ (∀ n ∈ ns, 0 ≤ n ∧ n < m) ∧ e = [.own false [.int a], .val (.int m), .val (.int p), .own true (ns.map .int)]) ?_ ?_
  · (repeat' first | walk_at "v1" | ((with_reducible refine take_w ?_ ?_ fun _ _ _ _ _ => ?_); (· walk_at "sd"); (· walk_at "sd")))
    rename_i r _ _ hr0 hr1
    have r0 := Int.emod_nonneg r (show m ≠ 0 by omega)
    have r1 := Int.emod_lt_of_pos r (show 0 < m by omega)
    refine ⟨_, [0, 1, m - 1, r % m], rfl, fun n hn => ?_, rfl⟩
    simp only [List.mem_cons, List.not_mem_nil, or_false] at hn
    rcases hn with rfl | rfl | rfl | rfl <;> omega
  rintro e ⟨a, ns, hl, hns, rfl⟩
  have happ : ∀ (ns : List Int) (x : Int), (∀ n ∈ ns, 0 ≤ n ∧ n < m) → 0 ≤ x → x < m → ∀ n ∈ ns ++ [x], 0 ≤ n ∧ n < m := fun ns x h h0 h1 n hn => by
    rcases List.mem_append.mp hn with hn | hn
    · exact h n hn
    · rw [List.mem_singleton] at hn; subst hn; exact ⟨h0, h1⟩
  refine ws_mid (fun e => ∃ (a : Int) (ns : List Int), ns.length = 5 ∧ (∀ n ∈ ns, 0 ≤ n ∧ n < m) ∧ e = [.own false [.int a], .val (.int m), .val (.int p), .own true (ns.map .int)]) ?_ ?_
  · walk_at "vc"
    refine take_w (by omega) (by omega) fun r _ _ hr0 hr1 => ?_
    walk_at "vc"
    refine ⟨_, ns ++ [r], by rw [List.length_append, hl]; rfl, happ ns r hns hr0 hr1, by rw [List.map_append]; rfl⟩
  rintro e ⟨a, ns, hl, hns, rfl⟩
  refine ws_mid (fun e => ∃ (a : Int) (ns : List Int), 5 ≤ ns.length ∧ ns.length ≤ 7 ∧ (∀ n ∈ ns, 0 ≤ n ∧ n < m) ∧ e = [.own false [.int a], .val (.int m), .val (.int p), .own true (ns.map .int)]) ?_ ?_
  · walk_at "vc"
    · rename_i hz
      have hmp : p * (m / p) = m := by have := Int.mul_ediv_add_emod m p; omega
      have hq0 : 0 < m / p := by
        have h2 : 0 ≤ m / p := Int.ediv_nonneg (by omega) (by omega)
        have : m / p ≠ 0 := fun e => by rw [e] at hmp; omega
        omega
      have hq1 : m / p ≤ m := Int.ediv_le_self _ (by omega)
      refine take_w (by omega) (by omega) fun r _ _ hr0 hr1 => ?_
      walk_at "vc"
      have hb0 : 0 ≤ m / p * r := Int.mul_nonneg (by omega) hr0
      have hb1 : m / p * r < m := by
        have : m / p * r < m / p * p := Int.mul_lt_mul_of_pos_left hr1 hq0
        have e : m / p * p = m := by rw [Int.mul_comm]; exact hmp
        omega
      refine take_w hq0 (by omega) fun r2 _ _ hr2 hr3 => ?_
      have hb2 : 0 ≤ p * r2 := Int.mul_nonneg (by omega) hr2
      have hb3 : p * r2 < m := by
        have : p * r2 < p * (m / p) := Int.mul_lt_mul_of_pos_left hr3 (by omega)
        omega
      walk_at "vc"
      refine ⟨_, ns ++ [m / p * r] ++ [p * r2], by simp; omega, by simp; omega, happ _ _ (happ _ _ hns hb0 hb1) hb2 hb3, by rw [List.map_append, List.map_append]; rfl⟩
    · exact ⟨_, ns, by omega, by omega, hns, rfl⟩
  rintro e ⟨a, ns, hl1, hl2, hns, rfl⟩
  walk_at "vc"
  refine take_w (by rw [List.length_map]; omega) (by rw [List.length_map]; omega) fun r _ _ hr0 hr1 => ?_
  rw [List.length_map] at hr1
  walk_at "vc"
  refine wo_idxInts hr0 hr1 fun n hn => ?_
  walk_at "vc"
  exact q n _ _ (hns n hn).1 (hns n hn).2
theorem looks_w {a : Int} {n : Nat} {Q : D → List Sl → Prop} (h1 : 1 ≤ n) (hn : n ≤ 5) (q : ∀ (xs : List Str) (a' : Int) x, xs.length = n → (∀ x ∈ xs, isLk x) → Q (.list (xs.map .str)) [.own false [.int a'], x]) :
    WG g__law_looks [.own false [.int a], .val (.int n)] Q := by
  refine wg_run rfl ?_
  unfold b__law_looks
  walk_at "nr"
  refine ws_mid (fun e => ∃ a b : Int, 0 ≤ b ∧ b < 26 ∧ e = [.own false [.int a], .val (.int n), .val (.int b), .no, .no, .no, .no, .no, .no]) (by (repeat' first | walk_at "v1" | ((with_reducible refine take_w ?_ ?_ fun _ _ _ _ _ => ?_); (· walk_at "sd"); (· walk_at "sd"))); exact ⟨_, _, by assumption, by assumption, rfl⟩) ?_
  rintro e ⟨a, b, hb0, hb1, rfl⟩
  refine ws_mid (fun e => ∃ a s : Int, 1 ≤ s ∧ s ≤ 25 ∧ e = [.own false [.int a], .val (.int n), .val (.int b), .val (.int s), .no, .no, .no, .no, .no]) ?_ ?_
  · (repeat' first | walk_at "v1" | ((with_reducible refine take_w ?_ ?_ fun _ _ _ _ _ => ?_); (· walk_at "sd"); (· walk_at "sd")))
    refine pick_w (xs := [1, 3, 5, 7, 9, 11, 15, 25]) (lo := 1) (hi := 25) (by omega) (by simp; omega) rfl (by decide) fun x h1' h2 _ => ?_
    walk_at "vc"
    exact ⟨_, _, h1', h2, rfl⟩
  rintro e ⟨a, s, hs0, hs1, rfl⟩
  refine ws_mid (fun e => e = [.own false [.int a], .val (.int n), .val (.int b), .val (.int s), .own true [], .no, .no, .no, .no]) (by walk_at "vc"; rfl) ?_
  rintro _ rfl
  refine ws_mid (fun e => ∃ (xs : List Str) (x5 : Sl), xs.length = n ∧ (∀ x ∈ xs, isLk x) ∧ e = [.own false [.int a], .val (.int n), .val (.int b), .val (.int s), .own true (xs.map .str), x5, .no, .no, .no]) ?_ ?_
  · refine ws_forN (fun _ k e => ∃ (xs : List Str) (x5 : Sl), xs.length = k ∧ (∀ x ∈ xs, isLk x) ∧ e = [.own false [.int a], .val (.int n), .val (.int b), .val (.int s), .own true (xs.map .str), x5, .no, .no, .no]) ?_
    walk_at "vc"
    rw [Int.toNat_natCast]
    refine ⟨⟨[], _, rfl, fun x hx => (by cases hx), rfl⟩, ?_, ?_⟩
    · rintro k d e hkl hd ⟨xs, x5, hl, hx, rfl⟩
      obtain ⟨rfl, hk1⟩ := irange_at hd
      walk_at "vc"
      refine wo_abc (Int.emod_nonneg _ (by decide)) (Int.emod_lt_of_pos _ (by decide)) fun x hxx => ?_
      walk_at "vc"
      refine ⟨xs ++ [x], _, by rw [List.length_append, hl]; rfl, fun y hy => ?_, by rw [List.map_append]; rfl⟩
      rcases List.mem_append.mp hy with hy | hy
      · exact hx y hy
      · rw [List.mem_singleton] at hy; subst hy; exact hxx
    · rintro e ⟨xs, x5, hl, hx, rfl⟩
      rw [irange_length] at hl
      exact ⟨xs, _, hl, hx, rfl⟩
  rintro e ⟨xs, x5, hxl, hx, rfl⟩
  refine ws_mid (fun e => ∃ a w : Int, e = [.own false [.int a], .val (.int n), .val (.int b), .val (.int s), .own true (xs.map .str), x5, .val (.int w), .no, .no]) (by (repeat' first | walk_at "v1" | ((with_reducible refine take_w ?_ ?_ fun _ _ _ _ _ => ?_); (· walk_at "sd"); (· walk_at "sd"))); exact ⟨_, _, rfl⟩) ?_
  rintro e ⟨a, w, rfl⟩
  have hset : ∀ (xs : List Str) (i : Nat) (x : Str), xs.length = n → (∀ x ∈ xs, isLk x) → isLk x → (xs.set i x).length = n ∧ ∀ y ∈ xs.set i x, isLk y := fun xs i x h1 h2 h3 => by
    refine ⟨by rw [List.length_set]; exact h1, fun y hy => ?_⟩
    rcases List.mem_or_eq_of_mem_set hy with hy | rfl
    · exact h2 y hy
    · exact h3
  have step : ∀ (xs : List Str), xs.length = n → (∀ x ∈ xs, isLk x) → ∀ (i j : Nat), (∃ (ys : List Str), ys.length = n ∧ (∀ x ∈ ys, isLk x)) := fun xs h1 h2 _ _ => ⟨xs, h1, h2⟩
  refine ws_mid (fun e => ∃ (xs : List Str), xs.length = n ∧ (∀ x ∈ xs, isLk x) ∧ e = [.own false [.int a], .val (.int n), .val (.int b), .val (.int s), .own true (xs.map .str), x5, .val (.int w), .no, .no]) ?_ ?_
  · walk_at "vc"
    · refine wo_idxStrs (ns := xs) (by omega) (by omega) fun x hx1 => ?_
      walk_at "vc"
      obtain ⟨p1, p2⟩ := hset xs 1 x hxl hx (hx x hx1)
      exact ⟨xs.set 1 x, p1, p2, by rw [List.map_set]; rfl⟩
    all_goals exact ⟨_, hxl, hx, rfl⟩
  rintro e ⟨xs, hxl, hx, rfl⟩
  refine ws_mid (fun e => ∃ (xs : List Str), xs.length = n ∧ (∀ x ∈ xs, isLk x) ∧ e = [.own false [.int a], .val (.int n), .val (.int b), .val (.int s), .own true (xs.map .str), x5, .val (.int w), .no, .no]) ?_ ?_
  · walk_at "vc"
    · refine wo_idxStrs (ns := xs) (by omega) (by omega) fun x hx1 => ?_
      walk_at "vc"
      obtain ⟨p1, p2⟩ := hset xs 3 x hxl hx (hx x hx1)
      exact ⟨xs.set 3 x, p1, p2, by rw [List.map_set]; rfl⟩
    all_goals exact ⟨_, hxl, hx, rfl⟩
  rintro e ⟨xs, hxl, hx, rfl⟩
  refine ws_mid (fun e => ∃ (xs : List Str), xs.length = n ∧ (∀ x ∈ xs, isLk x) ∧ e = [.own false [.int a], .val (.int n), .val (.int b), .val (.int s), .own true (xs.map .str), x5, .val (.int w), .no, .no]) ?_ ?_
  · walk_at "vc"
    · refine wo_idxStrs (ns := xs) (by omega) (by omega) fun x hx1 => ?_
      walk_at "vc"
      obtain ⟨p1, p2⟩ := hset xs 2 x hxl hx (hx x hx1)
      exact ⟨xs.set 2 x, p1, p2, by rw [List.map_set]; rfl⟩
    all_goals exact ⟨_, hxl, hx, rfl⟩
  rintro e ⟨xs, hxl, hx, rfl⟩
  refine ws_mid (fun e => e = [.own false [.int a], .val (.int n), .val (.int b), .val (.int s), .own true (xs.map .str), x5, .val (.int w), .own true [], .no]) (by walk_at "vc"; rfl) ?_
  rintro _ rfl
  refine ws_mid (fun e => ∃ (ys : List Str) (a : Int) (x4 x8 : Sl), ys.length = n ∧ (∀ x ∈ ys, isLk x) ∧ e = [.own false [.int a], .val (.int n), .val (.int b), .val (.int s), x4, x5, .val (.int w), .own true (ys.map .str), x8]) ?_ ?_
  · walk_at "vc"
    refine ws_forN (fun _ k e => ∃ (ys : List Str) (a : Int) (x4 x8 : Sl), ys.length = k ∧ (∀ x ∈ ys, isLk x) ∧ e = [.own false [.int a], .val (.int n), .val (.int b), .val (.int s), x4, x5, .val (.int w), .own true (ys.map .str), x8]) ?_
    walk_at "vc"
    refine ⟨⟨[], _, _, _, rfl, fun x hx => (by cases hx), rfl⟩, ?_, ?_⟩
    · rintro k d e hkl hd ⟨ys, a, x4, x8, hl, hy, rfl⟩
      rw [List.length_map] at hkl
      rw [List.getElem?_map, List.getElem?_eq_getElem hkl] at hd
      obtain rfl := Option.some.inj hd
      have hxk := hx xs[k] (List.getElem_mem _)
      generalize xs[k] = x at *
      walk_at "vc"
      refine we_mut2 rfl ?_
      walk_at "vc"
      refine take_w (by rw [List.length_map]; omega) (by rw [List.length_map]; omega) fun r _ _ hr0 hr1 => ?_
      rw [List.length_map] at hr1
      walk_at "vc"
      refine wo_insert hr0 (by rw [List.length_map]; omega) (by rw [List.length_map]; omega) ?_
      walk_at "vc"
      refine ⟨ys.take r.toNat ++ x :: ys.drop r.toNat, _, _, _, ?_, fun y hy' => ?_, by rw [List.map_append, List.map_take, List.map_cons, List.map_drop]⟩
      · rw [List.length_append, List.length_take, List.length_cons, List.length_drop]
        omega
      · rcases List.mem_append.mp hy' with h | h
        · exact hy y (List.mem_of_mem_take h)
        · rcases List.mem_cons.mp h with rfl | h
          · exact hxk
          · exact hy y (List.mem_of_mem_drop h)
    · rintro e ⟨ys, a, x4, x8, hl, hy, rfl⟩
      rw [List.length_map] at hl
      exact ⟨ys, _, _, _, by omega, hy, rfl⟩
  rintro e ⟨ys, a, x4, x8, hl, hy, rfl⟩
  walk_at "vc"
  exact q ys _ _ hl hy

theorem marksS_w {a : Int} {b : Bool} {Q : D → List Sl → Prop} (q : ∀ (r a' : Int) x, 1 < r → r ≤ 10 ^ 60 → (b = true → r ≤ 60) → Q (.int r) [.own false [.int a'], x]) :
    WG g__law_marks [.own false [.int a], .val (.bool b)] Q := by
  refine wg_run rfl ?_
  unfold b__law_marks
  cases b
  · (repeat' first | walk_at "v1" | ((with_reducible refine take_w ?_ ?_ fun _ _ _ _ _ => ?_); (· walk_at "sd"); (· walk_at "sd")))
    rename_i r0 _ _ h0 h1 r1 _ _ h2 h3 r2 _ _ h4 h5
    refine pick_w (xs := [720, 5040, 1716, 2310, 1099511627776, 205891132094649, 1000000000000000000000000000000000000000000000000000000000000, 2 + r0, 360360 * (1 + r1)]) (lo := 2) (hi := 10 ^ 60) (by omega) (by simp; omega) rfl (fun x hx => ?_) fun x h1' h2 _ => ?_
    · simp only [List.mem_cons, List.not_mem_nil, or_false] at hx
      omega
    walk_at "vc"
    exact q _ _ _ (by omega) (by omega) (fun h => by cases h)
  · (repeat' first | walk_at "v1" | ((with_reducible refine take_w ?_ ?_ fun _ _ _ _ _ => ?_); (· walk_at "sd"); (· walk_at "sd")))
    exact q _ _ _ (by omega) (by omega) (fun _ => by omega)
theorem lclockS_w {ns : List Int} {b : Bool} {Q : D → List Sl → Prop} (q : ∀ (m : Int) (hs : List Hd) (bl mir : Bool) x y, 1 < m → m ≤ 10 ^ 60 → (b = true → m ≤ 60) → 1 ≤ hs.length → hs.length ≤ 5 → HandsOk m hs → Q (clockD m hs bl mir) [x, y]) :
    WG g__law_clock [.ro (ns.map .int), .val (.bool b)] Q := by
  refine wg_run rfl ?_
  unfold b__law_clock
  walk_at "nr"
  refine ws_mid (fun e => ∃ a : Int, e = [.ro (ns.map .int), .val (.bool b), .own true [.int a], .no, .no, .no, .no, .no, .no, .no, .no, .no, .no]) (by (repeat' first | walk_at "v1" | ((with_reducible refine purse_w ?_ ?_ fun _ _ _ => ?_); (· walk_at "sd"); (· walk_at "sd"))); exact ⟨_, rfl⟩) ?_
  rintro e ⟨a, rfl⟩
  refine ws_mid (fun e => ∃ a m : Int, 1 < m ∧ m ≤ 10 ^ 60 ∧ (b = true → m ≤ 60) ∧ e = [.ro (ns.map .int), .val (.bool b), .own true [.int a], .val (.int m), .no, .no, .no, .no, .no, .no, .no, .no, .no]) (by walk_at "vc"; refine marksS_w fun r _ _ h1 h2 h3 => ?_; walk_at "vc"; exact ⟨_, _, h1, h2, h3, rfl⟩) ?_
  rintro e ⟨a, m, hm, hm2, hm3, rfl⟩
  refine ws_mid (fun e => ∃ (a : Int) (n : Nat), 1 ≤ n ∧ n ≤ 5 ∧ e = [.ro (ns.map .int), .val (.bool b), .own true [.int a], .val (.int m), .val (.int (n : Int)), .no, .no, .no, .no, .no, .no, .no, .no]) ?_ ?_
  · (repeat' first | walk_at "v1" | ((with_reducible refine take_w ?_ ?_ fun _ _ _ _ _ => ?_); (· walk_at "sd"); (· walk_at "sd")))
    refine pick_w (xs := [3, 2, 4, 5, 1, 3, 2, 4]) (lo := 1) (hi := 5) (by omega) (by simp; omega) rfl (by decide) fun x h1' h2 _ => ?_
    walk_at "vc"
    exact ⟨_, x.toNat, by omega, by omega, by rw [Int.toNat_of_nonneg (by omega)]⟩
  rintro e ⟨a, n, hn0, hn1, rfl⟩
  refine ws_mid (fun e => ∃ (a : Int) (xs : List Str), xs.length = n ∧ (∀ x ∈ xs, isLk x) ∧ e = [.ro (ns.map .int), .val (.bool b), .own true [.int a], .val (.int m), .val (.int (n : Int)), .val (.list (xs.map .str)), .no, .no, .no, .no, .no, .no, .no]) ?_ ?_
  · walk_at "vc"
    refine looks_w hn0 hn1 fun xs _ _ hl hx => ?_
    walk_at "vc"
    exact ⟨_, xs, hl, hx, rfl⟩
  rintro e ⟨a, xs, hxl, hx, rfl⟩
  refine ws_mid (fun e => ∃ (a : Int) (bl : Bool), e = [.ro (ns.map .int), .val (.bool b), .own true [.int a], .val (.int m), .val (.int (n : Int)), .val (.list (xs.map .str)), .val (.bool bl), .no, .no, .no, .no, .no, .no]) (by (repeat' first | walk_at "v1" | ((with_reducible refine take_w ?_ ?_ fun _ _ _ _ _ => ?_); (· walk_at "sd"); (· walk_at "sd"))); exact ⟨_, _, rfl⟩) ?_
  rintro e ⟨a, bl, rfl⟩
  refine ws_mid (fun e => ∃ (a : Int) (mir : Bool), e = [.ro (ns.map .int), .val (.bool b), .own true [.int a], .val (.int m), .val (.int (n : Int)), .val (.list (xs.map .str)), .val (.bool bl), .val (.bool mir), .no, .no, .no, .no, .no]) ?_ ?_
  · (repeat' first | walk_at "v1" | ((with_reducible refine take_w ?_ ?_ fun _ _ _ _ _ => ?_); (· walk_at "sd"); (· walk_at "sd")))
    · refine wo_lenSet (by omega) ?_
      walk_at "vc"
      exact ⟨_, _, rfl⟩
    · exact ⟨_, _, rfl⟩
  rintro e ⟨a, mir, rfl⟩
  refine ws_mid (fun e => e = [.ro (ns.map .int), .val (.bool b), .own true [.int a], .val (.int m), .val (.int (n : Int)), .val (.list (xs.map .str)), .val (.bool bl), .val (.bool mir), .own true [], .no, .no, .no, .no]) (by walk_at "vc"; rfl) ?_
  rintro _ rfl
  refine ws_mid (fun e => ∃ (hs : List Hd) (x9 x10 x11 x12 : Sl), hs.length = n ∧ HandsOk m hs ∧ e = [.ro (ns.map .int), .val (.bool b), .own true [.int a], .val (.int m), .val (.int (n : Int)), .val (.list (xs.map .str)), .val (.bool bl), .val (.bool mir), .own true (hs.map hD), x9, x10, x11, x12]) ?_ ?_
  · refine ws_forN (fun _ k e => ∃ (hs : List Hd) (x9 x10 x11 x12 : Sl), hs.length = k ∧ HandsOk m hs ∧ e = [.ro (ns.map .int), .val (.bool b), .own true [.int a], .val (.int m), .val (.int (n : Int)), .val (.list (xs.map .str)), .val (.bool bl), .val (.bool mir), .own true (hs.map hD), x9, x10, x11, x12]) ?_
    walk_at "vc"
    rw [Int.toNat_natCast]
    refine ⟨⟨[], _, _, _, _, rfl, fun h hh => (by cases hh), rfl⟩, ?_, ?_⟩
    · rintro k d e hkl hd ⟨hs, x9, x10, x11, x12, hl, hk, rfl⟩
      obtain ⟨rfl, hk1⟩ := irange_at hd
      walk_at "vc"
      refine purse_w (by omega) (by omega) fun c _ _ => ?_
      walk_at "vc"
      refine number_w hm hm2 fun g _ _ hg0 hg1 => ?_
      walk_at "vc"
      refine take_w (by omega) (by omega) fun r _ _ hr0 hr1 => ?_
      walk_at "vc"
      refine number_w hm hm2 fun s2 _ _ hs0 hs1 => ?_
      walk_at "vc"
      refine take_w (by omega) (by omega) fun w _ _ hw0 hw1 => ?_
      walk_at "vc"
      refine pick_w (xs := [0, r, s2]) (lo := 0) (hi := m - 1) (by omega) (by simp; omega) rfl (fun x hx => ?_) fun s h1' h2 _ => ?_
      · simp only [List.mem_cons, List.not_mem_nil, or_false] at hx
        omega
      walk_at "vc"
      refine wo_idxStrs (by omega) (by omega) fun x hx1 => ?_
      walk_at "vc"
      exact ⟨hs ++ [(g, s, x)], _, _, _, _, by rw [List.length_append, hl]; rfl, handsOk_app hk ⟨hg0, hg1⟩ ⟨h1', by omega⟩ (hx x hx1), by rw [List.map_append]; rfl⟩
    · rintro e ⟨hs, x9, x10, x11, x12, hl, hk, rfl⟩
      rw [irange_length] at hl
      exact ⟨hs, _, _, _, _, hl, hk, rfl⟩
  rintro e ⟨hs, x9, x10, x11, x12, hl, hk, rfl⟩
  walk_at "vc"
  exact q m hs bl mir _ _ hm hm2 hm3 (by omega) (by omega) hk

theorem normal_w {m : Int} {hs : List Hd} {bl mir : Bool} {P : List Pc} {Q : D → List Sl → Prop} (hm : 0 < m) (hP : P ≠ []) (hl : P.length ≤ 5) (q : ∀ L x y, Least (imgsL m bl mir P) L → Q (lpD L) [x, y]) :
    WG g__law_normal [.val (clockD m hs bl mir), .val (.list (P.map pD))] Q := by
  have hne : imgsL m bl mir P ≠ [] := fun e => by
    obtain ⟨p, hp⟩ := List.exists_mem_of_ne_nil P hP
    have : sortP (movL m 1 (-(if bl then (1 * p.2 % m) else 0)) P) ∈ imgsL m bl mir P := img_mem.mpr ⟨1, _, .inl rfl, backs_iff.mpr (by cases bl with | false => rfl | true => exact ⟨p, hp, rfl⟩), rfl⟩
    rw [e] at this
    cases this
  refine wg_run rfl ?_
  unfold b__law_normal
  walk_at "nr"
  refine ws_mid (fun e => e = [.val (clockD m hs bl mir), .val (.list (P.map pD)), .val (.int m), .val (.tuple (hs.map hD)), .val (.bool bl), .val (.bool mir), .no, .no, .no, .no, .no, .no, .no, .no]) (by walk_at "vc"; rfl) ?_
  rintro _ rfl
  refine ws_mid (fun e => e = [.val (clockD m hs bl mir), .val (.list (P.map pD)), .val (.int m), .val (.tuple (hs.map hD)), .val (.bool bl), .val (.bool mir), .own true [], .no, .no, .no, .no, .no, .no, .no]) (by walk_at "vc"; rfl) ?_
  rintro _ rfl
  refine ws_mid (fun e => ∃ x7 x8 x9 x10 : Sl, e = [.val (clockD m hs bl mir), .val (.list (P.map pD)), .val (.int m), .val (.tuple (hs.map hD)), .val (.bool bl), .val (.bool mir), .own true ((imgsL m bl mir P).map lpD), x7, x8, x9, x10, .no, .no, .no]) ?_ ?_
  · refine ws_forN (fun _ k e => ∃ x7 x8 x9 x10 : Sl, e = [.val (clockD m hs bl mir), .val (.list (P.map pD)), .val (.int m), .val (.tuple (hs.map hD)), .val (.bool bl), .val (.bool mir), .own true ((((sgnsL mir).take k).flatMap (imgs1 m bl P)).map lpD), x7, x8, x9, x10, .no, .no, .no]) ?_
    walk_at "vc"
    have hcut : cutD [.int 1, .int (-1)] none (some (1 + if mir = true then 1 else 0)) = (sgnsL mir).map .int := by cases mir <;> rfl
    rw [hcut]
    refine ⟨⟨_, _, _, _, rfl⟩, ?_, ?_⟩
    · rintro k d e hkl hd ⟨x7, x8, x9, x10, rfl⟩
      rw [List.length_map] at hkl
      rw [List.getElem?_map, List.getElem?_eq_getElem hkl] at hd
      obtain rfl := Option.some.inj hd
      have hk2 : (sgnsL mir).length ≤ 2 := by cases mir <;> decide
      have hsg : ((sgnsL mir)[k]).natAbs ≤ 1 := by rcases sgns_ok.mp (List.getElem_mem hkl) with h | ⟨_, h⟩ <;> rw [h] <;> decide
      have htk : (sgnsL mir).take (k + 1) = (sgnsL mir).take k ++ [(sgnsL mir)[k]] := List.take_succ_eq_append_getElem hkl
      rw [htk, List.flatMap_append, List.flatMap_singleton]
      have hacc : (((sgnsL mir).take k).flatMap (imgs1 m bl P)).length ≤ 20 := by
        rw [List.length_flatMap]
        have h1 : ∀ sg, (imgs1 m bl P sg).length ≤ 5 := fun sg => by
          unfold imgs1 backsL movL
          cases bl <;> simp <;> omega
        have h2 : ∀ l : List Int, (l.map fun a => (imgs1 m bl P a).length).sum ≤ 5 * l.length := fun l => by
          induction l with
          | nil => simp
          | cons a l ih => simp only [List.map_cons, List.sum_cons, List.length_cons]; have := h1 a; omega
        have := h2 ((sgnsL mir).take k)
        rw [List.length_take] at this
        omega
      generalize ((sgnsL mir).take k).flatMap (imgs1 m bl P) = acc at *
      generalize (sgnsL mir)[k] = sg at *
      have hml : (movL m sg 0 P).length ≤ 5 := by unfold movL; rw [List.length_map]; omega
      refine wt_n ?_
      walk_at "nr"
      refine ws_mid (fun e => e = [.val (clockD m hs bl mir), .val (.list (P.map pD)), .val (.int m), .val (.tuple (hs.map hD)), .val (.bool bl), .val (.bool mir), .own true (acc.map lpD), .val (.int sg), .val (.list ((movL m sg 0 P).map pD)), x9, x10, .no, .no, .no]) ?_ ?_
      · walk_at "vc"
        refine wl_compP (fun _ _ => true) (fun _ => movD m sg 0) ?_
        walk_at "vc"
        refine ⟨rfl, fits_of (by rw [List.length_map]; omega), fun d hd => ?_, ?_⟩
        · obtain ⟨x, hx, rfl⟩ := List.mem_map.mp hd
          unfold pD
          walk_at "vc"
          refine ⟨rfl, ?_⟩
          walk_at "vc"
          refine ⟨?_, rfl⟩
          show PyData.tuple [.str x.1, .int (sg * x.2 % m)] = .tuple [.str x.1, .int ((sg * x.2 + 0) % m)]
          rw [Int.add_zero]
        · rw [filter_yes, movD_pic]
          walk_at "vc"
          rfl
      rintro _ rfl
      have hbk : ∀ (x9 x10 : Sl), WL (lIt (eBin gAdd (eBin gMul (eFz (lLst (lCons (eC (.int 0)) lNil))) (eUn gInt (eNot (eV 4)))) (eBin gMul (eFz (lComp (lIt (eV 8)) [13] (tN 13) bYes (eBin gIdx (eV 13) (eC (.int 1))))) (eUn gInt (eV 4))))) [.val (clockD m hs bl mir), .val (.list (P.map pD)), .val (.int m), .val (.tuple (hs.map hD)), .val (.bool bl), .val (.bool mir), .own true (acc.map lpD), .val (.int sg), .val (.list ((movL m sg 0 P).map pD)), x9, x10, .no, .no, .no] (fun ds e => ds = (backsL bl (movL m sg 0 P)).map .int ∧ e = [.val (clockD m hs bl mir), .val (.list (P.map pD)), .val (.int m), .val (.tuple (hs.map hD)), .val (.bool bl), .val (.bool mir), .own true (acc.map lpD), .val (.int sg), .val (.list ((movL m sg 0 P).map pD)), x9, x10, .no, .no, .no]) := fun x9 x10 => by
        generalize movL m sg 0 P = row at *
        walk_at "vc"
        refine wo_mulBit (by simp) ?_
        walk_at "vc"
        refine wl_compP (fun _ _ => true) (fun _ => sndP) ?_
        walk_at "vc"
        refine ⟨rfl, fits_of (by rw [List.length_map]; omega), fun d hd => ?_, ?_⟩
        · obtain ⟨x, hx, rfl⟩ := List.mem_map.mp hd
          unfold pD
          walk_at "vc"
          exact ⟨rfl, by walk_at "vc"; exact ⟨rfl, rfl⟩⟩
        rw [filter_yes, sndP_pic]
        walk_at "vc"
        refine wo_mulBit (by rw [List.length_map, List.length_map]; omega) ?_
        walk_at "vc"
        have hfit : fits ((if (!bl) = true then [PyData.int 0] else []).length + (if bl = true then (row.map (·.2)).map PyData.int else []).length) = true := fits_of (by cases bl <;> simp <;> omega)
        refine wo_addL hfit ?_
        walk_at "vc"
        refine ⟨?_, rfl⟩
        unfold backsL
        cases bl <;> rfl
      have him : imgs1 m bl P sg = (backsL bl (movL m sg 0 P)).map fun b => sortP (movL m 1 (-b) (movL m sg 0 P)) := rfl
      have hbl : (backsL bl (movL m sg 0 P)).length ≤ 5 := by unfold backsL; cases bl <;> simp <;> omega
      rw [him]
      generalize movL m sg 0 P = row at *
      refine ws_forN (fun _ j e => ∃ x9 x10 : Sl, e = [.val (clockD m hs bl mir), .val (.list (P.map pD)), .val (.int m), .val (.tuple (hs.map hD)), .val (.bool bl), .val (.bool mir), .own true ((acc ++ ((backsL bl row).take j).map fun b => sortP (movL m 1 (-b) row)).map lpD), .val (.int sg), .val (.list (row.map pD)), x9, x10, .no, .no, .no]) ?_
      obtain ⟨ds, e, hb, rfl, rfl⟩ := hbk x9 x10
      refine ⟨_, _, hb, ?_⟩
      refine ⟨⟨_, _, by rw [List.take_zero, List.map_nil, List.append_nil]⟩, ?_, ?_⟩
      · rintro j d e hjl hd ⟨x9, x10, rfl⟩
        rw [List.length_map] at hjl
        rw [List.getElem?_map, List.getElem?_eq_getElem hjl] at hd
        obtain rfl := Option.some.inj hd
        have htj : (backsL bl row).take (j + 1) = (backsL bl row).take j ++ [(backsL bl row)[j]] := List.take_succ_eq_append_getElem hjl
        have hE : acc ++ ((backsL bl row).take (j + 1)).map (fun b => sortP (movL m 1 (-b) row)) = (acc ++ ((backsL bl row).take j).map fun b => sortP (movL m 1 (-b) row)) ++ [sortP (movL m 1 (-(backsL bl row)[j]) row)] := by rw [htj, List.map_append, List.append_assoc]; rfl
        rw [hE]
        have hal : (acc ++ ((backsL bl row).take j).map fun b => sortP (movL m 1 (-b) row)).length ≤ 30 := by rw [List.length_append, List.length_map, List.length_take]; omega
        generalize acc ++ ((backsL bl row).take j).map (fun b => sortP (movL m 1 (-b) row)) = acc2 at *
        generalize (backsL bl row)[j] = b at *
        walk_at "vc"
        refine wl_compP (fun _ _ => true) (fun _ => movD m 1 (-b)) ?_
        walk_at "vc"
        refine ⟨rfl, fits_of (by rw [List.length_map]; omega), fun d hd => ?_, ?_⟩
        · obtain ⟨x, hx, rfl⟩ := List.mem_map.mp hd
          unfold pD
          walk_at "vc"
          refine ⟨rfl, ?_⟩
          walk_at "vc"
          refine ⟨?_, rfl⟩
          show PyData.tuple [.str x.1, .int ((x.2 - b) % m)] = .tuple [.str x.1, .int ((1 * x.2 + -b) % m)]
          rw [Int.one_mul, Int.sub_eq_add_neg]
        rw [filter_yes, movD_pic]
        walk_at "vc"
        refine wo_sortedP ?_
        walk_at "vc"
        exact ⟨_, _, by rw [List.map_append]; rfl⟩
      · rintro e ⟨x9, x10, rfl⟩
        rw [List.length_map, List.take_length]
        exact ⟨_, _, _, _, rfl⟩
    · rintro e ⟨x7, x8, x9, x10, rfl⟩
      rw [List.length_map, List.take_length]
      exact ⟨_, _, _, _, rfl⟩
  rintro e ⟨x7, x8, x9, x10, rfl⟩
  walk_at "vc"
  refine wo_minP hne fun L hL => ?_
  walk_at "vc"
  exact q L _ _ hL

theorem wo_eqN {L K : List Pc} {Q : D → Prop} (hL : PcOk L) (hK : PcOk K) (q : Q (.bool (decide (L = K)))) : WO (gEq (lpD L) (lpD K)) Q := by
  refine wo_eqD (shp_lpD hL) (shp_lpD hK) ?_
  rw [eqv_lpD]
  exact q
section
variable {m t u : Int} {hs : List Hd} {bl mir : Bool}
theorem lpicture_h {Q : List D → List Sl → Prop} (hm : 0 < m) (hm2 : m ≤ 10 ^ 60) (hn : hs.length ≤ 5) (hk : HandsOk m hs) (ht : t.natAbs < 10 ^ 120) (q : ∀ x y, Q ((sortP (picL m hs t)).map pD) [x, y]) :
    WH g__law_picture [.val (clockD m hs bl mir), .val (.int t)] Q := by
  refine wh_new rfl ?_
  unfold b__law_picture
  walk_at "vc"
  refine wl_compP (fun _ _ => true) (fun _ => picD m t) ?_
  walk_at "vc"
  refine ⟨rfl, fits_of (by rw [List.length_map]; omega), fun d hd => ?_, ?_⟩
  · obtain ⟨x, hx, rfl⟩ := List.mem_map.mp hd
    obtain ⟨a0, a1, b0, b1, _⟩ := hk x hx
    unfold hD
    walk_at "vc"
    refine ⟨rfl, ?_⟩
    walk_at "vc"
    exact ⟨rfl, rfl⟩
  · rw [filter_yes, picD_hands]
    walk_at "vc"
    refine wo_sortedP ?_
    walk_at "vc"
    exact q _ _
theorem pic_len (m t : Int) (hs : List Hd) : (sortP (picL m hs t)).length = hs.length := by rw [(sortP_perm _).length_eq]; exact List.length_map ..
theorem lsame_w {Q : D → List Sl → Prop} (hm : 1 < m) (hm2 : m ≤ 10 ^ 60) (h1 : 1 ≤ hs.length) (hn : hs.length ≤ 5) (hk : HandsOk m hs) (ht : t.natAbs < 10 ^ 120) (hu : u.natAbs < 10 ^ 120) (q : ∀ x y z, Q (.bool (showB m hs bl mir t u)) [x, y, z]) :
    WG g__law_same [.val (clockD m hs bl mir), .val (.int t), .val (.int u)] Q := by
  have hp : ∀ t, sortP (picL m hs t) ≠ [] ∧ (sortP (picL m hs t)).length ≤ 5 := fun t => by
    have := pic_len m t hs
    exact ⟨fun e => by rw [e, List.length_nil] at this; omega, by omega⟩
  refine wg_run rfl ?_
  unfold b__law_same
  walk_at "vc"
  refine wl_compU [.int t, .int u] ?_
  walk_at "vc"
  refine ⟨rfl, rfl, rfl, ?_⟩
  walk_at "vc"
  refine lpicture_h (by omega) hm2 hn hk ht fun _ _ => ?_
  walk_at "vc"
  refine normal_w (by omega) (hp t).1 (hp t).2 fun L _ _ hL => ?_
  walk_at "vc"
  refine lpicture_h (by omega) hm2 hn hk hu fun _ _ => ?_
  walk_at "vc"
  refine normal_w (by omega) (hp u).1 (hp u).2 fun K _ _ hK => ?_
  walk_at "vc"
  refine wo_eqN (NormAt.ok hk hL) (NormAt.ok hk hK) ?_
  have e : decide (L = K) = showB m hs bl mir t u := by
    rw [Bool.eq_iff_iff, decide_eq_true_iff, showB_iff]
    exact NormAt.eq (show 0 < m by omega) hL hK
  rw [e]
  exact q _ _ _
theorem other_w {a : Int} {Q : D → List Sl → Prop} {P : List Pc} (hm : 1 < m) (hm2 : m ≤ 10 ^ 60) (hPl : P.length ≤ 5) (hPm : InM m P) (q : ∀ (sg r a' : Int) x y, SgOk mir sg → (bl = false → r = 0) → Q (.list ((movL m sg r P.reverse).map pD)) [x, y, .own false [.int a']]) :
    WG g__law_other_picture [.val (clockD m hs bl mir), .ro (P.map pD), .own false [.int a]] Q := by
  refine wg_run rfl ?_
  unfold b__law_other_picture
  walk_at "nr"
  refine ws_mid (fun e => e = [.val (clockD m hs bl mir), .ro (P.map pD), .own false [.int a], .val (.int m), .val (.tuple (hs.map hD)), .val (.bool bl), .val (.bool mir), .no, .no, .no, .no]) (by walk_at "vc"; rfl) ?_
  rintro _ rfl
  refine ws_mid (fun e => ∃ a sg : Int, SgOk mir sg ∧ e = [.val (clockD m hs bl mir), .ro (P.map pD), .own false [.int a], .val (.int m), .val (.tuple (hs.map hD)), .val (.bool bl), .val (.bool mir), .val (.int sg), .no, .no, .no]) ?_ ?_
  · cases mir with
    | false =>
      walk_at "vc"
      refine take_w (by decide) (by decide) fun r _ _ r0 r1 => ?_
      walk_at "vc"
      exact ⟨_, 1 - 2 * r, .inl (by simp at r1; omega), rfl⟩
    | true =>
      walk_at "vc"
      refine take_w (by decide) (by decide) fun r _ _ r0 r1 => ?_
      walk_at "vc"
      refine ⟨_, 1 - 2 * r, ?_, rfl⟩
      have : r = 0 ∨ r = 1 := by simp at r1; omega
      rcases this with rfl | rfl
      · exact .inl (by omega)
      · exact .inr ⟨rfl, by omega⟩
  rintro _ ⟨a, sg, hsg, rfl⟩
  have hsn : sg.natAbs ≤ 1 := by rcases hsg with rfl | ⟨_, rfl⟩ <;> decide
  refine ws_mid (fun e => ∃ a r : Int, (bl = false → r = 0) ∧ (0 ≤ r ∧ r < m) ∧ e = [.val (clockD m hs bl mir), .ro (P.map pD), .own false [.int a], .val (.int m), .val (.tuple (hs.map hD)), .val (.bool bl), .val (.bool mir), .val (.int sg), .val (.int r), .no, .no]) ?_ ?_
  · walk_at "vc"
    refine take_w (by omega) (by omega) fun r _ _ r0 r1 => ?_
    cases bl with
    | false =>
      walk_at "vc"
      exact ⟨_, r * 0, fun _ => by omega, by omega, rfl⟩
    | true =>
      walk_at "vc"
      exact ⟨_, r * 1, fun e => (by cases e), by omega, rfl⟩
  rintro _ ⟨a, r, hr, ⟨r0, r1⟩, rfl⟩
  walk_at "vc"
  refine wl_compP (fun _ _ => true) (fun _ => mvD m sg r) ?_
  walk_at "vc"
  refine wl_revO ?_
  walk_at "vc"
  refine ⟨_, rfl, ?_⟩
  walk_at "vc"
  refine ⟨rfl, fits_of (by rw [List.length_reverse, List.length_map]; omega), fun d hd => ?_, ?_⟩
  · rw [List.mem_reverse] at hd
    obtain ⟨p, hp, rfl⟩ := List.mem_map.mp hd
    obtain ⟨x, k⟩ := p
    have hkm := hPm _ hp
    rw [show pD (x, k) = .tuple [.str x, .int k] from rfl]
    walk_at "vc"
    refine ⟨rfl, ?_⟩
    walk_at "vc"
    exact ⟨rfl, rfl⟩
  rw [filter_yes, ← List.map_reverse, mvD_list]
  walk_at "vc"
  exact q sg r _ _ _ hsg hr
end

end Lw

namespace Lw
open PySem PySem.Spec PyProof.Rows L2 M
local macro_rules | `(tactic| walk_at "sd") => `(tactic| (first | (with_reducible assumption) | omega | (simp; done) | (simp; omega) | decide))
local macro_rules | `(tactic| walk_at "v1") => `(tactic| (first | ((with_reducible show WE _ _ _); first | with_reducible refine we_callN ?_ | with_reducible refine we_c ?_ | with_reducible refine we_un ?_ | with_reducible refine we_bin ?_ | with_reducible refine we_chain ?_ | with_reducible refine we_and ?_ | with_reducible refine we_or ?_ | with_reducible refine we_not ?_ | with_reducible refine we_if ?_ | with_reducible refine we_fz ?_ | with_reducible refine we_tup ?_ | with_reducible refine we_sl ?_ | with_reducible refine we_tupRg ?_ | with_reducible refine we_bor ?_ | with_reducible refine we_call ?_ | with_reducible refine we_din ?_ | with_reducible refine we_borL ?_ | ((with_reducible apply we_v); (· rfl)) | ((with_reducible show WE (eO _) _ _); first | ((with_reducible apply we_oV); (· rfl)) | ((with_reducible apply we_oW); (· rfl)) | ((with_reducible apply we_oR); (· rfl))) | ((with_reducible show WE (eBinV _ _ _) _ _); first | ((with_reducible apply we_bV); (· rfl)) | ((with_reducible apply we_bVr); (· rfl)) | ((with_reducible apply we_bVv); (· rfl))) | ((with_reducible apply we_mut); (· rfl)) | ((with_reducible apply we_mut0); (· rfl)) | ((with_reducible apply we_dget2); (· rfl)) | ((with_reducible apply we_didx); (· rfl))) | ((with_reducible show WO _ _); first | ((with_reducible show WO (gIsO _ _) _); first | with_reducible refine wo_isON ?_ | ((with_reducible refine wo_isO (b := true) ?_ ?_); (· rfl)) | ((with_reducible refine wo_isO (b := false) ?_ ?_); (· rfl))) | with_reducible refine wo_attr ?_ | ((with_reducible show WO (valsA _) _); first | with_reducible refine vals_nil ?_ | with_reducible refine vals_v ?_) | with_reducible refine wo_isB ?_ | with_reducible refine wo_ntB ?_ | ((with_reducible show WO (backAr _ _ _) _); first | with_reducible refine back_nil ?_ | with_reducible refine back_v ?_ | with_reducible refine back_o ?_ | ((with_reducible apply back_r); (· rfl))) | ((with_reducible show WO (resArs _ _) _); first | with_reducible refine res_nil ?_ | with_reducible refine res_v ?_ | ((with_reducible apply res_r); (· rfl)) | ((with_reducible apply res_oO); (· rfl)) | ((with_reducible apply res_oR); (· rfl)) | ((with_reducible apply res_oV); (· rfl))) | ((with_reducible show WO (gAdd _ _) _); first | with_reducible refine wo_add ?_ | ((with_reducible refine wo_addL ?_ ?_); (· first | rfl | (apply fits_of; first | omega | (simp; omega)))) | ((with_reducible refine wo_addT ?_ ?_); (· first | rfl | (apply fits_of; first | omega | (simp; omega))))) | with_reducible refine wo_sub ?_ | with_reducible refine wo_neg ?_ | with_reducible refine wo_lt ?_ | with_reducible refine wo_le ?_ | with_reducible refine wo_gt ?_ | with_reducible refine wo_ge ?_ | ((with_reducible show WO (gEq _ _) _); first | with_reducible refine wo_eq ?_ | with_reducible refine wo_eqB ?_ | ((with_reducible refine wo_eqT ?_ ?_); (· decide +kernel)) | ((with_reducible refine wo_eqF ?_ ?_); (· decide +kernel))) | ((with_reducible show WO (gNe _ _) _); first | with_reducible refine wo_ne ?_ | with_reducible refine wo_neB ?_ | ((with_reducible refine wo_neT ?_ ?_); (· decide +kernel)) | ((with_reducible refine wo_neF ?_ ?_); (· decide +kernel))) | with_reducible refine wo_isN ?_ | with_reducible refine wo_ntN ?_ | ((with_reducible show WO (gLen _) _); first | with_reducible refine wo_lenL ?_ | with_reducible refine wo_lenT ?_) | with_reducible refine wo_abs ?_ | ((with_reducible show WO (gInt _) _); first | with_reducible refine wo_intB ?_ | with_reducible refine wo_intI ?_) | ((with_reducible show WO (gList _) _); first | with_reducible refine wo_listL ?_ | with_reducible refine wo_listT ?_) | ((with_reducible show WO (gTuple _) _); first | with_reducible refine wo_tupL ?_ | with_reducible refine wo_tupT ?_) | with_reducible refine wo_max ?_ | with_reducible refine wo_min ?_ | ((with_reducible show WO (gIsi _ _) _); first | with_reducible refine wo_isiI ?_ | with_reducible refine wo_isiB ?_ | ((with_reducible apply wo_isiE); (· rfl))) | ((with_reducible show WO (cutOf _ _ _) _); first | with_reducible refine wo_cutL ?_ | with_reducible refine wo_cutT ?_) | ((with_reducible show WO (gPow _ _) _); first | with_reducible refine wo_p10_60 ?_ | with_reducible refine wo_p10_18 ?_ | with_reducible refine wo_p10_30 ?_ | with_reducible refine wo_p2_24 ?_ | with_reducible refine wo_p10_8 ?_ | with_reducible refine wo_p10_19 ?_ | with_reducible refine wo_p10_55 ?_ | with_reducible refine wo_p10_59 ?_ | with_reducible refine wo_p3_30 ?_ | with_reducible refine wo_p2_40 ?_ | with_reducible refine wo_p10_54 ?_ | with_reducible refine wo_p3_13 ?_ | with_reducible refine wo_p2_20 ?_ | with_reducible refine wo_p10_57 ?_ | with_reducible refine wo_p10_40 ?_ | with_reducible refine wo_p10_61 ?_ | with_reducible refine wo_p10_50 ?_) | ((with_reducible apply wo_idxE); (· rfl)) | ((with_reducible apply wo_allE); (· rfl)) | ((with_reducible apply wo_anyE); (· rfl)) | ((with_reducible show WO (ixN _ _) _); first | ((with_reducible apply wo_ixE); (· rfl)) | ((with_reducible refine wo_ix ?_ ?_ ?_); (· walk_at "sd"); (· walk_at "sd"))) | ((with_reducible refine wo_mod ?_ ?_); (· walk_at "sd")) | ((with_reducible refine wo_div ?_ ?_ ?_); (· walk_at "sd"); (· walk_at "sd")) | ((with_reducible refine wo_mul ?_ ?_); (· first | exact mul_ok1 (by walk_at "sd") | exact mul_ok2 (by walk_at "sd") | exact mul_ok3 (by omega) (by omega))) | ((with_reducible refine wo_app ?_ ?_); (· first | rfl | (apply fits_of; first | omega | (simp; omega)))) | ((with_reducible refine wo_ext ?_ ?_); (· first | rfl | (apply fits_of; first | omega | (simp; omega))))) | ((with_reducible show WS _ _ _); first | with_reducible refine ws_try ?_ | with_reducible refine ws_retT ?_ | with_reducible refine ws_seq ?_ | with_reducible refine ws_expr ?_ | with_reducible refine ws_ret ?_ | with_reducible refine ws_retL ?_ | with_reducible refine ws_if ?_ | with_reducible refine ws_set ?_ | with_reducible refine ws_setO ?_ | with_reducible refine ws_asg ?_ | with_reducible refine ws_par ?_ | with_reducible refine ws_nil ?_ | with_reducible refine ws_retN ?_ | with_reducible refine ws_dput ?_ | with_reducible refine ws_dnew ?_ | ((with_reducible show WS (sFrz _ _) _ _); first | ((with_reducible apply ws_frz); (· rfl)) | ((with_reducible apply ws_frzV); (· rfl))) | ((with_reducible apply ws_retO); (· rfl)) | ((with_reducible apply ws_putI); (· rfl))) | ((with_reducible apply nrm_); (· (try simp only [wipeE, backE, List.set_cons_zero, List.set_cons_succ, List.getElem?_cons_zero, List.getElem?_cons_succ, List.cons_append, List.nil_append, List.replicate_succ, List.replicate_zero, Nat.reduceSub, unowns_nil, unowns_cons, unown_own, unown_val, unown_no, unown_ro, unown_dct]); rfl)) | ((with_reducible show IfB _ _ _); first | with_reducible refine ifb_not ?_ | with_reducible refine ifb_t ?_ | with_reducible refine ifb_f ?_ | ((with_reducible refine ifb_decT ?_ ?_); (· first | (with_reducible assumption) | omega | (simp only [List.length_cons, List.length_nil]; omega))) | ((with_reducible refine ifb_decF ?_ ?_); (· first | (with_reducible assumption) | omega | (simp only [List.length_cons, List.length_nil]; omega))) | with_reducible refine ifb_dec (fun _ => ?_) (fun _ => ?_) | ((with_reducible apply ifb_eT); (· rfl)) | ((with_reducible apply ifb_eF); (· rfl))) | ((with_reducible show WB _ _ _); first | with_reducible refine wb_bor ?_ | with_reducible refine wb_v ?_ | with_reducible refine wb_and ?_ | with_reducible refine wb_or ?_ | with_reducible refine wb_not ?_ | with_reducible refine wb_yes ?_) | with_reducible refine isb ?_ | ((with_reducible show WL _ _ _); first | with_reducible refine wl_nil ?_ | with_reducible refine wl_cons ?_ | with_reducible refine wl_lst ?_ | with_reducible refine wl_un ?_ | with_reducible refine wl_it ?_ | with_reducible refine wl_rng1 ?_ | with_reducible refine wl_rng2 ?_ | with_reducible refine wl_enum ?_ | with_reducible refine wl_enumA ?_ | with_reducible refine wl_addE ?_ | with_reducible refine wl_rg1 ?_ | with_reducible refine wl_bor ?_ | with_reducible refine wl_call ?_ | ((with_reducible apply wl_addO); (· rfl)) | ((with_reducible show WL (lSlV _ _ _) _ _); first | ((with_reducible apply wl_slO); (· rfl)) | ((with_reducible apply wl_slR); (· rfl)))) | ((with_reducible show WA _ _ _); first | with_reducible refine wa_nil ?_ | with_reducible refine wa_v ?_ | ((with_reducible apply wa_r); (· rfl)) | ((with_reducible show WA (aO _ _) _ _); first | ((with_reducible apply wa_oR); (· rfl)) | ((with_reducible apply wa_oO); (· rfl)) | ((with_reducible apply wa_oV); (· rfl)))) | ((with_reducible show IsS _ _); first | with_reducible refine iss_l ?_ | with_reducible refine iss_t ?_) | ((with_reducible refine fit_ ?_ ?_); (· first | rfl | (apply fits_of; first | omega | (simp; omega)))) | ((with_reducible show CallG _ _ _ _); first | ((with_reducible apply cg0); (· rfl)) | ((with_reducible apply cg1); (· rfl); (· rfl))) | ((with_reducible show WT _ _ _ _); first | with_reducible refine wt_n ?_ | ((with_reducible apply wt_t); (· rfl)) | ((with_reducible apply wt_unl); (· rfl))) | ((with_reducible show WTs _ _ _ _); first | with_reducible refine wts_nil ?_ | with_reducible refine wts_cons ?_) | ((with_reducible apply own_); (· rfl)) | ((with_reducible refine sml_ ?_ ?_ ?_); (· walk_at "sd"); (· walk_at "sd")) | with_reducible refine isi_ ?_ | ((with_reducible show WSX _ _ _); first | with_reducible refine wsx_lift ?_ | with_reducible refine wsx_seq ?_ | with_reducible refine wsx_if ?_ | with_reducible refine wsx_raise0 ?_ | with_reducible refine wsx_expr ?_ | with_reducible refine wsx_ret ?_ | with_reducible refine wsx_set ?_) | with_reducible refine wex_call ?_ | ((with_reducible show WPu _ _ _ _); first | with_reducible refine wpu_nil ?_ | with_reducible refine wpu_seq ?_ | with_reducible refine wpu_ret ?_ | with_reducible refine wpu_if ?_) | ((with_reducible show WTd _ _ _ _ _); first | with_reducible refine wtd_P ?_ | with_reducible refine wtd_G ?_ | with_reducible refine wtd_If ?_ | ((with_reducible refine wtd_K ?_ ?_); (· exact ⟨rfl, by decide⟩)) | ((with_reducible refine wtd_U ?_ ?_); (· exact ⟨rfl, by decide⟩)) | ((with_reducible refine wtd_C ?_ ?_); (· rfl)) | ((with_reducible refine wtd_A ?_ ?_ ?_); (· rfl); (· first | rfl | (apply fits_of; first | omega | (simp; omega))))) | with_reducible refine two_ ?_ | ((with_reducible show WC _ _ _ _ _ _ _); first | with_reducible refine wc_nil ?_ | with_reducible refine wc_cons ?_) | ((with_reducible show WP _ _ _); first | with_reducible refine wp_no ?_ | with_reducible refine wp_e ?_) | with_reducible refine isl ?_ | ((with_reducible show RetT _ _ _); first | ((with_reducible apply retT1); (· rfl)) | ((with_reducible apply retT2); (· rfl))) | ((with_reducible show Any _ _); first | ((with_reducible apply any_o); (· rfl)) | ((with_reducible apply any_r); (· rfl))) | ((with_reducible show CallH _ _ _ _); first | ((with_reducible apply ch0); (· rfl)) | ((with_reducible apply ch1); (· rfl); (· rfl))) | ((with_reducible apply cgx0); (· rfl))))
local macro_rules | `(tactic| walk_at "v2") => `(tactic| (first | ((with_reducible show WE _ _ _); first | with_reducible refine we_callN ?_ | with_reducible refine we_c ?_ | with_reducible refine we_un ?_ | with_reducible refine we_bin ?_ | with_reducible refine we_chain ?_ | with_reducible refine we_and ?_ | with_reducible refine we_or ?_ | with_reducible refine we_not ?_ | with_reducible refine we_if ?_ | with_reducible refine we_fz ?_ | with_reducible refine we_tup ?_ | with_reducible refine we_sl ?_ | with_reducible refine we_tupRg ?_ | with_reducible refine we_bor ?_ | with_reducible refine we_call ?_ | with_reducible refine we_din ?_ | with_reducible refine we_borL ?_ | ((with_reducible apply we_v); (· rfl)) | ((with_reducible show WE (eO _) _ _); first | ((with_reducible apply we_oV); (· rfl)) | ((with_reducible apply we_oW); (· rfl)) | ((with_reducible apply we_oR); (· rfl))) | ((with_reducible show WE (eBinV _ _ _) _ _); first | ((with_reducible apply we_bV); (· rfl)) | ((with_reducible apply we_bVr); (· rfl)) | ((with_reducible apply we_bVv); (· rfl))) | ((with_reducible apply we_mut); (· rfl)) | ((with_reducible apply we_mut0); (· rfl)) | ((with_reducible apply we_dget2); (· rfl)) | ((with_reducible apply we_didx); (· rfl))) | ((with_reducible show WO _ _); first | ((with_reducible show WO (gIsO _ _) _); first | with_reducible refine wo_isON ?_ | ((with_reducible refine wo_isO (b := true) ?_ ?_); (· rfl)) | ((with_reducible refine wo_isO (b := false) ?_ ?_); (· rfl))) | with_reducible refine wo_attr ?_ | ((with_reducible show WO (valsA _) _); first | with_reducible refine vals_nil ?_ | with_reducible refine vals_v ?_) | with_reducible refine wo_isB ?_ | with_reducible refine wo_ntB ?_ | ((with_reducible show WO (backAr _ _ _) _); first | with_reducible refine back_nil ?_ | with_reducible refine back_v ?_ | with_reducible refine back_o ?_ | ((with_reducible apply back_r); (· rfl))) | ((with_reducible show WO (resArs _ _) _); first | with_reducible refine res_nil ?_ | with_reducible refine res_v ?_ | ((with_reducible apply res_r); (· rfl)) | ((with_reducible apply res_oO); (· rfl)) | ((with_reducible apply res_oR); (· rfl)) | ((with_reducible apply res_oV); (· rfl))) | ((with_reducible show WO (gAdd _ _) _); first | with_reducible refine wo_add ?_ | ((with_reducible refine wo_addL ?_ ?_); (· first | rfl | (apply fits_of; first | omega | (simp; omega)))) | ((with_reducible refine wo_addT ?_ ?_); (· first | rfl | (apply fits_of; first | omega | (simp; omega))))) | with_reducible refine wo_sub ?_ | with_reducible refine wo_neg ?_ | with_reducible refine wo_lt ?_ | with_reducible refine wo_le ?_ | with_reducible refine wo_gt ?_ | with_reducible refine wo_ge ?_ | ((with_reducible show WO (gEq _ _) _); first | with_reducible refine wo_eq ?_ | with_reducible refine wo_eqB ?_ | ((with_reducible refine wo_eqT ?_ ?_); (· decide +kernel)) | ((with_reducible refine wo_eqF ?_ ?_); (· decide +kernel))) | ((with_reducible show WO (gNe _ _) _); first | with_reducible refine wo_ne ?_ | with_reducible refine wo_neB ?_ | ((with_reducible refine wo_neT ?_ ?_); (· decide +kernel)) | ((with_reducible refine wo_neF ?_ ?_); (· decide +kernel))) | with_reducible refine wo_isN ?_ | with_reducible refine wo_ntN ?_ | ((with_reducible show WO (gLen _) _); first | with_reducible refine wo_lenL ?_ | with_reducible refine wo_lenT ?_) | with_reducible refine wo_abs ?_ | ((with_reducible show WO (gInt _) _); first | with_reducible refine wo_intB ?_ | with_reducible refine wo_intI ?_) | ((with_reducible show WO (gList _) _); first | with_reducible refine wo_listL ?_ | with_reducible refine wo_listT ?_) | ((with_reducible show WO (gTuple _) _); first | with_reducible refine wo_tupL ?_ | with_reducible refine wo_tupT ?_) | with_reducible refine wo_max ?_ | with_reducible refine wo_min ?_ | ((with_reducible show WO (gIsi _ _) _); first | with_reducible refine wo_isiI ?_ | with_reducible refine wo_isiB ?_ | ((with_reducible apply wo_isiE); (· rfl))) | ((with_reducible show WO (cutOf _ _ _) _); first | with_reducible refine wo_cutL ?_ | with_reducible refine wo_cutT ?_) | ((with_reducible show WO (gPow _ _) _); first | with_reducible refine wo_p10_60 ?_ | with_reducible refine wo_p10_18 ?_ | with_reducible refine wo_p10_30 ?_ | with_reducible refine wo_p2_24 ?_ | with_reducible refine wo_p10_8 ?_ | with_reducible refine wo_p10_19 ?_ | with_reducible refine wo_p10_55 ?_ | with_reducible refine wo_p10_59 ?_ | with_reducible refine wo_p3_30 ?_ | with_reducible refine wo_p2_40 ?_ | with_reducible refine wo_p10_54 ?_ | with_reducible refine wo_p3_13 ?_ | with_reducible refine wo_p2_20 ?_ | with_reducible refine wo_p10_57 ?_ | with_reducible refine wo_p10_40 ?_ | with_reducible refine wo_p10_61 ?_ | with_reducible refine wo_p10_50 ?_) | ((with_reducible apply wo_idxE); (· rfl)) | ((with_reducible apply wo_allE); (· rfl)) | ((with_reducible apply wo_anyE); (· rfl)) | ((with_reducible show WO (ixN _ _) _); first | ((with_reducible apply wo_ixE); (· rfl)) | ((with_reducible refine wo_ix ?_ ?_ ?_); (· walk_at "sd"); (· walk_at "sd"))) | ((with_reducible refine wo_mod ?_ ?_); (· walk_at "sd")) | ((with_reducible refine wo_div ?_ ?_ ?_); (· walk_at "sd"); (· walk_at "sd")) | ((with_reducible refine wo_mul ?_ ?_); (· first | exact mul_ok1 (by walk_at "sd") | exact mul_ok2 (by walk_at "sd") | exact mul_ok3 (by omega) (by omega))) | ((with_reducible refine wo_app ?_ ?_); (· first | rfl | (apply fits_of; first | omega | (simp; omega)))) | ((with_reducible refine wo_ext ?_ ?_); (· first | rfl | (apply fits_of; first | omega | (simp; omega))))) | ((with_reducible show WS _ _ _); first | with_reducible refine ws_try ?_ | with_reducible refine ws_retT ?_ | with_reducible refine ws_seq ?_ | with_reducible refine ws_expr ?_ | with_reducible refine ws_ret ?_ | with_reducible refine ws_retL ?_ | with_reducible refine ws_set ?_ | with_reducible refine ws_setO ?_ | with_reducible refine ws_asg ?_ | with_reducible refine ws_par ?_ | with_reducible refine ws_nil ?_ | with_reducible refine ws_retN ?_ | with_reducible refine ws_dput ?_ | with_reducible refine ws_dnew ?_ | ((with_reducible show WS (sFrz _ _) _ _); first | ((with_reducible apply ws_frz); (· rfl)) | ((with_reducible apply ws_frzV); (· rfl))) | ((with_reducible apply ws_retO); (· rfl)) | ((with_reducible apply ws_putI); (· rfl))) | ((with_reducible apply nrm_); (· (try simp only [wipeE, backE, List.set_cons_zero, List.set_cons_succ, List.getElem?_cons_zero, List.getElem?_cons_succ, List.cons_append, List.nil_append, List.replicate_succ, List.replicate_zero, Nat.reduceSub, unowns_nil, unowns_cons, unown_own, unown_val, unown_no, unown_ro, unown_dct]); rfl)) | ((with_reducible show IfB _ _ _); first | with_reducible refine ifb_not ?_ | with_reducible refine ifb_t ?_ | with_reducible refine ifb_f ?_ | ((with_reducible refine ifb_decT ?_ ?_); (· first | (with_reducible assumption) | omega | (simp only [List.length_cons, List.length_nil]; omega))) | ((with_reducible refine ifb_decF ?_ ?_); (· first | (with_reducible assumption) | omega | (simp only [List.length_cons, List.length_nil]; omega))) | with_reducible refine ifb_dec (fun _ => ?_) (fun _ => ?_) | ((with_reducible apply ifb_eT); (· rfl)) | ((with_reducible apply ifb_eF); (· rfl))) | ((with_reducible show WB _ _ _); first | with_reducible refine wb_bor ?_ | with_reducible refine wb_v ?_ | with_reducible refine wb_and ?_ | with_reducible refine wb_or ?_ | with_reducible refine wb_not ?_ | with_reducible refine wb_yes ?_) | with_reducible refine isb ?_ | ((with_reducible show WL _ _ _); first | with_reducible refine wl_nil ?_ | with_reducible refine wl_cons ?_ | with_reducible refine wl_lst ?_ | with_reducible refine wl_un ?_ | with_reducible refine wl_it ?_ | with_reducible refine wl_rng1 ?_ | with_reducible refine wl_rng2 ?_ | with_reducible refine wl_enum ?_ | with_reducible refine wl_enumA ?_ | with_reducible refine wl_addE ?_ | with_reducible refine wl_rg1 ?_ | with_reducible refine wl_bor ?_ | with_reducible refine wl_call ?_ | ((with_reducible apply wl_addO); (· rfl)) | ((with_reducible show WL (lSlV _ _ _) _ _); first | ((with_reducible apply wl_slO); (· rfl)) | ((with_reducible apply wl_slR); (· rfl)))) | ((with_reducible show WA _ _ _); first | with_reducible refine wa_nil ?_ | with_reducible refine wa_v ?_ | ((with_reducible apply wa_r); (· rfl)) | ((with_reducible show WA (aO _ _) _ _); first | ((with_reducible apply wa_oR); (· rfl)) | ((with_reducible apply wa_oO); (· rfl)) | ((with_reducible apply wa_oV); (· rfl)))) | ((with_reducible show IsS _ _); first | with_reducible refine iss_l ?_ | with_reducible refine iss_t ?_) | ((with_reducible refine fit_ ?_ ?_); (· first | rfl | (apply fits_of; first | omega | (simp; omega)))) | ((with_reducible show CallG _ _ _ _); first | ((with_reducible apply cg0); (· rfl)) | ((with_reducible apply cg1); (· rfl); (· rfl))) | ((with_reducible show WT _ _ _ _); first | with_reducible refine wt_n ?_ | ((with_reducible apply wt_t); (· rfl)) | ((with_reducible apply wt_unl); (· rfl))) | ((with_reducible show WTs _ _ _ _); first | with_reducible refine wts_nil ?_ | with_reducible refine wts_cons ?_) | ((with_reducible apply own_); (· rfl)) | ((with_reducible refine sml_ ?_ ?_ ?_); (· walk_at "sd"); (· walk_at "sd")) | with_reducible refine isi_ ?_ | ((with_reducible show WSX _ _ _); first | with_reducible refine wsx_lift ?_ | with_reducible refine wsx_seq ?_ | with_reducible refine wsx_if ?_ | with_reducible refine wsx_raise0 ?_ | with_reducible refine wsx_expr ?_ | with_reducible refine wsx_ret ?_ | with_reducible refine wsx_set ?_) | with_reducible refine wex_call ?_ | ((with_reducible show WPu _ _ _ _); first | with_reducible refine wpu_nil ?_ | with_reducible refine wpu_seq ?_ | with_reducible refine wpu_ret ?_ | with_reducible refine wpu_if ?_) | ((with_reducible show WTd _ _ _ _ _); first | with_reducible refine wtd_P ?_ | with_reducible refine wtd_G ?_ | with_reducible refine wtd_If ?_ | ((with_reducible refine wtd_K ?_ ?_); (· exact ⟨rfl, by decide⟩)) | ((with_reducible refine wtd_U ?_ ?_); (· exact ⟨rfl, by decide⟩)) | ((with_reducible refine wtd_C ?_ ?_); (· rfl)) | ((with_reducible refine wtd_A ?_ ?_ ?_); (· rfl); (· first | rfl | (apply fits_of; first | omega | (simp; omega))))) | with_reducible refine two_ ?_ | ((with_reducible show WC _ _ _ _ _ _ _); first | with_reducible refine wc_nil ?_ | with_reducible refine wc_cons ?_) | ((with_reducible show WP _ _ _); first | with_reducible refine wp_no ?_ | with_reducible refine wp_e ?_) | with_reducible refine isl ?_ | ((with_reducible show RetT _ _ _); first | ((with_reducible apply retT1); (· rfl)) | ((with_reducible apply retT2); (· rfl))) | ((with_reducible show Any _ _); first | ((with_reducible apply any_o); (· rfl)) | ((with_reducible apply any_r); (· rfl))) | ((with_reducible show CallH _ _ _ _); first | ((with_reducible apply ch0); (· rfl)) | ((with_reducible apply ch1); (· rfl); (· rfl))) | ((with_reducible apply cgx0); (· rfl))))
local macro_rules | `(tactic| walk_at "vc") => `(tactic| (repeat' first | ((with_reducible show WE _ _ _); first | with_reducible refine we_callN ?_ | with_reducible refine we_c ?_ | with_reducible refine we_un ?_ | with_reducible refine we_bin ?_ | with_reducible refine we_chain ?_ | with_reducible refine we_and ?_ | with_reducible refine we_or ?_ | with_reducible refine we_not ?_ | with_reducible refine we_if ?_ | with_reducible refine we_fz ?_ | with_reducible refine we_tup ?_ | with_reducible refine we_sl ?_ | with_reducible refine we_tupRg ?_ | with_reducible refine we_bor ?_ | with_reducible refine we_call ?_ | with_reducible refine we_din ?_ | with_reducible refine we_borL ?_ | ((with_reducible apply we_v); (· rfl)) | ((with_reducible show WE (eO _) _ _); first | ((with_reducible apply we_oV); (· rfl)) | ((with_reducible apply we_oW); (· rfl)) | ((with_reducible apply we_oR); (· rfl))) | ((with_reducible show WE (eBinV _ _ _) _ _); first | ((with_reducible apply we_bV); (· rfl)) | ((with_reducible apply we_bVr); (· rfl)) | ((with_reducible apply we_bVv); (· rfl))) | ((with_reducible apply we_mut); (· rfl)) | ((with_reducible apply we_mut0); (· rfl)) | ((with_reducible apply we_dget2); (· rfl)) | ((with_reducible apply we_didx); (· rfl))) | ((with_reducible show WO _ _); first | ((with_reducible show WO (gIsO _ _) _); first | with_reducible refine wo_isON ?_ | ((with_reducible refine wo_isO (b := true) ?_ ?_); (· rfl)) | ((with_reducible refine wo_isO (b := false) ?_ ?_); (· rfl))) | with_reducible refine wo_attr ?_ | ((with_reducible show WO (valsA _) _); first | with_reducible refine vals_nil ?_ | with_reducible refine vals_v ?_) | with_reducible refine wo_isB ?_ | with_reducible refine wo_ntB ?_ | ((with_reducible show WO (backAr _ _ _) _); first | with_reducible refine back_nil ?_ | with_reducible refine back_v ?_ | with_reducible refine back_o ?_ | ((with_reducible apply back_r); (· rfl))) | ((with_reducible show WO (resArs _ _) _); first | with_reducible refine res_nil ?_ | with_reducible refine res_v ?_ | ((with_reducible apply res_r); (· rfl)) | ((with_reducible apply res_oO); (· rfl)) | ((with_reducible apply res_oR); (· rfl)) | ((with_reducible apply res_oV); (· rfl))) | ((with_reducible show WO (gAdd _ _) _); first | with_reducible refine wo_add ?_ | ((with_reducible refine wo_addL ?_ ?_); (· first | rfl | (apply fits_of; first | omega | (simp; omega)))) | ((with_reducible refine wo_addT ?_ ?_); (· first | rfl | (apply fits_of; first | omega | (simp; omega))))) | with_reducible refine wo_sub ?_ | with_reducible refine wo_neg ?_ | with_reducible refine wo_lt ?_ | with_reducible refine wo_le ?_ | with_reducible refine wo_gt ?_ | with_reducible refine wo_ge ?_ | ((with_reducible show WO (gEq _ _) _); first | with_reducible refine wo_eq ?_ | with_reducible refine wo_eqB ?_ | ((with_reducible refine wo_eqT ?_ ?_); (· decide +kernel)) | ((with_reducible refine wo_eqF ?_ ?_); (· decide +kernel))) | ((with_reducible show WO (gNe _ _) _); first | with_reducible refine wo_ne ?_ | with_reducible refine wo_neB ?_ | ((with_reducible refine wo_neT ?_ ?_); (· decide +kernel)) | ((with_reducible refine wo_neF ?_ ?_); (· decide +kernel))) | with_reducible refine wo_isN ?_ | with_reducible refine wo_ntN ?_ | ((with_reducible show WO (gLen _) _); first | with_reducible refine wo_lenL ?_ | with_reducible refine wo_lenT ?_) | with_reducible refine wo_abs ?_ | ((with_reducible show WO (gInt _) _); first | with_reducible refine wo_intB ?_ | with_reducible refine wo_intI ?_) | ((with_reducible show WO (gList _) _); first | with_reducible refine wo_listL ?_ | with_reducible refine wo_listT ?_) | ((with_reducible show WO (gTuple _) _); first | with_reducible refine wo_tupL ?_ | with_reducible refine wo_tupT ?_) | with_reducible refine wo_max ?_ | with_reducible refine wo_min ?_ | ((with_reducible show WO (gIsi _ _) _); first | with_reducible refine wo_isiI ?_ | with_reducible refine wo_isiB ?_ | ((with_reducible apply wo_isiE); (· rfl))) | ((with_reducible show WO (cutOf _ _ _) _); first | with_reducible refine wo_cutL ?_ | with_reducible refine wo_cutT ?_) | ((with_reducible show WO (gPow _ _) _); first | with_reducible refine wo_p10_60 ?_ | with_reducible refine wo_p10_18 ?_ | with_reducible refine wo_p10_30 ?_ | with_reducible refine wo_p2_24 ?_ | with_reducible refine wo_p10_8 ?_ | with_reducible refine wo_p10_19 ?_ | with_reducible refine wo_p10_55 ?_ | with_reducible refine wo_p10_59 ?_ | with_reducible refine wo_p3_30 ?_ | with_reducible refine wo_p2_40 ?_ | with_reducible refine wo_p10_54 ?_ | with_reducible refine wo_p3_13 ?_ | with_reducible refine wo_p2_20 ?_ | with_reducible refine wo_p10_57 ?_ | with_reducible refine wo_p10_40 ?_ | with_reducible refine wo_p10_61 ?_ | with_reducible refine wo_p10_50 ?_) | ((with_reducible apply wo_idxE); (· rfl)) | ((with_reducible apply wo_allE); (· rfl)) | ((with_reducible apply wo_anyE); (· rfl)) | ((with_reducible show WO (ixN _ _) _); first | ((with_reducible apply wo_ixE); (· rfl)) | ((with_reducible refine wo_ix ?_ ?_ ?_); (· walk_at "sd"); (· walk_at "sd"))) | ((with_reducible refine wo_mod ?_ ?_); (· walk_at "sd")) | ((with_reducible refine wo_div ?_ ?_ ?_); (· walk_at "sd"); (· walk_at "sd")) | ((with_reducible refine wo_mul ?_ ?_); (· first | exact mul_ok1 (by walk_at "sd") | exact mul_ok2 (by walk_at "sd") | exact mul_ok3 (by omega) (by omega))) | ((with_reducible refine wo_app ?_ ?_); (· first | rfl | (apply fits_of; first | omega | (simp; omega)))) | ((with_reducible refine wo_ext ?_ ?_); (· first | rfl | (apply fits_of; first | omega | (simp; omega))))) | ((with_reducible show WS _ _ _); first | with_reducible refine ws_try ?_ | with_reducible refine ws_retT ?_ | with_reducible refine ws_seq ?_ | with_reducible refine ws_expr ?_ | with_reducible refine ws_ret ?_ | with_reducible refine ws_retL ?_ | with_reducible refine ws_if ?_ | with_reducible refine ws_set ?_ | with_reducible refine ws_setO ?_ | with_reducible refine ws_asg ?_ | with_reducible refine ws_par ?_ | with_reducible refine ws_nil ?_ | with_reducible refine ws_retN ?_ | with_reducible refine ws_dput ?_ | with_reducible refine ws_dnew ?_ | ((with_reducible show WS (sFrz _ _) _ _); first | ((with_reducible apply ws_frz); (· rfl)) | ((with_reducible apply ws_frzV); (· rfl))) | ((with_reducible apply ws_retO); (· rfl)) | ((with_reducible apply ws_putI); (· rfl))) | ((with_reducible apply nrm_); (· (try simp only [wipeE, backE, List.set_cons_zero, List.set_cons_succ, List.getElem?_cons_zero, List.getElem?_cons_succ, List.cons_append, List.nil_append, List.replicate_succ, List.replicate_zero, Nat.reduceSub, unowns_nil, unowns_cons, unown_own, unown_val, unown_no, unown_ro, unown_dct]); rfl)) | ((with_reducible show IfB _ _ _); first | with_reducible refine ifb_not ?_ | with_reducible refine ifb_t ?_ | with_reducible refine ifb_f ?_ | ((with_reducible refine ifb_decT ?_ ?_); (· first | (with_reducible assumption) | omega | (simp only [List.length_cons, List.length_nil]; omega))) | ((with_reducible refine ifb_decF ?_ ?_); (· first | (with_reducible assumption) | omega | (simp only [List.length_cons, List.length_nil]; omega))) | with_reducible refine ifb_dec (fun _ => ?_) (fun _ => ?_) | ((with_reducible apply ifb_eT); (· rfl)) | ((with_reducible apply ifb_eF); (· rfl))) | ((with_reducible show WB _ _ _); first | with_reducible refine wb_bor ?_ | with_reducible refine wb_v ?_ | with_reducible refine wb_and ?_ | with_reducible refine wb_or ?_ | with_reducible refine wb_not ?_ | with_reducible refine wb_yes ?_) | with_reducible refine isb ?_ | ((with_reducible show WL _ _ _); first | with_reducible refine wl_nil ?_ | with_reducible refine wl_cons ?_ | with_reducible refine wl_lst ?_ | with_reducible refine wl_un ?_ | with_reducible refine wl_it ?_ | with_reducible refine wl_rng1 ?_ | with_reducible refine wl_rng2 ?_ | with_reducible refine wl_enum ?_ | with_reducible refine wl_enumA ?_ | with_reducible refine wl_addE ?_ | with_reducible refine wl_rg1 ?_ | with_reducible refine wl_bor ?_ | with_reducible refine wl_call ?_ | ((with_reducible apply wl_addO); (· rfl)) | ((with_reducible show WL (lSlV _ _ _) _ _); first | ((with_reducible apply wl_slO); (· rfl)) | ((with_reducible apply wl_slR); (· rfl)))) | ((with_reducible show WA _ _ _); first | with_reducible refine wa_nil ?_ | with_reducible refine wa_v ?_ | ((with_reducible apply wa_r); (· rfl)) | ((with_reducible show WA (aO _ _) _ _); first | ((with_reducible apply wa_oR); (· rfl)) | ((with_reducible apply wa_oO); (· rfl)) | ((with_reducible apply wa_oV); (· rfl)))) | ((with_reducible show IsS _ _); first | with_reducible refine iss_l ?_ | with_reducible refine iss_t ?_) | ((with_reducible refine fit_ ?_ ?_); (· first | rfl | (apply fits_of; first | omega | (simp; omega)))) | ((with_reducible show CallG _ _ _ _); first | ((with_reducible apply cg0); (· rfl)) | ((with_reducible apply cg1); (· rfl); (· rfl))) | ((with_reducible show WT _ _ _ _); first | with_reducible refine wt_n ?_ | ((with_reducible apply wt_t); (· rfl)) | ((with_reducible apply wt_unl); (· rfl))) | ((with_reducible show WTs _ _ _ _); first | with_reducible refine wts_nil ?_ | with_reducible refine wts_cons ?_) | ((with_reducible apply own_); (· rfl)) | ((with_reducible refine sml_ ?_ ?_ ?_); (· walk_at "sd"); (· walk_at "sd")) | with_reducible refine isi_ ?_ | ((with_reducible show WSX _ _ _); first | with_reducible refine wsx_lift ?_ | with_reducible refine wsx_seq ?_ | with_reducible refine wsx_if ?_ | with_reducible refine wsx_raise0 ?_ | with_reducible refine wsx_expr ?_ | with_reducible refine wsx_ret ?_ | with_reducible refine wsx_set ?_) | with_reducible refine wex_call ?_ | ((with_reducible show WPu _ _ _ _); first | with_reducible refine wpu_nil ?_ | with_reducible refine wpu_seq ?_ | with_reducible refine wpu_ret ?_ | with_reducible refine wpu_if ?_) | ((with_reducible show WTd _ _ _ _ _); first | with_reducible refine wtd_P ?_ | with_reducible refine wtd_G ?_ | with_reducible refine wtd_If ?_ | ((with_reducible refine wtd_K ?_ ?_); (· exact ⟨rfl, by decide⟩)) | ((with_reducible refine wtd_U ?_ ?_); (· exact ⟨rfl, by decide⟩)) | ((with_reducible refine wtd_C ?_ ?_); (· rfl)) | ((with_reducible refine wtd_A ?_ ?_ ?_); (· rfl); (· first | rfl | (apply fits_of; first | omega | (simp; omega))))) | with_reducible refine two_ ?_ | ((with_reducible show WC _ _ _ _ _ _ _); first | with_reducible refine wc_nil ?_ | with_reducible refine wc_cons ?_) | ((with_reducible show WP _ _ _); first | with_reducible refine wp_no ?_ | with_reducible refine wp_e ?_) | with_reducible refine isl ?_ | ((with_reducible show RetT _ _ _); first | ((with_reducible apply retT1); (· rfl)) | ((with_reducible apply retT2); (· rfl))) | ((with_reducible show Any _ _); first | ((with_reducible apply any_o); (· rfl)) | ((with_reducible apply any_r); (· rfl))) | ((with_reducible show CallH _ _ _ _); first | ((with_reducible apply ch0); (· rfl)) | ((with_reducible apply ch1); (· rfl); (· rfl))) | ((with_reducible apply cgx0); (· rfl))))
local macro_rules | `(tactic| walk_at "vd") => `(tactic| (repeat' first | ((with_reducible show WE _ _ _); first | with_reducible refine we_callN ?_ | with_reducible refine we_c ?_ | with_reducible refine we_un ?_ | with_reducible refine we_bin ?_ | with_reducible refine we_chain ?_ | with_reducible refine we_and ?_ | with_reducible refine we_or ?_ | with_reducible refine we_not ?_ | with_reducible refine we_if ?_ | with_reducible refine we_fz ?_ | with_reducible refine we_tup ?_ | with_reducible refine we_sl ?_ | with_reducible refine we_tupRg ?_ | with_reducible refine we_bor ?_ | with_reducible refine we_call ?_ | with_reducible refine we_din ?_ | with_reducible refine we_borL ?_ | ((with_reducible apply we_v); (· rfl)) | ((with_reducible show WE (eO _) _ _); first | ((with_reducible apply we_oV); (· rfl)) | ((with_reducible apply we_oW); (· rfl)) | ((with_reducible apply we_oR); (· rfl))) | ((with_reducible show WE (eBinV _ _ _) _ _); first | ((with_reducible apply we_bV); (· rfl)) | ((with_reducible apply we_bVr); (· rfl)) | ((with_reducible apply we_bVv); (· rfl))) | ((with_reducible apply we_mut); (· rfl)) | ((with_reducible apply we_mut0); (· rfl)) | ((with_reducible apply we_dget2); (· rfl)) | ((with_reducible apply we_didx); (· rfl))) | ((with_reducible show WO _ _); first | ((with_reducible show WO (gIsO _ _) _); first | with_reducible refine wo_isON ?_ | ((with_reducible refine wo_isO (b := true) ?_ ?_); (· rfl)) | ((with_reducible refine wo_isO (b := false) ?_ ?_); (· rfl))) | with_reducible refine wo_attr ?_ | ((with_reducible show WO (valsA _) _); first | with_reducible refine vals_nil ?_ | with_reducible refine vals_v ?_) | with_reducible refine wo_isB ?_ | with_reducible refine wo_ntB ?_ | ((with_reducible show WO (backAr _ _ _) _); first | with_reducible refine back_nil ?_ | with_reducible refine back_v ?_ | with_reducible refine back_o ?_ | ((with_reducible apply back_r); (· rfl))) | ((with_reducible show WO (resArs _ _) _); first | with_reducible refine res_nil ?_ | with_reducible refine res_v ?_ | ((with_reducible apply res_r); (· rfl)) | ((with_reducible apply res_oO); (· rfl)) | ((with_reducible apply res_oR); (· rfl)) | ((with_reducible apply res_oV); (· rfl))) | ((with_reducible show WO (gAdd _ _) _); first | with_reducible refine wo_add ?_ | ((with_reducible refine wo_addL ?_ ?_); (· first | rfl | (apply fits_of; first | omega | (simp; omega)))) | ((with_reducible refine wo_addT ?_ ?_); (· first | rfl | (apply fits_of; first | omega | (simp; omega))))) | with_reducible refine wo_sub ?_ | with_reducible refine wo_neg ?_ | with_reducible refine wo_lt ?_ | with_reducible refine wo_le ?_ | with_reducible refine wo_gt ?_ | with_reducible refine wo_ge ?_ | ((with_reducible show WO (gEq _ _) _); first | with_reducible refine wo_eq ?_ | with_reducible refine wo_eqB ?_ | ((with_reducible refine wo_eqT ?_ ?_); (· decide +kernel)) | ((with_reducible refine wo_eqF ?_ ?_); (· decide +kernel))) | ((with_reducible show WO (gNe _ _) _); first | with_reducible refine wo_ne ?_ | with_reducible refine wo_neB ?_ | ((with_reducible refine wo_neT ?_ ?_); (· decide +kernel)) | ((with_reducible refine wo_neF ?_ ?_); (· decide +kernel))) | with_reducible refine wo_isN ?_ | with_reducible refine wo_ntN ?_ | ((with_reducible show WO (gLen _) _); first | with_reducible refine wo_lenL ?_ | with_reducible refine wo_lenT ?_) | with_reducible refine wo_abs ?_ | ((with_reducible show WO (gInt _) _); first | with_reducible refine wo_intB ?_ | with_reducible refine wo_intI ?_) | ((with_reducible show WO (gList _) _); first | with_reducible refine wo_listL ?_ | with_reducible refine wo_listT ?_) | ((with_reducible show WO (gTuple _) _); first | with_reducible refine wo_tupL ?_ | with_reducible refine wo_tupT ?_) | with_reducible refine wo_max ?_ | with_reducible refine wo_min ?_ | ((with_reducible show WO (gIsi _ _) _); first | with_reducible refine wo_isiI ?_ | with_reducible refine wo_isiB ?_ | ((with_reducible apply wo_isiE); (· rfl))) | ((with_reducible show WO (cutOf _ _ _) _); first | with_reducible refine wo_cutL ?_ | with_reducible refine wo_cutT ?_) | ((with_reducible show WO (gPow _ _) _); first | with_reducible refine wo_p10_60 ?_ | with_reducible refine wo_p10_18 ?_ | with_reducible refine wo_p10_30 ?_ | with_reducible refine wo_p2_24 ?_ | with_reducible refine wo_p10_8 ?_ | with_reducible refine wo_p10_19 ?_ | with_reducible refine wo_p10_55 ?_ | with_reducible refine wo_p10_59 ?_ | with_reducible refine wo_p3_30 ?_ | with_reducible refine wo_p2_40 ?_ | with_reducible refine wo_p10_54 ?_ | with_reducible refine wo_p3_13 ?_ | with_reducible refine wo_p2_20 ?_ | with_reducible refine wo_p10_57 ?_ | with_reducible refine wo_p10_40 ?_ | with_reducible refine wo_p10_61 ?_ | with_reducible refine wo_p10_50 ?_) | ((with_reducible apply wo_idxE); (· rfl)) | ((with_reducible apply wo_allE); (· rfl)) | ((with_reducible apply wo_anyE); (· rfl)) | ((with_reducible show WO (ixN _ _) _); first | ((with_reducible apply wo_ixE); (· rfl)) | ((with_reducible refine wo_ix ?_ ?_ ?_); (· walk_at "sd"); (· walk_at "sd"))) | ((with_reducible refine wo_mod ?_ ?_); (· walk_at "sd")) | ((with_reducible refine wo_div ?_ ?_ ?_); (· walk_at "sd"); (· walk_at "sd")) | ((with_reducible refine wo_mul ?_ ?_); (· first | exact mul_ok1 (by walk_at "sd") | exact mul_ok2 (by walk_at "sd") | exact mul_ok3 (by omega) (by omega))) | ((with_reducible refine wo_app ?_ ?_); (· first | rfl | (apply fits_of; first | omega | (simp; omega)))) | ((with_reducible refine wo_ext ?_ ?_); (· first | rfl | (apply fits_of; first | omega | (simp; omega))))) | ((with_reducible show WS _ _ _); first | with_reducible refine ws_try ?_ | with_reducible refine ws_retT ?_ | with_reducible refine ws_seq ?_ | with_reducible refine ws_expr ?_ | with_reducible refine ws_ret ?_ | with_reducible refine ws_retL ?_ | with_reducible refine ws_set ?_ | with_reducible refine ws_setO ?_ | with_reducible refine ws_asg ?_ | with_reducible refine ws_par ?_ | with_reducible refine ws_nil ?_ | with_reducible refine ws_retN ?_ | with_reducible refine ws_dput ?_ | with_reducible refine ws_dnew ?_ | ((with_reducible show WS (sFrz _ _) _ _); first | ((with_reducible apply ws_frz); (· rfl)) | ((with_reducible apply ws_frzV); (· rfl))) | ((with_reducible apply ws_retO); (· rfl)) | ((with_reducible apply ws_putI); (· rfl))) | ((with_reducible apply nrm_); (· (try simp only [wipeE, backE, List.set_cons_zero, List.set_cons_succ, List.getElem?_cons_zero, List.getElem?_cons_succ, List.cons_append, List.nil_append, List.replicate_succ, List.replicate_zero, Nat.reduceSub, unowns_nil, unowns_cons, unown_own, unown_val, unown_no, unown_ro, unown_dct]); rfl)) | ((with_reducible show IfB _ _ _); first | with_reducible refine ifb_not ?_ | with_reducible refine ifb_t ?_ | with_reducible refine ifb_f ?_ | ((with_reducible refine ifb_decT ?_ ?_); (· first | (with_reducible assumption) | omega | (simp only [List.length_cons, List.length_nil]; omega))) | ((with_reducible refine ifb_decF ?_ ?_); (· first | (with_reducible assumption) | omega | (simp only [List.length_cons, List.length_nil]; omega))) | with_reducible refine ifb_dec (fun _ => ?_) (fun _ => ?_) | ((with_reducible apply ifb_eT); (· rfl)) | ((with_reducible apply ifb_eF); (· rfl))) | ((with_reducible show WB _ _ _); first | with_reducible refine wb_bor ?_ | with_reducible refine wb_v ?_ | with_reducible refine wb_and ?_ | with_reducible refine wb_or ?_ | with_reducible refine wb_not ?_ | with_reducible refine wb_yes ?_) | with_reducible refine isb ?_ | ((with_reducible show WL _ _ _); first | with_reducible refine wl_nil ?_ | with_reducible refine wl_cons ?_ | with_reducible refine wl_lst ?_ | with_reducible refine wl_un ?_ | with_reducible refine wl_it ?_ | with_reducible refine wl_rng1 ?_ | with_reducible refine wl_rng2 ?_ | with_reducible refine wl_enum ?_ | with_reducible refine wl_enumA ?_ | with_reducible refine wl_addE ?_ | with_reducible refine wl_rg1 ?_ | with_reducible refine wl_bor ?_ | with_reducible refine wl_call ?_ | ((with_reducible apply wl_addO); (· rfl)) | ((with_reducible show WL (lSlV _ _ _) _ _); first | ((with_reducible apply wl_slO); (· rfl)) | ((with_reducible apply wl_slR); (· rfl)))) | ((with_reducible show WA _ _ _); first | with_reducible refine wa_nil ?_ | with_reducible refine wa_v ?_ | ((with_reducible apply wa_r); (· rfl)) | ((with_reducible show WA (aO _ _) _ _); first | ((with_reducible apply wa_oR); (· rfl)) | ((with_reducible apply wa_oO); (· rfl)) | ((with_reducible apply wa_oV); (· rfl)))) | ((with_reducible show IsS _ _); first | with_reducible refine iss_l ?_ | with_reducible refine iss_t ?_) | ((with_reducible refine fit_ ?_ ?_); (· first | rfl | (apply fits_of; first | omega | (simp; omega)))) | ((with_reducible show CallG _ _ _ _); first | ((with_reducible apply cg0); (· rfl)) | ((with_reducible apply cg1); (· rfl); (· rfl))) | ((with_reducible show WT _ _ _ _); first | with_reducible refine wt_n ?_ | ((with_reducible apply wt_t); (· rfl)) | ((with_reducible apply wt_unl); (· rfl))) | ((with_reducible show WTs _ _ _ _); first | with_reducible refine wts_nil ?_ | with_reducible refine wts_cons ?_) | ((with_reducible apply own_); (· rfl)) | ((with_reducible refine sml_ ?_ ?_ ?_); (· walk_at "sd"); (· walk_at "sd")) | with_reducible refine isi_ ?_ | ((with_reducible show WSX _ _ _); first | with_reducible refine wsx_lift ?_ | with_reducible refine wsx_seq ?_ | with_reducible refine wsx_if ?_ | with_reducible refine wsx_raise0 ?_ | with_reducible refine wsx_expr ?_ | with_reducible refine wsx_ret ?_ | with_reducible refine wsx_set ?_) | with_reducible refine wex_call ?_ | ((with_reducible show WPu _ _ _ _); first | with_reducible refine wpu_nil ?_ | with_reducible refine wpu_seq ?_ | with_reducible refine wpu_ret ?_ | with_reducible refine wpu_if ?_) | ((with_reducible show WTd _ _ _ _ _); first | with_reducible refine wtd_P ?_ | with_reducible refine wtd_G ?_ | with_reducible refine wtd_If ?_ | ((with_reducible refine wtd_K ?_ ?_); (· exact ⟨rfl, by decide⟩)) | ((with_reducible refine wtd_U ?_ ?_); (· exact ⟨rfl, by decide⟩)) | ((with_reducible refine wtd_C ?_ ?_); (· rfl)) | ((with_reducible refine wtd_A ?_ ?_ ?_); (· rfl); (· first | rfl | (apply fits_of; first | omega | (simp; omega))))) | with_reducible refine two_ ?_ | ((with_reducible show WC _ _ _ _ _ _ _); first | with_reducible refine wc_nil ?_ | with_reducible refine wc_cons ?_) | ((with_reducible show WP _ _ _); first | with_reducible refine wp_no ?_ | with_reducible refine wp_e ?_) | with_reducible refine isl ?_ | ((with_reducible show RetT _ _ _); first | ((with_reducible apply retT1); (· rfl)) | ((with_reducible apply retT2); (· rfl))) | ((with_reducible show Any _ _); first | ((with_reducible apply any_o); (· rfl)) | ((with_reducible apply any_r); (· rfl))) | ((with_reducible show CallH _ _ _ _); first | ((with_reducible apply ch0); (· rfl)) | ((with_reducible apply ch1); (· rfl); (· rfl))) | ((with_reducible apply cgx0); (· rfl))))
local macro_rules | `(tactic| walk_at "nr") => `(tactic| ((with_reducible apply nrm_); (· (try simp only [wipeE, backE, List.set_cons_zero, List.set_cons_succ, List.getElem?_cons_zero, List.getElem?_cons_succ, List.cons_append, List.nil_append, List.replicate_succ, List.replicate_zero, Nat.reduceSub, unowns_nil, unowns_cons, unown_own, unown_val, unown_no, unown_ro, unown_dct]); rfl)))
local macro_rules | `(tactic| walk_at "nb") => `(tactic| simp only [wipeE, backE, List.set_cons_zero, List.set_cons_succ, List.getElem?_cons_zero, List.getElem?_cons_succ])
theorem swaps_w {hs : List Hd} {Q : D → List Sl → Prop} (hn : hs.length ≤ 5) (hk : ∀ h ∈ hs, isLk h.2.2) (q : ∀ x, Q (.list ((swapsL (looksOf hs)).map tO)) [x]) :
    WG g_swaps_of [.val (.tuple (hs.map hD))] Q := by
  refine wg_run rfl ?_
  unfold b_swaps_of
  walk_at "vc"
  refine ws_forN (fun ds k e => ∃ x2 x3 x4 x5 x6 x7 : Sl, e = [.val (.tuple (hs.map hD)), .val (.list ((swapsGo (looksOf hs) ((looksOf hs).take k) [[]]).map tO)), x2, x3, x4, x5, x6, x7]) ?_
  walk_at "vc"
  refine ⟨⟨_, _, _, _, _, _, rfl⟩, ?_, ?_⟩
  · rintro k d e hkl hd ⟨x2, x3, x4, x5, x6, x7, rfl⟩
    rw [List.length_map] at hkl
    have hd2 : d = hD hs[k] := by
      rw [List.getElem?_map, List.getElem?_eq_getElem hkl] at hd
      exact (Option.some.inj hd).symm
    subst hd2
    clear hd
    have hlk := hk hs[k] (List.getElem_mem _)
    have hln : (looksOf hs).length = hs.length := List.length_map ..
    have hlen := swapsGo_len (looksOf hs) (by omega) k (by omega)
    have h5 := pow5 (show k ≤ 5 by omega)
    have hnx : swapsGo (looksOf hs) ((looksOf hs).take (k + 1)) [[]] = (swapsGo (looksOf hs) ((looksOf hs).take k) [[]]).flatMap (nextS (looksOf hs) hs[k].2.2) := by
      rw [List.take_succ_eq_append_getElem (show k < (looksOf hs).length by omega), swapsGo_snoc]
      simp only [List.getElem_map]
    have hok := swapsGo_ok (looksOf hs) k (by omega)
    generalize hF : swapsGo (looksOf hs) ((looksOf hs).take k) [[]] = F at *
    generalize hs[k] = hh at *
    obtain ⟨g, s, l⟩ := hh
    unfold hD
    walk_at "vc"
    refine ws_forN (fun ds i e => ∃ (L : List (List Nat)) (x6 x7 : Sl), L = (F.take i).flatMap (nextS (looksOf hs) l) ∧ e = [.val (.tuple (hs.map hD)), .val (.list (F.map tO)), .val (.int g), .val (.int s), .val (.str l), .own true (L.map tO), x6, x7]) ?_
    walk_at "vc"
    refine ⟨⟨[], _, _, by simp, rfl⟩, ?_, ?_⟩
    · rintro i d e hi hd ⟨L, x6, x7, hL, rfl⟩
      rw [List.length_map] at hi
      have hd2 : d = tO F[i] := by
        rw [List.getElem?_map, List.getElem?_eq_getElem hi] at hd
        exact (Option.some.inj hd).symm
      subst hd2
      clear hd
      have hLl := flatMap_len (f := nextS (looksOf hs) l) (n := 5) (l := F.take i) fun x _ => by have := nextS_len (looksOf hs) l x; omega
      rw [← hL, List.length_take] at hLl
      have hFi := hok F[i] (List.getElem_mem _)
      have hLs : (F.take (i + 1)).flatMap (nextS (looksOf hs) l) = L ++ nextS (looksOf hs) l F[i] := by
        rw [List.take_succ_eq_append_getElem hi, List.flatMap_append, ← hL]
        simp
      rw [hLs]
      generalize F[i] = o at *
      walk_at "vc"
      refine ws_forN (fun ds j e => ∃ x7 : Sl, e = [.val (.tuple (hs.map hD)), .val (.list (F.map tO)), .val (.int g), .val (.int s), .val (.str l), .own true ((L ++ (((List.range j).filter fun j => decide (j ∉ o) && decide ((looksOf hs)[j]? = some l)).map fun j => o ++ [j])).map tO), .val (tO o), x7]) ?_
      walk_at "vc"
      refine ⟨⟨x7, by simp⟩, ?_, ?_⟩
      · rintro j d e hj hd ⟨x7, rfl⟩
        rw [irange_length] at hj
        have hjh : j < hs.length := by simpa using hj
        have hd2 : d = .int (j : Int) := by
          unfold irange at hd
          rw [List.getElem?_map, List.getElem?_range (by simpa using hj)] at hd
          simpa using (Option.some.inj hd).symm
        subst hd2
        have hjl : (looksOf hs)[j]? = some hs[j].2.2 := by
          rw [List.getElem?_map, List.getElem?_eq_getElem hjh]
          rfl
        have hfl := List.length_filter_le (fun j => decide (j ∉ o) && decide ((looksOf hs)[j]? = some l)) (List.range j)
        rw [List.length_range] at hfl
        rw [List.range_succ, List.filter_append]
        walk_at "vc"
        refine wo_niO ?_
        walk_at "vc"
        · rename_i hno
          refine wo_idxHs hjh ?_
          walk_at "vc"
          refine wo_eqS (hk _ (List.getElem_mem _)) hlk ?_
          walk_at "vc"
          · rename_i hl
            refine wo_addO (by omega) ?_
            walk_at "vc"
            refine wo_app (fits_of (by rw [List.length_map, List.length_append, List.length_map]; omega)) ?_
            walk_at "vc"
            refine ⟨.val (.int (j : Int)), ?_⟩
            simp [hjl, hl, hno]
          · rename_i hl
            refine ⟨.val (.int (j : Int)), ?_⟩
            simp [hjl, hl]
        · rename_i hno
          refine ⟨.val (.int (j : Int)), ?_⟩
          simp at hno
          simp [hno]
      · rintro e ⟨x7, rfl⟩
        refine ⟨_, .val (tO o), x7, rfl, ?_⟩
        rw [irange_length]
        simp [nextS]
    · rintro e ⟨L, x6, x7, hL, rfl⟩
      rw [List.length_map, List.take_length] at hL
      walk_at "vc"
      dsimp only at hnx
      rw [hnx, ← hL]
      exact ⟨_, _, _, _, _, _, rfl⟩
  · rintro e ⟨x2, x3, x4, x5, x6, x7, rfl⟩
    walk_at "vc"
    rw [List.length_map, List.take_of_length_le (by simp)]
    exact q _

theorem readings_w {m : Int} {hs : List Hd} {bl mir : Bool} {Q : D → List Sl → Prop} (hn : hs.length ≤ 5) (hk : ∀ h ∈ hs, isLk h.2.2) (q : ∀ x, Q (.list ((readOf hs mir).map rD)) [x]) :
    WG g_readings_of [.val (clockD m hs bl mir)] Q := by
  refine wg_run rfl ?_
  unfold b_readings_of
  walk_at "vc"
  refine ws_forN (fun ds k e => ∃ x2 : Sl, e = [.val (clockD m hs bl mir), .own true ((readL mir ((swapsL (looksOf hs)).take k)).map rD), x2]) ?_
  walk_at "vc"
  refine swaps_w hn hk fun _ => ?_
  walk_at "vc"
  have hsl := swapsGo_len (looksOf hs) (by rw [List.length_map]; omega) hs.length (by rw [List.length_map]; omega)
  rw [List.take_of_length_le (by rw [List.length_map]; omega)] at hsl
  have h5 := pow5 hn
  have hsl2 : (swapsL (looksOf hs)).length ≤ 3125 := Nat.le_trans hsl h5
  refine ⟨⟨_, rfl⟩, ?_, ?_⟩
  · rintro k d e hkl hd ⟨x2, rfl⟩
    rw [List.length_map] at hkl
    have hd2 : d = tO (swapsL (looksOf hs))[k] := by
      rw [List.getElem?_map, List.getElem?_eq_getElem hkl] at hd
      exact (Option.some.inj hd).symm
    subst hd2
    clear hd
    rw [List.take_succ_eq_append_getElem hkl, readL_snoc]
    have hrl := readL_len mir ((swapsL (looksOf hs)).take k)
    rw [List.length_take] at hrl
    generalize (swapsL (looksOf hs))[k] = o at *
    walk_at "vc"
    cases mir
    · walk_at "vc"
      exact ⟨.val (tO o), by simp [rD]⟩
    · walk_at "vc"
      exact ⟨.val (tO o), by simp [rD]⟩
  · rintro e ⟨x2, rfl⟩
    walk_at "vc"
    rw [List.length_map, List.take_length]
    exact q _

theorem rows_w {m : Int} {hs : List Hd} {bl mir : Bool} {r : Rd} {Q : D → List Sl → Prop} (hm : 0 < m) (hm2 : m ≤ 10 ^ 60) (h1 : 1 ≤ hs.length) (hn : hs.length ≤ 5) (ho : SwOk hs.length r.1) (hk : HandsOk m hs) (q : ∀ x y, Q (.list ((rowsL m hs bl r).map rwD)) [x, y]) :
    WG g_rows_of [.val (clockD m hs bl mir), .val (rD r)] Q := by
  obtain ⟨o, rv⟩ := r
  have hol : o.length = hs.length := ho.len
  refine wg_run rfl ?_
  unfold b_rows_of rD tO
  walk_at "vc"
  have hsg : (1 : Int) - 2 * (if rv then 1 else 0) = sgn rv := by cases rv <;> rfl
  have hsg2 : sgn rv = 1 ∨ sgn rv = -1 := by cases rv; exact .inl rfl; exact .inr rfl
  rw [hsg]
  refine ws_forN (fun ds k e => ∃ x10 x11 x12 x13 : Sl, e = [.val (clockD m hs bl mir), .val (rD (o, rv)), .val (.int m), .val (.tuple (hs.map hD)), .val (.bool bl), .val (.bool mir), .val (tO o), .val (.bool rv), .val (.int (sgn rv)), .own true (((rows0 m hs (o, rv)).take k).map rwD), x10, x11, x12, x13, .no, .no, .no]) ?_
  refine wl_zip ?_
  walk_at "vc"
  refine ⟨_, _, .inr ⟨rfl, rfl⟩, ?_⟩
  have hrl : (rows0 m hs (o, rv)).length = hs.length := by unfold rows0; rw [List.length_zipWith]; show min o.length hs.length = _; omega
  refine ⟨⟨_, _, _, _, rfl⟩, ?_, ?_⟩
  · rintro k d e hkl hd ⟨x10, x11, x12, x13, rfl⟩
    rw [M.pairs_len, List.length_map, List.length_map] at hkl
    have hko : k < o.length := by omega
    have hkh : k < hs.length := by omega
    obtain ⟨x, y, e1, e2, rfl⟩ := pairs_get hd
    rw [List.getElem?_map, List.getElem?_eq_getElem hko] at e1
    rw [List.getElem?_map, List.getElem?_eq_getElem hkh] at e2
    cases e1; cases e2
    have hj := ho.lt o[k] (List.getElem_mem _)
    have hok := hk hs[k] (List.getElem_mem _)
    rw [List.take_succ_eq_append_getElem (show k < (rows0 m hs (o, rv)).length by omega)]
    have hrk : (rows0 m hs (o, rv))[k]'(by omega) = row1 m hs rv o[k] hs[k] := by unfold rows0; rw [List.getElem_zipWith]
    rw [hrk]
    unfold row1
    rw [getD_eq hj]
    generalize hs[k] = hh at *
    generalize o[k] = j at *
    have hjk := hk hs[j] (List.getElem_mem _)
    generalize hy : hs[j] = hg at *
    generalize sgn rv = sg at *
    have hln := List.length_take_le k (rows0 m hs (o, rv))
    unfold hD
    walk_at "vc"
    refine wo_idxHs hj ?_
    rw [hy]
    unfold hD
    walk_at "vc"
    refine wo_idxHs hj ?_
    rw [hy]
    unfold hD
    walk_at "vc"
    refine ⟨_, _, _, _, by simp [rwD]; exact ⟨rfl, rfl, rfl, rfl⟩⟩
  · rintro e ⟨x10, x11, x12, x13, rfl⟩
    rw [M.pairs_len, List.length_map, List.length_map, List.take_of_length_le (by omega)]
    generalize hR : rows0 m hs (o, rv) = R at *
    cases bl
    · have : rowsL m hs false (o, rv) = R := by unfold rowsL; rw [hR]; rfl
      rw [this] at q
      walk_at "vc"
      exact q _ _
    · have : rowsL m hs true (o, rv) = R.tail.map (fun x => lessR m x (R.headD (0, 0, 0))) := by unfold rowsL; rw [hR]; rfl
      rw [this] at q
      obtain ⟨r0, R', rfl⟩ : ∃ r0 R', R = r0 :: R' := by
        cases R with
        | nil => simp at hrl; omega
        | cons r0 R' => exact ⟨r0, R', rfl⟩
      walk_at "vc"
      rw [List.map_cons]
      refine wl_compP (fun _ _ => true) (fun _ => mapR fun x => lessR m x r0) ?_
      walk_at "vc"
      rw [cut_one]
      refine ⟨rfl, fits_of (by simp at hrl ⊢; omega), fun d hd => ?_, ?_⟩
      · obtain ⟨x, _, rfl⟩ := List.mem_map.mp hd
        unfold rwD
        walk_at "vc"
        refine ⟨rfl, ?_⟩
        walk_at "vc"
        refine wl_compU [.tuple [.int x.1, .int r0.1], .tuple [.int x.2.1, .int r0.2.1], .tuple [.int x.2.2, .int r0.2.2]] ?_
        refine wl_zip ?_
        walk_at "vc"
        refine wo_hd ?_
        walk_at "vc"
        refine ⟨_, _, .inr ⟨rfl, rfl⟩, rfl, rfl, rfl, ?_⟩
        walk_at "vc"
        exact ⟨rfl, rfl⟩
      · rw [filter_yes, mapR_rows]
        walk_at "vc"
        exact q _ _

theorem common_w {a b : Int} {Q : D → List Sl → Prop} (ha : 0 ≤ a) (hb : 0 ≤ b) (ha2 : a < 10 ^ 200) (hb2 : b < 10 ^ 200) (q : ∀ g s t : Int, Bz a b g s t → Q (.tuple [.int g, .int s, .int t]) [.val (.int a), .val (.int b)]) :
    WG g_common_parts [.val (.int a), .val (.int b)] Q := by
  refine wg_run rfl ?_
  unfold b_common_parts
  walk_at "nr"
  refine ws_mid (fun e => ∃ (r0 s0 t0 r1 s1 t1 : Int) (x4 x5 : Sl), Eu a b r0 s0 t0 r1 s1 t1 ∧ r0 ≤ a + b ∧ r1 ≤ a + b ∧ e = [.val (.int a), .val (.int b), .val (.tuple [.int r0, .int s0, .int t0]), .val (.tuple [.int r1, .int s1, .int t1]), x4, x5, .no, .no]) ?_ ?_
  · walk_at "vc"
    exact ⟨a, 1, 0, b, 0, 1, .no, .no, Eu.start ha hb, by omega, by omega, rfl⟩
  · rintro e ⟨r0, s0, t0, r1, s1, t1, x4, x5, E, z0, z1, rfl⟩
    refine ws_mid (fun e => ∃ (r0 s0 t0 s1 t1 : Int) (x4 x5 : Sl), Eu a b r0 s0 t0 0 s1 t1 ∧ e = [.val (.int a), .val (.int b), .val (.tuple [.int r0, .int s0, .int t0]), .val (.tuple [.int 0, .int s1, .int t1]), x4, x5, .no, .no]) ?_ ?_
    · refine ws_wh (fun m e => ∃ (r0 s0 t0 r1 s1 t1 : Int) (x4 x5 : Sl), Eu a b r0 s0 t0 r1 s1 t1 ∧ r0 ≤ a + b ∧ r1 ≤ a + b ∧ m = r1.toNat ∧ e = [.val (.int a), .val (.int b), .val (.tuple [.int r0, .int s0, .int t0]), .val (.tuple [.int r1, .int s1, .int t1]), x4, x5, .no, .no]) r1.toNat (by unfold FU; omega) ⟨r0, s0, t0, r1, s1, t1, x4, x5, E, z0, z1, rfl, rfl⟩ ?_
      rintro m e ⟨r0, s0, t0, r1, s1, t1, x4, x5, E, z0, z1, rfl, rfl⟩
      have h0 := E.h0
      have h1 := E.h1
      have sz := E.sz
      walk_at "vc"
      · rename_i h
        subst h
        exact ⟨r0, s0, t0, s1, t1, x4, x5, E, rfl⟩
      · rename_i h
        obtain ⟨E2, lt, q0, q1⟩ := E.step h
        have h3 := E2.h1
        walk_at "vc"
        refine wl_compU [.tuple [.int r0, .int r1], .tuple [.int s0, .int s1], .tuple [.int t0, .int t1]] ?_
        refine wl_zip ?_
        walk_at "vc"
        refine ⟨_, _, .inr ⟨rfl, rfl⟩, rfl, rfl, rfl, ?_⟩
        walk_at "vc"
        refine ⟨_, lt, r1, s1, t1, r0 - r0 / r1 * r1, s0 - r0 / r1 * s1, t0 - r0 / r1 * t1, .val (.int (r0 / r1)), .val (.tuple [.int (r0 - r0 / r1 * r1), .int (s0 - r0 / r1 * s1), .int (t0 - r0 / r1 * t1)]), E2, z1, by omega, rfl, ?_⟩
        rfl
    · rintro e ⟨r0, s0, t0, s1, t1, x4, x5, E, rfl⟩
      walk_at "vc"
      exact q r0 s0 t0 (E.fin ha hb)

theorem weights_w {m : Int} {ns : List Int} {Q : D → List Sl → Prop} (hm : 0 < m) (hm2 : m ≤ 10 ^ 120) (hl : ns.length ≤ 100000) (q : ∀ g ws x y, We m ns g ws → Q (.tuple [.int g, .list (ws.map .int)]) [x, y]) :
    WG g_weights_of [.val (.int m), .val (.list (ns.map .int))] Q := by
  refine wg_run rfl ?_
  unfold b_weights_of
  walk_at "vc"
  refine ws_for (fun _ rs e => ∃ (done rest : List Int) (g : Int) (ws : List Int) (x4 x5 x6 : Sl), ns = done ++ rest ∧ rs = rest.map .int ∧ We m done g ws ∧ e = [.val (.int m), .val (.list (ns.map .int)), .val (.int g), .val (.list (ws.map .int)), x4, x5, x6, .no]) ?_
  walk_at "vc"
  refine ⟨⟨[], ns, m, [], .no, .no, .no, rfl, rfl, We.start hm, rfl⟩, ?_, ?_⟩
  · rintro d rs e ⟨done, rest, g, ws, x4, x5, x6, rfl, hr, W, rfl⟩
    cases rest with
    | nil => cases hr
    | cons n rest =>
      cases hr
      have hn0 := Int.emod_nonneg n (show m ≠ 0 by omega)
      have hn1 := Int.emod_lt_of_pos n hm
      have hgm := Int.le_of_dvd hm W.dm
      have hg := W.pos
      walk_at "vc"
      refine common_w (by omega) hn0 (by omega) (by omega) fun g' s t B => ?_
      have hs := B.sb
      have W2 := W.step hm B
      have hlen : ws.length ≤ 100000 := by
        rw [W.len]
        rw [List.length_append] at hl
        omega
      walk_at "vc"
      refine wl_compP (fun _ _ => true) (fun _ => mapI fun w => w * s % m) ?_
      walk_at "vc"
      refine ⟨rfl, fits_of (by rw [List.length_map]; omega), fun d hd => ?_, ?_⟩
      · obtain ⟨w, hw, rfl⟩ := List.mem_map.mp hd
        have hw2 := W.rng w hw
        walk_at "vc"
        exact ⟨rfl, by walk_at "vc"; exact ⟨rfl, rfl⟩⟩
      · rw [filter_yes, mapI_ints]
        walk_at "vc"
        refine ⟨done ++ [n], rest, g', _, .val (.int n), .val (.int s), .val (.int t), by simp, rfl, W2, ?_⟩
        rw [List.map_append (l₁ := ws.map fun w => w * s % m)]
        rfl
  · rintro e ⟨done, rest, g, ws, x4, x5, x6, rfl, hr, W, rfl⟩
    cases rest with
    | cons _ _ => cases hr
    | nil =>
      walk_at "vc"
      refine q g ws _ _ ?_
      rw [List.append_nil]
      exact W

theorem coarse_w {m : Int} {hs : List Hd} {bl mir : Bool} {Q : D → List Sl → Prop} (hm : 0 < m) (hm2 : m ≤ 10 ^ 60) (h1 : 1 ≤ hs.length) (hn : hs.length ≤ 5) (hk : HandsOk m hs) (q : ∀ g ws x, We m (firstsL m hs bl) g ws → Q (.int (m / g)) [x]) :
    WG g_coarse_step [.val (clockD m hs bl mir)] Q := by
  refine wg_run rfl ?_
  unfold b_coarse_step
  walk_at "vc"
  refine readings_w hn (fun h hh => (hk h hh).2.2.2.2) fun _ => ?_
  obtain ⟨r, e⟩ := swapsL_head (looksOf hs)
  obtain ⟨t, e2⟩ := readL_head (mir := mir) (o := List.range (looksOf hs).length) (r := r)
  rw [← e] at e2
  have e3 : readOf hs mir = (List.range (looksOf hs).length, false) :: t := e2
  rw [e3, List.map_cons]
  walk_at "vc"
  refine wo_hd ?_
  walk_at "vc"
  rw [show (looksOf hs).length = hs.length from List.length_map ..]
  refine rows_w hm hm2 h1 hn (swOk_range _) hk fun _ _ => ?_
  have hf := rowsL_firsts hm hs bl
  generalize rowsL m hs bl (List.range hs.length, false) = R at *
  walk_at "vc"
  refine wo_eqNil (n := 2) (lay_rws (n := 0) R) ?_
  cases R with
  | nil =>
    walk_at "vc"
    rw [← hf] at q
    have := q m [] (.val (clockD m hs bl mir)) (We.start hm)
    rw [Int.ediv_self (by omega)] at this
    exact this
  | cons r0 R =>
    walk_at "vc"
    refine wl_compP (fun _ _ => true) (fun _ => fstR) ?_
    walk_at "vc"
    have hR : (r0 :: R).length ≤ hs.length := by
      have := congrArg List.length hf
      rw [List.length_map] at this
      rw [this]
      exact firstsL_len m hs bl
    refine ⟨rfl, fits_of (by simp at hR ⊢; omega), fun d hd => ?_, ?_⟩
    · obtain ⟨x, _, rfl⟩ := List.mem_map.mp hd
      unfold rwD
      walk_at "vc"
      exact ⟨rfl, by walk_at "vc"; exact ⟨rfl, rfl⟩⟩
    · rw [filter_yes, fstR_rows, hf]
      walk_at "vc"
      refine weights_w hm (by omega) (by have := firstsL_len m hs bl; omega) fun g ws _ _ W => ?_
      have hg := W.pos
      have hgm := Int.le_of_dvd hm W.dm
      walk_at "vc"
      exact q g ws _ W

theorem numbersW_w {m : Int} {fs ds : List Int} {Q : D → List Sl → Prop} (hm : 1 < m) (hm2 : m ≤ 10 ^ 60) (hl : fs.length = ds.length) (hl2 : fs.length ≤ 10) (hG : Gd m fs 1) (hf : ∀ f ∈ fs, 0 ≤ f ∧ f < m) (hd : ∀ d ∈ ds, 0 ≤ d ∧ d < m) (q : ∀ d x y z, SolW m fs ds d → Q d [x, y, z]) :
    WG g_numbers_solved [.val (.int m), .val (.list (fs.map .int)), .val (.list (ds.map .int))] Q := by
  refine wg_run rfl ?_
  unfold b_numbers_solved
  walk_at "vc"
  refine wo_eqNil (n := 1) (lay_ints fs) ?_
  cases hfs : fs with
  | nil =>
    subst hfs
    have := hG.uniq (Gd.start (by omega))
    omega
  | cons f0 fs' =>
    rw [← hfs]
    have he : (fs.map PyData.int).isEmpty = false := by rw [hfs]; rfl
    rw [he]
    walk_at "vc"
    refine weights_w (by omega) (by omega) (by omega) fun g ws _ _ W => ?_
    obtain rfl := W.gd.uniq hG
    have hwl := W.len
    walk_at "vc"
    refine wl_compP (fun _ _ => true) (fun _ => mapT fun w d => w * d) ?_
    refine wl_zip ?_
    walk_at "vc"
    refine ⟨_, _, .inl ⟨rfl, rfl⟩, rfl, fits_of (by rw [pairs_ints, List.length_map, List.length_zip]; omega), fun d hd' => ?_, ?_⟩
    · rw [pairs_ints] at hd'
      obtain ⟨⟨w, n⟩, h1, rfl⟩ := List.mem_map.mp hd'
      have h2 := W.rng w (List.of_mem_zip h1).1
      have h3 := hd n (List.of_mem_zip h1).2
      walk_at "vc"
      exact ⟨rfl, by walk_at "vc"; exact ⟨rfl, rfl⟩⟩
    · rw [filter_yes, mapT_pairs]
      walk_at "vc"
      refine wo_sum rfl ?_
      rw [dot_sum1]
      walk_at "vc"
      have hd0 := Int.emod_nonneg (dot ws ds) (show m ≠ 0 by omega)
      have hd1 := Int.emod_lt_of_pos (dot ws ds) (show 0 < m by omega)
      refine ws_forN (fun _ k e => (∀ j (h : j < fs.length) (h2 : j < ds.length), j < k → m ∣ ds[j] - fs[j] * (dot ws ds % m)) ∧ ∃ x6 x7 x8 : Sl, e = [.val (.int m), .val (.list (fs.map .int)), .val (.list (ds.map .int)), .val (.int 1), .val (.list (ws.map .int)), .val (.int (dot ws ds % m)), x6, x7, x8, .no, .no, .no]) ?_
      walk_at "vc"
      refine ⟨⟨fun j _ _ h => absurd h (Nat.not_lt_zero _), _, _, _, rfl⟩, ?_, ?_⟩
      · rintro k d e hkl hdd ⟨hj, x6, x7, x8, rfl⟩
        obtain ⟨hk, rfl⟩ := enum_at hdd
        have hkd : k < ds.length := by omega
        have hfk := hf fs[k] (List.getElem_mem _)
        have hdk := hd ds[k] (List.getElem_mem _)
        have hzip : (fs[k], ds[k]) ∈ fs.zip ds := List.mem_iff_getElem.mpr ⟨k, by rw [List.length_zip]; omega, by rw [List.getElem_zip]⟩
        generalize hv : dot ws ds % m = v at *
        walk_at "vc"
        refine wo_idxI hkd ?_
        walk_at "vc"
        all_goals
          rename_i hc
          rw [Int.ediv_one] at hc
        · refine ⟨fun j h1 h2 h3 => ?_, _, _, _, rfl⟩
          by_cases hjk : j = k
          · subst hjk
            exact Int.dvd_of_emod_eq_zero (by simpa using hc)
          · exact hj j h1 h2 (by omega)
        · refine wl_compP (fun _ _ => true) (fun _ => mapT fun i w => (if decide (i = (k : Int)) = true then 1 else 0) - fs[k] / 1 * w) ?_
          walk_at "vc"
          refine ⟨rfl, fits_of (by rw [List.length_map, M.pairs_len, irange_length, List.length_map]; omega), fun d hd' => ?_, ?_⟩
          · rw [List.length_map, irange_ints0, pairs_ints] at hd'
            obtain ⟨⟨i, w⟩, h1, rfl⟩ := List.mem_map.mp hd'
            have h2 := W.rng w (List.of_mem_zip h1).2
            walk_at "vc"
            refine ⟨rfl, ?_⟩
            walk_at "vc"
            exact ⟨rfl, rfl⟩
          · rw [filter_yes]
            walk_at "vc"
            rw [List.length_map, irange_ints0, mapT_pairs]
            have hz : (List.zipWith (fun i w => (if decide (i = (k : Int)) = true then 1 else 0) - fs[k] / 1 * w) (natsI ws.length) ws) = List.zipWith (fun i w => indI (k : Int) i - fs[k] * w) (natsI ws.length) ws := by rw [Int.ediv_one]; rfl
            have d1 := dot_rowE (es := fs) (ws := ws) (k := k) (c := fs[k]) (by omega) (by omega)
            have d2 := dot_rowE (es := ds) (ws := ws) (k := k) (c := fs[k]) (by omega) (by omega)
            refine q _ _ _ _ (.inl ⟨List.zipWith (fun i w => indI (k : Int) i - fs[k] * w) (natsI ws.length) ws, by rw [← hz], ?_, fun e he => ?_, ?_, fun h => hc (Int.emod_eq_zero_of_dvd ?_)⟩)
            · rw [List.length_zipWith, natsI_len]; omega
            · obtain ⟨i, hi, rfl⟩ := List.mem_iff_getElem.mp he
              rw [List.length_zipWith] at hi
              rw [List.getElem_zipWith]
              have := W.rng _ (List.getElem_mem (show i < ws.length by omega))
              have e1 : (fs[k] * ws[i]'(by omega)).natAbs ≤ 10 ^ 60 * 10 ^ 60 := by rw [Int.natAbs_mul]; exact Nat.mul_le_mul (by omega) (by omega)
              generalize fs[k] * ws[i] = p at *
              unfold indI
              split <;> omega
            · rw [d1]
              obtain ⟨c, hc'⟩ := W.dot
              exact ⟨-(fs[k] * c), by grind⟩
            · rw [d2] at h
              rw [← hv]
              obtain ⟨a, ha⟩ := dvd_mod_sub m (dot ws ds)
              obtain ⟨b, hb⟩ := h
              exact ⟨b - fs[k] * a, by grind⟩
      · rintro e ⟨hj, x6, x7, x8, rfl⟩
        have hS : Slv m fs ds (dot ws ds % m) := fun p hp => by
          obtain ⟨j, hjl, rfl⟩ := List.mem_iff_getElem.mp hp
          rw [List.length_zip] at hjl
          rw [List.getElem_zip]
          obtain ⟨c, hc⟩ := hj j (by omega) (by omega) (by rw [M.pairs_len, irange_length, List.length_map]; omega)
          exact ⟨-c, by show fs[j] * (dot ws ds % m) - ds[j] = _; grind⟩
        walk_at "vc"
        refine q _ _ _ _ (.inr ⟨dot ws ds % m, ws, ?_, hd0, hd1, W, slv_all W hl hS⟩)
        rw [Int.ediv_one, Int.ediv_one, Int.emod_emod_of_dvd _ (Int.dvd_refl m)]
theorem numbers_w {m : Int} {fs ds : List Int} {Q : D → List Sl → Prop} (hm : 1 < m) (hm2 : m ≤ 10 ^ 60) (hl : fs.length = ds.length) (hl2 : fs.length ≤ 10) (hG : Gd m fs 1) (hf : ∀ f ∈ fs, 0 ≤ f ∧ f < m) (hd : ∀ d ∈ ds, 0 ≤ d ∧ d < m) (q : ∀ d x y z, SolOf m fs ds d → Q d [x, y, z]) :
    WG g_numbers_solved [.val (.int m), .val (.list (fs.map .int)), .val (.list (ds.map .int))] Q :=
  numbersW_w hm hm2 hl hl2 hG hf hd fun d x y z h => q d x y z (h.weak hl)

theorem rsolvedW_w {m t : Int} {hs : List Hd} {bl mir : Bool} {r : Rd} {Q : D → List Sl → Prop} (hm : 1 < m) (hm2 : m ≤ 10 ^ 60) (h1 : 1 ≤ hs.length) (hn : hs.length ≤ 5) (ho : SwOk hs.length r.1) (hk : HandsOk m hs) (hF : Fine m hs bl) (ht : t.natAbs < 10 ^ 120) (q : ∀ d x y z, OneW m (rowsL m hs bl r) t d → Q d [x, y, z]) :
    WG g_reading_solved [.val (clockD m hs bl mir), .val (rD r), .val (.int t)] Q := by
  have hrw := rowsL_rng (bl := bl) (show 0 < m by omega) hk ho
  have hrl := rowsL_len m hs bl r
  have hG := Fine.rows (by omega) h1 ho hF
  refine wg_run rfl ?_
  unfold b_reading_solved
  walk_at "vc"
  refine rows_w (by omega) hm2 h1 hn ho hk fun _ _ => ?_
  have hsl := fun u => slv_taken (m := m) (t := t) (u := u) (R := rowsL m hs bl r)
  generalize rowsL m hs bl r = R at *
  walk_at "vc"
  refine wl_compP (fun _ _ => true) (fun _ => fstR) ?_
  walk_at "vc"
  refine ⟨rfl, fits_of (by rw [List.length_map]; omega), fun d hd => ?_, ?_⟩
  · obtain ⟨x, _, rfl⟩ := List.mem_map.mp hd
    unfold rwD
    walk_at "vc"
    exact ⟨rfl, by walk_at "vc"; exact ⟨rfl, rfl⟩⟩
  · rw [filter_yes, fstR_rows]
    walk_at "vc"
    refine wl_compP (fun _ _ => true) (fun _ => dueR m t) ?_
    walk_at "vc"
    refine ⟨rfl, fits_of (by rw [List.length_map]; omega), fun d hd => ?_, ?_⟩
    · obtain ⟨x, hx, rfl⟩ := List.mem_map.mp hd
      obtain ⟨⟨a0, a1⟩, ⟨b0, b1⟩, c0, c1⟩ := hrw x hx
      unfold rwD
      walk_at "vc"
      exact ⟨rfl, by walk_at "vc"; exact ⟨rfl, rfl⟩⟩
    · rw [filter_yes, dueR_rows]
      walk_at "vc"
      refine numbersW_w hm hm2 (by rw [List.length_map, List.length_map]) (by rw [List.length_map]; omega) hG (fun f hf => ?_) (fun d hd => ?_) fun d _ _ _ hS => ?_
      · obtain ⟨x, hx, rfl⟩ := List.mem_map.mp hf
        exact (hrw x hx).1
      · obtain ⟨x, hx, rfl⟩ := List.mem_map.mp hd
        exact ⟨Int.emod_nonneg _ (by omega), Int.emod_lt_of_pos _ (by omega)⟩
      · walk_at "vc"
        refine q _ _ _ _ ?_
        rcases hS with ⟨es, rfl, h1, h2, h3, h4⟩ | ⟨x, ws, rfl, h2, h3, W, h⟩
        · exact .inl ⟨es, rfl, by rw [h1, List.length_map], h2, h3, h4⟩
        · exact .inr ⟨x, ws, rfl, h2, h3, W, fun u => by rw [← h u]; exact (hsl u).symm⟩
theorem rsolved_w {m t : Int} {hs : List Hd} {bl mir : Bool} {r : Rd} {Q : D → List Sl → Prop} (hm : 1 < m) (hm2 : m ≤ 10 ^ 60) (h1 : 1 ≤ hs.length) (hn : hs.length ≤ 5) (ho : SwOk hs.length r.1) (hk : HandsOk m hs) (hF : Fine m hs bl) (ht : t.natAbs < 10 ^ 120) (q : ∀ d x y z, OneOf m (fun u => takenB m (rowsL m hs bl r) t u = true) d → Q d [x, y, z]) :
    WG g_reading_solved [.val (clockD m hs bl mir), .val (rD r), .val (.int t)] Q :=
  rsolvedW_w hm hm2 h1 hn ho hk hF ht fun d x y z h => q d x y z h.weak

theorem tick_w {m t : Int} {hs : List Hd} {bl mir : Bool} {Q : D → List Sl → Prop} (hm : 1 < m) (hm2 : m ≤ 10 ^ 60) (h1 : 1 ≤ hs.length) (hn : hs.length ≤ 5) (hk : HandsOk m hs) (hF : Fine m hs bl) (ht : t.natAbs < 10 ^ 120) (q : ∀ d x y, TickOf m hs bl mir t d → Q d [x, y]) :
    WG g_tick_paper [.val (clockD m hs bl mir), .val (.int t)] Q := by
  have hrl : (readOf hs mir).length ≤ (swapsL (looksOf hs)).length * 2 := readL_len mir (swapsL (looksOf hs))
  have hsl := swapsGo_len (looksOf hs) (by rw [List.length_map]; omega) hs.length (by rw [List.length_map]; omega)
  rw [List.take_of_length_le (by rw [List.length_map]; omega)] at hsl
  have h5 := pow5 hn
  have hsl2 : (swapsL (looksOf hs)).length ≤ 3125 := Nat.le_trans hsl h5
  refine wg_run rfl ?_
  unfold b_tick_paper
  walk_at "vc"
  refine ws_forN (fun _ k e => ∃ (ps : List D) (x4 x5 : Sl), ps.length = k ∧ (∀ j (h1 : j < (readOf hs mir).length) (h2 : j < ps.length), TickPaper m (rowsL m hs bl (readOf hs mir)[j]) t ps[j]) ∧ e = [.val (clockD m hs bl mir), .val (.int t), .val (.int m), .own true ps, x4, x5]) ?_
  walk_at "vc"
  refine readings_w hn (fun h hh => (hk h hh).2.2.2.2) fun _ => ?_
  walk_at "vc"
  refine ⟨⟨[], _, _, rfl, fun j _ h => absurd h (Nat.not_lt_zero _), rfl⟩, ?_, ?_⟩
  · rintro k d e hkl hd ⟨ps, x4, x5, hpl, hM, rfl⟩
    rw [List.length_map] at hkl
    rw [List.getElem?_map, List.getElem?_eq_getElem hkl] at hd
    obtain rfl := Option.some.inj hd
    have hr := List.getElem_mem hkl
    have ho := (swapsL_ok (readL_mem hr).1).1
    rw [List.length_map] at ho
    have hM2 : ∀ d, TickPaper m (rowsL m hs bl (readOf hs mir)[k]) t d → ∀ j (h1 : j < (readOf hs mir).length) (h2 : j < (ps ++ [d]).length), TickPaper m (rowsL m hs bl (readOf hs mir)[j]) t (ps ++ [d])[j] := fun d hd j a b => by
      by_cases hjk : j < ps.length
      · rw [List.getElem_append_left hjk]
        exact hM j a hjk
      · have : j = k := by rw [List.length_append, List.length_singleton] at b; omega
        subst this
        rw [List.getElem_append_right (by omega)]
        simpa using hd
    generalize (readOf hs mir)[k] = r at *
    walk_at "vc"
    refine rsolvedW_w hm hm2 h1 hn ho hk hF ht fun d _ _ _ hO => ?_
    rcases hO with ⟨es, rfl, e1, e2, e3, e4⟩ | ⟨x, ws, rfl, hx0, hx1, W, hO⟩
    · walk_at "vc"
      exact ⟨_, _, _, by rw [List.length_append, hpl]; rfl, hM2 _ (.inl ⟨es, rfl, e1, e2, e3, e4⟩), rfl⟩
    · walk_at "vc"
      · rename_i hc
        have hc : x = t % m := by simpa using hc
        refine ⟨_, _, _, by rw [List.length_append, hpl]; rfl, hM2 _ (.inr ⟨ws, rfl, W, fun u => by rw [hO u, hc]⟩), rfl⟩
      · rename_i hc
        have hne : x ≠ t % m := by simpa using hc
        exact q _ _ _ (.inl ⟨x, r, rfl, hr, hx0, hx1, hne, (hO x).mpr (Int.emod_eq_of_lt hx0 hx1)⟩)
  · rintro e ⟨ps, x4, x5, hpl, hM, rfl⟩
    rw [List.length_map] at hpl
    walk_at "vc"
    exact q _ _ _ (.inr ⟨ps, rfl, hpl, hM⟩)

theorem numbersC_w {m t : Int} {fs : List Int} {Q : D → List Sl → Prop} (hm : 1 < m) (hm2 : m ≤ 10 ^ 60) (hl2 : fs.length ≤ 10) (hf : ∀ f ∈ fs, 0 ≤ f ∧ f < m) (q : ∀ (g : Int) (ws : List Int) x y z, Gd m fs g → 0 < g → g ≤ m → Q (.tuple [.str "all", .int (t % (m / g)), .int (m / g), .list (ws.map .int)]) [x, y, z]) :
    WG g_numbers_solved [.val (.int m), .val (.list (fs.map .int)), .val (.list ((fs.map fun f => f * t % m).map .int))] Q := by
  refine wg_run rfl ?_
  unfold b_numbers_solved
  walk_at "vc"
  refine wo_eqNil (n := 1) (lay_ints fs) ?_
  cases hfs : fs with
  | nil =>
    walk_at "vc"
    have := q m [] (.val (.int m)) (.val (.list (fs.map .int))) (.val (.list ((fs.map fun f => f * t % m).map .int))) (by rw [hfs]; exact Gd.start (by omega)) (by omega) (by omega)
    rw [Int.ediv_self (by omega), Int.emod_one, hfs] at this
    exact this
  | cons f0 fs' =>
    rw [← hfs]
    have he : (fs.map PyData.int).isEmpty = false := by rw [hfs]; rfl
    rw [he]
    walk_at "vc"
    refine weights_w (by omega) (by omega) (by omega) fun g ws _ _ W => ?_
    have hwl := W.len
    have hg := W.pos
    have hgm := Int.le_of_dvd (by omega) W.dm
    have hkp : 0 < m / g := Int.ediv_pos_of_pos_of_dvd (by omega) (by omega) W.dm
    obtain ⟨u1, u2, u3⟩ := due_of (t := t) (by omega) W
    have hd : ∀ n ∈ fs.map (fun f => f * t % m), 0 ≤ n ∧ n < m := fun n hn => by
      obtain ⟨f, _, rfl⟩ := List.mem_map.mp hn
      exact ⟨Int.emod_nonneg _ (by omega), Int.emod_lt_of_pos _ (by omega)⟩
    have hdl : (fs.map fun f => f * t % m).length = fs.length := List.length_map ..
    obtain ⟨ds, hds⟩ : ∃ ds, ds = fs.map fun f => f * t % m := ⟨_, rfl⟩
    have hdg : ∀ k (h : k < fs.length) (h' : k < ds.length), ds[k] = fs[k] * t % m := fun k h h' => by subst hds; exact List.getElem_map ..
    rw [← hds] at hd hdl u1 ⊢
    walk_at "vc"
    refine wl_compP (fun _ _ => true) (fun _ => mapT fun w d => w * d) ?_
    refine wl_zip ?_
    walk_at "vc"
    refine ⟨_, _, .inl ⟨rfl, rfl⟩, rfl, fits_of (by rw [pairs_ints, List.length_map, List.length_zip]; omega), fun d hd' => ?_, ?_⟩
    · rw [pairs_ints] at hd'
      obtain ⟨⟨w, n⟩, h1, rfl⟩ := List.mem_map.mp hd'
      have h2 := W.rng w (List.of_mem_zip h1).1
      have h3 := hd n (List.of_mem_zip h1).2
      walk_at "vc"
      exact ⟨rfl, by walk_at "vc"; exact ⟨rfl, rfl⟩⟩
    · rw [filter_yes, mapT_pairs]
      walk_at "vc"
      refine wo_sum rfl ?_
      rw [dot_sum1]
      walk_at "vc"
      rw [u1]
      have hd0 := Int.emod_nonneg (t * g) (show m ≠ 0 by omega)
      have hd1 := Int.emod_lt_of_pos (t * g) (show 0 < m by omega)
      refine ws_forN (fun _ k e => ∃ x6 x7 x8 : Sl, e = [.val (.int m), .val (.list (fs.map .int)), .val (.list (ds.map .int)), .val (.int g), .val (.list (ws.map .int)), .val (.int (t * g % m)), x6, x7, x8, .no, .no, .no]) ?_
      walk_at "vc"
      refine ⟨⟨_, _, _, rfl⟩, ?_, ?_⟩
      · rintro k d e hkl hdd ⟨x6, x7, x8, rfl⟩
        obtain ⟨hk, rfl⟩ := enum_at hdd
        have hkd : k < ds.length := by omega
        have hfk := hf fs[k] (List.getElem_mem _)
        have hu := u3 fs[k] (List.getElem_mem _)
        have hq0 := Int.ediv_nonneg hfk.1 (show 0 ≤ g by omega)
        have hq1 : fs[k] / g ≤ fs[k] := Int.ediv_le_self _ hfk.1
        rw [← hdg k hk hkd] at hu
        have hdk := hd ds[k] (List.getElem_mem _)
        generalize t * g % m = v at *
        walk_at "vc"
        refine wo_idxI hkd ?_
        walk_at "vc"
        exact ⟨_, _, _, rfl⟩
      · rintro e ⟨x6, x7, x8, rfl⟩
        walk_at "vc"
        rw [u2]
        exact q g ws _ _ _ W.gd hg hgm
theorem rsolvedC_w {m t : Int} {hs : List Hd} {bl mir : Bool} {Q : D → List Sl → Prop} (hm : 1 < m) (hm2 : m ≤ 10 ^ 60) (h1 : 1 ≤ hs.length) (hn : hs.length ≤ 5) (hk : HandsOk m hs) (ht : t.natAbs < 10 ^ 120)
    (q : ∀ (g : Int) (ws : List Int) x y z, Gd m (firstsL m hs bl) g → 0 < g → g ≤ m → Q (.tuple [.str "all", .int (t % (m / g)), .int (m / g), .list (ws.map .int)]) [x, y, z]) :
    WG g_reading_solved [.val (clockD m hs bl mir), .val (rD (List.range hs.length, false)), .val (.int t)] Q := by
  have ho := swOk_range hs.length
  have hrw := rowsL_rng (bl := bl) (show 0 < m by omega) hk (r := (List.range hs.length, false)) ho
  have hrl := rowsL_len m hs bl (List.range hs.length, false)
  have hid := rows_id (m := m) (bl := bl) hk
  have hfi := rowsL_firsts (show 0 < m by omega) hs bl
  refine wg_run rfl ?_
  unfold b_reading_solved
  walk_at "vc"
  refine rows_w (by omega) hm2 h1 hn ho hk fun _ _ => ?_
  generalize rowsL m hs bl (List.range hs.length, false) = R at *
  walk_at "vc"
  refine wl_compP (fun _ _ => true) (fun _ => fstR) ?_
  walk_at "vc"
  refine ⟨rfl, fits_of (by rw [List.length_map]; omega), fun d hd => ?_, ?_⟩
  · obtain ⟨x, _, rfl⟩ := List.mem_map.mp hd
    unfold rwD
    walk_at "vc"
    exact ⟨rfl, by walk_at "vc"; exact ⟨rfl, rfl⟩⟩
  · rw [filter_yes, fstR_rows]
    walk_at "vc"
    refine wl_compP (fun _ _ => true) (fun _ => dueR m t) ?_
    walk_at "vc"
    refine ⟨rfl, fits_of (by rw [List.length_map]; omega), fun d hd => ?_, ?_⟩
    · obtain ⟨x, hx, rfl⟩ := List.mem_map.mp hd
      obtain ⟨⟨a0, a1⟩, ⟨b0, b1⟩, c0, c1⟩ := hrw x hx
      unfold rwD
      walk_at "vc"
      exact ⟨rfl, by walk_at "vc"; exact ⟨rfl, rfl⟩⟩
    · rw [filter_yes, dueR_rows]
      have hdu : (R.map fun r => (r.2.1 * t + r.2.2) % m) = (R.map (·.1)).map fun f => f * t % m := by
        rw [List.map_map]
        refine List.map_congr_left fun r hr => ?_
        obtain ⟨e1, e2⟩ := hid r hr
        show (r.2.1 * t + r.2.2) % m = r.1 * t % m
        rw [e1, e2, Int.add_zero]
      rw [hdu]
      walk_at "vc"
      refine numbersC_w hm hm2 (by rw [List.length_map]; omega) (fun f hf => ?_) fun g ws _ _ _ hg h0 h2 => ?_
      · obtain ⟨x, hx, rfl⟩ := List.mem_map.mp hf
        exact (hrw x hx).1
      · walk_at "vc"
        rw [hfi] at hg
        exact q g ws _ _ _ hg h0 h2
theorem tickA_w {m t : Int} {hs : List Hd} {bl mir : Bool} {Q : D → List Sl → Prop} (hm : 1 < m) (hm2 : m ≤ 10 ^ 60) (h1 : 1 ≤ hs.length) (hn : hs.length ≤ 5) (hk : HandsOk m hs) (ht : t.natAbs < 10 ^ 120) (q : ∀ d x y, TickOf m hs bl mir t d → Q d [x, y]) :
    WG g_tick_paper [.val (clockD m hs bl mir), .val (.int t)] Q := by
  by_cases hF : Fine m hs bl
  · exact tick_w hm hm2 h1 hn hk hF ht q
  have hrl : (readOf hs mir).length ≤ (swapsL (looksOf hs)).length * 2 := readL_len mir (swapsL (looksOf hs))
  have hsl := swapsGo_len (looksOf hs) (by rw [List.length_map]; omega) hs.length (by rw [List.length_map]; omega)
  rw [List.take_of_length_le (by rw [List.length_map]; omega)] at hsl
  have h5 := pow5 hn
  have hsl2 : (swapsL (looksOf hs)).length ≤ 3125 := Nat.le_trans hsl h5
  obtain ⟨r, e⟩ := swapsL_head (looksOf hs)
  obtain ⟨tl, e2⟩ := readL_head (mir := mir) (o := List.range (looksOf hs).length) (r := r)
  rw [← e] at e2
  have e3 : readOf hs mir = (List.range hs.length, false) :: tl := by
    have : (looksOf hs).length = hs.length := List.length_map ..
    rw [this] at e2
    exact e2
  have hid := rows_id (m := m) (bl := bl) hk
  have hfi := rowsL_firsts (show 0 < m by omega) hs bl
  refine wg_run rfl ?_
  unfold b_tick_paper
  walk_at "vc"
  refine ws_forN (fun _ k e => k = 0 ∧ e = [.val (clockD m hs bl mir), .val (.int t), .val (.int m), .own true [], .no, .no]) ?_
  walk_at "vc"
  refine readings_w hn (fun h hh => (hk h hh).2.2.2.2) fun _ => ?_
  walk_at "vc"
  refine ⟨⟨rfl, rfl⟩, ?_, ?_⟩
  · rintro k d e hkl hd ⟨rfl, rfl⟩
    rw [e3] at hd
    obtain rfl := Option.some.inj hd
    walk_at "vc"
    refine rsolvedC_w hm hm2 h1 hn hk ht fun g ws _ _ _ hg hg0 hg1 => ?_
    obtain ⟨c, hc⟩ := hg.dm
    have ec : m / g = c := by rw [hc, Int.mul_ediv_cancel_left _ (by omega)]
    have hcp : 0 < c := by
      rcases Int.lt_or_le 0 c with h | h
      · exact h
      · exfalso
        have := Int.mul_nonpos_of_nonneg_of_nonpos (show 0 ≤ g by omega) h
        omega
    have hg2 : g ≠ 1 := fun e => hF (by rw [e] at hg; exact hg)
    have hcm : c < m := by
      have : (g - 2) * c ≥ 0 := Int.mul_nonneg (by omega) (by omega)
      have : (g - 2) * c = m - 2 * c := by rw [hc]; grind
      omega
    rw [ec]
    walk_at "vc"
    · refine q _ _ _ (.inl ⟨(t + c) % m, _, rfl, by rw [e3]; exact List.mem_cons_self, Int.emod_nonneg _ (by omega), Int.emod_lt_of_pos _ (by omega), fun e => ?_, ?_⟩)
      · have h3 := mod_eq_dvd.mp e
        have := Int.le_of_dvd (by omega) (show m ∣ c by obtain ⟨y, hy⟩ := h3; exact ⟨y, by omega⟩)
        omega
      · unfold takenB
        refine List.all_eq_true.mpr fun r hr => decide_eq_true (Int.emod_eq_zero_of_dvd ?_)
        obtain ⟨e1, e2⟩ := hid r hr
        have hr1 : g ∣ r.1 := hg.dn _ (by rw [← hfi]; exact List.mem_map.mpr ⟨r, hr, rfl⟩)
        obtain ⟨p, hp⟩ := hr1
        obtain ⟨y, hy⟩ := dvd_mod_sub m (t + c)
        rw [e1, e2]
        exact ⟨p + r.1 * y, by grind⟩
  · rintro e ⟨h, rfl⟩
    rw [e3] at h
    cases h

theorem fine_w {m : Int} {hs : List Hd} {bl mir : Bool} {Q : D → List Sl → Prop} (hm : 0 < m) (hm2 : m ≤ 10 ^ 60) (h1 : 1 ≤ hs.length) (hn : hs.length ≤ 5) (hk : HandsOk m hs) (hF : Fine m hs bl) (q : ∀ x, Q .none [x]) :
    WG g_ask_fine [.val (clockD m hs bl mir)] Q := by
  refine wg_run rfl ?_
  unfold b_ask_fine
  walk_at "vc"
  refine coarse_w hm hm2 h1 hn hk fun g ws _ W => ?_
  obtain rfl := W.gd.uniq hF
  rw [Int.ediv_one]
  walk_at "vc"
  · exact q _
theorem rivals_w {m t : Int} {hs : List Hd} {bl mir : Bool} {Q : D → List Sl → Prop} (hm : 1 < m) (hm2 : m ≤ 10 ^ 60) (h1 : 1 ≤ hs.length) (hn : hs.length ≤ 5) (hk : HandsOk m hs) (hF : Fine m hs bl) (ht : t.natAbs < 10 ^ 120) (q : ∀ L x y, L.length ≤ 6250 → RivOf m hs bl mir t L → Q (.list (L.map .int)) [x, y]) :
    WG g_rivals_of [.val (clockD m hs bl mir), .val (.int t)] Q := by
  have hrl : (readOf hs mir).length ≤ (swapsL (looksOf hs)).length * 2 := readL_len mir (swapsL (looksOf hs))
  have hsl := swapsGo_len (looksOf hs) (by rw [List.length_map]; omega) hs.length (by rw [List.length_map]; omega)
  rw [List.take_of_length_le (by rw [List.length_map]; omega)] at hsl
  have h5 := pow5 hn
  have hsl2 : (swapsL (looksOf hs)).length ≤ 3125 := Nat.le_trans hsl h5
  refine wg_run rfl ?_
  unfold b_rivals_of
  walk_at "vc"
  refine fine_w (by omega) hm2 h1 hn hk hF fun _ => ?_
  walk_at "vc"
  refine ws_forN (fun _ k e => ∃ (xs : List Int) (x3 x4 : Sl), xs.length ≤ k ∧ Met m (fun u => u ≠ t % m) (fun u => ∃ rd ∈ (readOf hs mir).take k, takenB m (rowsL m hs bl rd) t u = true) xs ∧ e = [.val (clockD m hs bl mir), .val (.int t), .own true (xs.map .int), x3, x4]) ?_
  walk_at "vc"
  refine readings_w hn (fun h hh => (hk h hh).2.2.2.2) fun _ => ?_
  walk_at "vc"
  refine ⟨⟨[], _, _, Nat.le_refl 0, (Met.nil m _).cong fun u => by simp, rfl⟩, ?_, ?_⟩
  · rintro k d e hkl hd ⟨xs, x3, x4, hxl, hM, rfl⟩
    rw [List.length_map] at hkl
    rw [List.getElem?_map, List.getElem?_eq_getElem hkl] at hd
    obtain rfl := Option.some.inj hd
    have hr := List.getElem_mem hkl
    have ho := (swapsL_ok (readL_mem hr).1).1
    rw [List.length_map] at ho
    have hstep : ∀ ys, Met m (fun u => u ≠ t % m) (fun u => (∃ rd ∈ (readOf hs mir).take k, takenB m (rowsL m hs bl rd) t u = true) ∨ takenB m (rowsL m hs bl (readOf hs mir)[k]) t u = true) ys → Met m (fun u => u ≠ t % m) (fun u => ∃ rd ∈ (readOf hs mir).take (k + 1), takenB m (rowsL m hs bl rd) t u = true) ys := fun ys h => h.cong fun u => take_or hkl _
    generalize (readOf hs mir)[k] = r at *
    walk_at "vc"
    refine rsolved_w hm hm2 h1 hn ho hk hF ht fun d _ _ _ hO => ?_
    rcases hO with ⟨e, rfl, hO⟩ | ⟨x, e, rfl, hx0, hx1, hO⟩
    · walk_at "vc"
      exact ⟨xs, _, _, by omega, hstep xs (hM.not hO), rfl⟩
    · walk_at "vc"
      · rename_i hc
        exact ⟨xs, _, _, by omega, hstep xs (hM.old hO (.inl (by simpa using hc))), rfl⟩
      · rename_i hc
        have hne : x ≠ t % m := by simpa using hc
        refine wo_niI ?_
        refine ifb_not (ifb_dec (fun hx => ?_) fun hx => ?_)
        · walk_at "vc"
          exact ⟨xs, _, _, by omega, hstep xs (hM.old hO (.inr hx)), rfl⟩
        · walk_at "vc"
          exact ⟨xs ++ [x], _, _, by rw [List.length_append]; show xs.length + 1 ≤ _; omega, hstep _ (hM.new hO hx0 hx1 hne hx), by rw [List.map_append]; rfl⟩
  · rintro e ⟨xs, x3, x4, hxl, hM, rfl⟩
    rw [List.length_map] at hxl hM
    walk_at "vc"
    refine wo_sortedI hM.1 fun L hp hL => ?_
    walk_at "vc"
    refine q L _ _ (by rw [hp.length_eq]; omega) ⟨hL, fun u => ?_⟩
    rw [hp.mem_iff, hM.2 u, show_iff (by omega), List.take_length]

theorem marksG_w {m : Int} {hs : List Hd} {bl mir : Bool} {P : List Pc} {Q : D → List Sl → Prop} (hn : hs.length ≤ 5) (hk : ∀ h ∈ hs, isLk h.2.2) (hP : PcOk P) (hPl : P.length ≤ 100) (q1 : ∀ ms x y, ms.length = hs.length → (pairL hs ms).Perm P → Q (.list (ms.map .int)) [x, y]) (q2 : ∀ x y, ¬ (P.map (·.1)).Perm (looksOf hs) → Q .none [x, y]) :
    WG g_marks_by_hand [.val (clockD m hs bl mir), .val (.list (P.map pD))] Q := by
  refine wg_run rfl ?_
  unfold b_marks_by_hand
  walk_at "vc"
  refine wo_sortedP ?_
  walk_at "vc"
  refine ws_forN (fun _ k e => ∃ (ls : List Pc) (ms : List Int) (x4 x5 x6 x7 : Sl), PcOk ls ∧ ms.length = k ∧ (pairL (hs.take k) ms ++ ls).Perm P ∧ e = [.val (clockD m hs bl mir), .val (.list (P.map pD)), .own true (ls.map pD), .own true (ms.map .int), x4, x5, x6, x7, .no]) ?_
  walk_at "vc"
  refine ⟨⟨sortP P, [], _, _, _, _, hP.sort, rfl, sortP_perm P, rfl⟩, ?_, ?_⟩
  · rintro k d e hkl hd ⟨ls, ms, x4, x5, x6, x7, hok, hml, hpm, rfl⟩
    rw [List.length_map] at hkl
    rw [List.getElem?_map, List.getElem?_eq_getElem hkl] at hd
    obtain rfl := Option.some.inj hd
    have hlx := hk hs[k] (List.getElem_mem _)
    have hll : ls.length ≤ 100 := by
      have := hpm.length_eq
      rw [List.length_append] at this
      omega
    have hdk : (looksOf hs).drop k = hs[k].2.2 :: (looksOf hs).drop (k + 1) := by
      rw [List.drop_eq_getElem_cons (by rw [List.length_map]; exact hkl), List.getElem_map]
    have htk : hs.take (k + 1) = hs.take k ++ [hs[k]] := List.take_succ_eq_append_getElem hkl
    have hlk := left_looks (by omega) hml hpm
    generalize hs[k] = hh at *
    unfold hD
    walk_at "vc"
    refine wl_compP (fun _ => lookP hh.2.2) (fun _ d => d) ?_
    walk_at "vc"
    refine ⟨rfl, fits_of (by rw [List.length_map]; omega), fun d hd => ?_, ?_⟩
    · obtain ⟨x, hx, rfl⟩ := List.mem_map.mp hd
      unfold pD
      walk_at "vc"
      refine wo_eqS (hok x hx) hlx ?_
      exact ⟨rfl, ifb_any (fun _ => by walk_at "vc"; exact ⟨rfl, rfl⟩) fun _ => rfl⟩
    · rw [List.map_id', lookP_pic]
      refine ⟨lfree_pDs _, ?_⟩
      cases hF : ls.filter (fun p => decide (p.1 = hh.2.2)) with
      | nil =>
        walk_at "vc"
        refine q2 _ _ fun hl => ?_
        have hmem : hh.2.2 ∈ ls.map (·.1) := (hlk hl).mem_iff.mpr (by rw [hdk]; exact List.mem_cons_self)
        obtain ⟨p0, hp0, hp1⟩ := List.mem_map.mp hmem
        have := List.filter_eq_nil_iff.mp hF p0 hp0
        exact this (decide_eq_true hp1)
      | cons p F =>
        have hpf : p ∈ ls.filter fun p => decide (p.1 = hh.2.2) := by rw [hF]; exact List.mem_cons_self
        obtain ⟨hpl, hpe⟩ := List.mem_filter.mp hpf
        have hpe := of_decide_eq_true hpe
        have hFok : PcOk (p :: F) := fun x hx => hok x (List.mem_filter.mp (by rw [hF]; exact hx)).1
        obtain ⟨j, hj1, hj2⟩ := place_pD hpl
        walk_at "vc"
        refine wo_eqNil (n := 2) (lay_pDs (n := 0) hFok) ?_
        rw [List.map_cons]
        walk_at "vc"
        refine wo_hd ?_
        rw [show pD p = .tuple [.str p.1, .int p.2] from rfl]
        walk_at "vc"
        refine wo_hd ?_
        walk_at "vc"
        refine wo_remove ((lay_pD (n := 0) (hok p hpl)).shp (by omega)) ((lay_pDs (n := 0) hok).shp (by omega)) hj1 ?_
        rw [hj2]
        walk_at "vc"
        refine ⟨ls.erase p, ms ++ [p.2], _, _, _, _, fun x hx => hok x (List.mem_of_mem_erase hx), by rw [List.length_append, hml]; rfl, ?_, by rw [List.map_append]; rfl⟩
        have e : pairL (hs.take k ++ [hh]) (ms ++ [p.2]) = pairL (hs.take k) ms ++ [p] := by
          unfold pairL
          rw [List.zipWith_append (by rw [List.length_take]; omega)]
          show _ ++ [(hh.2.2, p.2)] = _
          rw [← hpe]
        rw [htk, e, List.append_assoc]
        refine List.Perm.trans ?_ hpm
        exact List.Perm.append_left _ (List.perm_cons_erase hpl).symm
  · rintro e ⟨ls, ms, x4, x5, x6, x7, hok, hml, hpm, rfl⟩
    rw [List.length_map] at hml hpm
    have hlk := left_looks (Nat.le_refl _) hml hpm
    walk_at "vc"
    refine wo_neNil (n := 2) (lay_pDs (n := 0) hok) ?_
    cases ls with
    | nil =>
      rw [List.append_nil, List.take_length] at hpm
      walk_at "vc"
      exact q1 ms _ _ hml hpm
    | cons p ls =>
      walk_at "vc"
      refine q2 _ _ fun hl => ?_
      have := (hlk hl).length_eq
      rw [List.length_map, List.length_drop, List.length_map, List.length_cons] at this
      omega

theorem msolved_w {m : Int} {hs : List Hd} {bl mir : Bool} {r : Rd} {ms : List Int} {Q : D → List Sl → Prop} (hm : 1 < m) (hm2 : m ≤ 10 ^ 60) (h1 : 1 ≤ hs.length) (hn : hs.length ≤ 5) (ho : SwOk hs.length r.1) (hk : HandsOk m hs) (hF : Fine m hs bl) (hml : ms.length = hs.length) (hmr : ∀ k ∈ ms, 0 ≤ k ∧ k < m) (q : ∀ d x y z, OneOf m (Gives m hs bl ms r) d → Q d [x, y, z]) :
    WG g_marks_solved [.val (clockD m hs bl mir), .val (rD r), .val (.list (ms.map .int))] Q := by
  have hrw := rowsL_rng (bl := bl) (show 0 < m by omega) hk ho
  have hrl := rowsL_len m hs bl r
  have hG := Fine.rows (by omega) h1 ho hF
  obtain ⟨o, mv⟩ := r
  have hrl2 := rowsL_len2 (m := m) (bl := bl) (r := (o, mv)) ho.len
  have hvl := movedL_len (bl := bl) (mv := mv) hml
  have hsl := fun u => slv_gives (m := m) (u := u) (bl := bl) (mv := mv) h1 ho.len hml
  have hsg : (sgn mv).natAbs ≤ 1 := by cases mv <;> decide
  refine wg_run rfl ?_
  unfold b_marks_solved
  walk_at "nr"
  refine ws_mid (fun e => e = [.val (clockD m hs bl mir), .val (rD (o, mv)), .val (.list (ms.map .int)), .val (.int m), .no, .no, .no, .no, .no, .no, .no]) (by walk_at "vc"; rfl) ?_
  rintro _ rfl
  refine ws_mid (fun e => e = [.val (clockD m hs bl mir), .val (rD (o, mv)), .val (.list (ms.map .int)), .val (.int m), .val (.int (sgn mv)), .no, .no, .no, .no, .no, .no]) (by unfold rD; cases mv <;> (walk_at "vc"; rfl)) ?_
  rintro _ rfl
  refine ws_mid (fun e => e = [.val (clockD m hs bl mir), .val (rD (o, mv)), .val (.list (ms.map .int)), .val (.int m), .val (.int (sgn mv)), .val (.list ((List.zipWith (fun k h => sgn mv * (k - h.2.1)) ms hs).map .int)), .no, .no, .no, .no, .no]) ?_ ?_
  · walk_at "vc"
    refine wl_compP (fun _ _ => true) (fun _ => mvF (sgn mv)) ?_
    refine wl_zipM ?_
    walk_at "vc"
    refine ⟨_, _, rfl, rfl, rfl, fits_of (by rw [M.pairs_len, List.length_map, List.length_map]; omega), fun d hd => ?_, ?_⟩
    · obtain ⟨k, hk1, x, hx, rfl⟩ := zip_mem2 hd
      obtain ⟨a0, a1, b0, b1, _⟩ := hk x hx
      have := hmr k hk1
      unfold hD
      walk_at "vc"
      exact ⟨rfl, by walk_at "vc"; exact ⟨rfl, rfl⟩⟩
    · rw [filter_yes, mvF_pairs]
      walk_at "vc"
      rfl
  rintro _ rfl
  refine ws_mid (fun e => e = [.val (clockD m hs bl mir), .val (rD (o, mv)), .val (.list (ms.map .int)), .val (.int m), .val (.int (sgn mv)), .val (.list ((movedL hs bl mv ms).map .int)), .no, .no, .no, .no, .no]) ?_ ?_
  · cases bl
    · walk_at "vc"
      rfl
    · unfold movedL at *
      have hz : (List.zipWith (fun k h => sgn mv * (k - h.2.1)) ms hs).length = hs.length := by rw [List.length_zipWith]; omega
      generalize List.zipWith (fun k h => sgn mv * (k - h.2.1)) ms hs = vs at *
      cases vs with
      | nil => rw [List.length_nil] at hz; omega
      | cons v0 vs =>
        walk_at "vc"
        rw [List.map_cons]
        refine wl_compP (fun _ _ => true) (fun _ => mapI fun x => x - v0) ?_
        walk_at "vc"
        rw [cut_one]
        refine ⟨rfl, fits_of (by simp at hz ⊢; omega), fun d hd => ?_, ?_⟩
        · obtain ⟨x, _, rfl⟩ := List.mem_map.mp hd
          walk_at "vc"
          refine ⟨rfl, ?_⟩
          walk_at "vc"
          refine wo_hd ?_
          walk_at "vc"
          exact ⟨rfl, rfl⟩
        · rw [filter_yes, subI]
          walk_at "vc"
          rfl
  rintro _ rfl
  walk_at "vc"
  refine rows_w (by omega) hm2 h1 hn ho hk fun _ _ => ?_
  generalize rowsL m hs bl (o, mv) = R at *
  generalize movedL hs bl mv ms = vs at *
  have hRv : R.length = vs.length := by rw [hrl2, hvl]
  walk_at "vc"
  refine wl_compP (fun _ _ => true) (fun _ => fstR) ?_
  walk_at "vc"
  refine ⟨rfl, fits_of (by rw [List.length_map]; omega), fun d hd => ?_, ?_⟩
  · obtain ⟨x, _, rfl⟩ := List.mem_map.mp hd
    unfold rwD
    walk_at "vc"
    exact ⟨rfl, by walk_at "vc"; exact ⟨rfl, rfl⟩⟩
  · rw [filter_yes, fstR_rows]
    walk_at "vc"
    refine wl_compP (fun _ _ => true) (fun _ => dueD m) ?_
    refine wl_zip ?_
    walk_at "vc"
    refine ⟨_, _, .inl ⟨rfl, rfl⟩, rfl, fits_of (by rw [M.pairs_len, List.length_map, List.length_map]; omega), fun d hd => ?_, ?_⟩
    · obtain ⟨x, hx, y, hy, rfl⟩ := zip_mem2 hd
      unfold rwD
      walk_at "vc"
      exact ⟨rfl, by walk_at "vc"; exact ⟨rfl, rfl⟩⟩
    · rw [filter_yes, dueD_pairs]
      walk_at "vc"
      refine numbers_w hm hm2 (by rw [List.length_map, List.length_zipWith]; omega) (by rw [List.length_map]; omega) hG (fun f hf => ?_) (fun d hd => ?_) fun d _ _ _ hS => ?_
      · obtain ⟨x, hx, rfl⟩ := List.mem_map.mp hf
        exact (hrw x hx).1
      · obtain ⟨i, hi, rfl⟩ := List.mem_iff_getElem.mp hd
        rw [List.getElem_zipWith]
        exact ⟨Int.emod_nonneg _ (by omega), Int.emod_lt_of_pos _ (by omega)⟩
      · walk_at "vc"
        refine q _ _ _ _ ?_
        rcases hS with ⟨e, rfl, h⟩ | ⟨x, e, rfl, h2, h3, h⟩
        · exact .inl ⟨e, rfl, fun u k => h u ((hsl u).mpr k)⟩
        · exact .inr ⟨x, e, rfl, h2, h3, fun u => by rw [← h u]; exact (hsl u).symm⟩

theorem readG_w {m : Int} {hs : List Hd} {bl mir : Bool} {P : List Pc} {Q : D → List Sl → Prop} (hm : 1 < m) (hm2 : m ≤ 10 ^ 60) (h1 : 1 ≤ hs.length) (hn : hs.length ≤ 5) (hk : HandsOk m hs) (hF : Fine m hs bl) (hP : PcOk P) (hPi : InM m P) (hPl : P.length ≤ 100) (q : ∀ L x y, L.length ≤ 6250 → ReadG m hs bl mir P L → Q (.list (L.map .int)) [x, y]) :
    WG g_read_picture [.val (clockD m hs bl mir), .val (.list (P.map pD))] Q := by
  have hlk : ∀ h ∈ hs, isLk h.2.2 := fun h hh => (hk h hh).2.2.2.2
  have hrl : (readOf hs mir).length ≤ (swapsL (looksOf hs)).length * 2 := readL_len mir (swapsL (looksOf hs))
  have hsl := swapsGo_len (looksOf hs) (by rw [List.length_map]; omega) hs.length (by rw [List.length_map]; omega)
  rw [List.take_of_length_le (by rw [List.length_map]; omega)] at hsl
  have h5 := pow5 hn
  have hsl2 : (swapsL (looksOf hs)).length ≤ 3125 := Nat.le_trans hsl h5
  refine wg_run rfl ?_
  unfold b_read_picture
  walk_at "vc"
  refine fine_w (by omega) hm2 h1 hn hk hF fun _ => ?_
  walk_at "vc"
  refine marksG_w hn hlk hP hPl (fun ms _ _ hml hpm => ?_) fun _ _ hno => ?_
  rotate_left
  · walk_at "vc"
    refine wo_sortedI (xs := []) List.nodup_nil fun L hp _ => ?_
    obtain rfl := hp.eq_nil
    walk_at "vc"
    refine q [] _ _ (Nat.zero_le _) ⟨.nil, fun u => ⟨fun h => (by cases h), fun h => absurd h.2.looks hno⟩⟩
  have hmr := pairL_in hml hpm hPi
  have hsh : ∀ u, ShowP m hs bl mir P u ↔ ∃ rd ∈ readOf hs mir, Gives m hs bl ms rd u := fun u => (ShowP.perm (hpm.symm)).trans (showP_iff hml)
  walk_at "vc"
  refine ws_forN (fun _ k e => ∃ (xs : List Int) (x4 x5 : Sl), xs.length ≤ k ∧ Met m (fun _ => True) (fun u => ∃ rd ∈ (readOf hs mir).take k, Gives m hs bl ms rd u) xs ∧ e = [.val (clockD m hs bl mir), .val (.list (P.map pD)), .val (.list (ms.map .int)), .own true (xs.map .int), x4, x5]) ?_
  walk_at "vc"
  refine readings_w hn hlk fun _ => ?_
  walk_at "vc"
  refine ⟨⟨[], _, _, Nat.le_refl 0, (Met.nil m _).cong fun u => by simp, rfl⟩, ?_, ?_⟩
  · rintro k d e hkl hd ⟨xs, x4, x5, hxl, hM, rfl⟩
    rw [List.length_map] at hkl
    rw [List.getElem?_map, List.getElem?_eq_getElem hkl] at hd
    obtain rfl := Option.some.inj hd
    have hr := List.getElem_mem hkl
    have ho := (swapsL_ok (readL_mem hr).1).1
    rw [List.length_map] at ho
    have hstep : ∀ ys, Met m (fun _ => True) (fun u => (∃ rd ∈ (readOf hs mir).take k, Gives m hs bl ms rd u) ∨ Gives m hs bl ms (readOf hs mir)[k] u) ys → Met m (fun _ => True) (fun u => ∃ rd ∈ (readOf hs mir).take (k + 1), Gives m hs bl ms rd u) ys := fun ys h => h.cong fun u => take_or hkl _
    generalize (readOf hs mir)[k] = r at *
    walk_at "vc"
    refine msolved_w hm hm2 h1 hn ho hk hF hml hmr fun d _ _ _ hO => ?_
    rcases hO with ⟨e, rfl, hO⟩ | ⟨x, e, rfl, hx0, hx1, hO⟩
    · walk_at "vc"
      exact ⟨xs, _, _, by omega, hstep xs (hM.not hO), rfl⟩
    · walk_at "vc"
      refine wo_niI ?_
      refine ifb_not (ifb_dec (fun hx => ?_) fun hx => ?_)
      · walk_at "vc"
        exact ⟨xs, _, _, by omega, hstep xs (hM.old hO (.inr hx)), rfl⟩
      · walk_at "vc"
        exact ⟨xs ++ [x], _, _, by rw [List.length_append]; show xs.length + 1 ≤ _; omega, hstep _ (hM.new hO hx0 hx1 trivial hx), by rw [List.map_append]; rfl⟩
  · rintro e ⟨xs, x4, x5, hxl, hM, rfl⟩
    rw [List.length_map] at hxl hM
    walk_at "vc"
    refine wo_sortedI hM.1 fun L hp hL => ?_
    walk_at "vc"
    refine q L _ _ (by rw [hp.length_eq]; omega) ⟨hL, fun u => ?_⟩
    rw [hp.mem_iff, hM.2 u, hsh u, List.take_length]
    exact ⟨fun h => ⟨h.1, h.2.2⟩, fun h => ⟨h.1, trivial, h.2⟩⟩

theorem picture_w {m t : Int} {hs : List Hd} {bl mir : Bool} {Q : D → List Sl → Prop} (hm : 0 < m) (hm2 : m ≤ 10 ^ 60) (hn : hs.length ≤ 5) (hk : HandsOk m hs) (ht : t.natAbs < 10 ^ 120) (q : ∀ x y, Q (.list ((sortP (picL m hs t)).map pD)) [x, y]) :
    WG g_picture_of [.val (clockD m hs bl mir), .val (.int t)] Q := by
  refine wg_run rfl ?_
  unfold b_picture_of
  walk_at "vc"
  refine wl_compP (fun _ _ => true) (fun _ => picD m t) ?_
  walk_at "vc"
  refine ⟨rfl, fits_of (by rw [List.length_map]; omega), fun d hd => ?_, ?_⟩
  · obtain ⟨x, hx, rfl⟩ := List.mem_map.mp hd
    obtain ⟨a0, a1, b0, b1, _⟩ := hk x hx
    unfold hD
    walk_at "vc"
    refine ⟨rfl, ?_⟩
    walk_at "vc"
    exact ⟨rfl, rfl⟩
  · rw [filter_yes, picD_hands]
    walk_at "vc"
    refine wo_sortedP ?_
    walk_at "vc"
    exact q _ _
theorem moved_w {m sg r : Int} {l : List Pc} {Q : D → List Sl → Prop} (hm : 0 < m) (hs : sg.natAbs ≤ 1) (hl : l.length ≤ 100) (q : ∀ x y z w, Q (.list ((sortP (movL m sg r l)).map pD)) [x, y, z, w]) :
    WG g_moved [.val (.int m), .val (.list (l.map pD)), .val (.int sg), .val (.int r)] Q := by
  refine wg_run rfl ?_
  unfold b_moved
  walk_at "vc"
  refine wl_compP (fun _ _ => true) (fun _ => movD m sg r) ?_
  walk_at "vc"
  refine ⟨rfl, fits_of (by rw [List.length_map]; omega), fun d hd => ?_, ?_⟩
  · obtain ⟨x, hx, rfl⟩ := List.mem_map.mp hd
    unfold pD
    walk_at "vc"
    refine ⟨rfl, ?_⟩
    walk_at "vc"
    exact ⟨rfl, rfl⟩
  · rw [filter_yes, movD_pic]
    walk_at "vc"
    refine wo_sortedP ?_
    walk_at "vc"
    exact q _ _ _ _
theorem same_w {m t u : Int} {hs : List Hd} {bl mir : Bool} {Q : D → List Sl → Prop} (hm : 0 < m) (hm2 : m ≤ 10 ^ 60) (h1 : 1 ≤ hs.length) (hn : hs.length ≤ 5) (hk : HandsOk m hs) (ht : t.natAbs < 10 ^ 120) (hu : u.natAbs < 10 ^ 120) (q : ∀ x y z, Q (.bool (showB m hs bl mir t u)) [x, y, z]) :
    WG g_same_picture [.val (clockD m hs bl mir), .val (.int t), .val (.int u)] Q := by
  have hlk : ∀ h ∈ hs, isLk h.2.2 := fun h hh => (hk h hh).2.2.2.2
  have hlt : (sortP (picL m hs t)).length = hs.length := by rw [(sortP_perm _).length_eq]; unfold picL; rw [List.length_map]
  have hlu : (sortP (picL m hs u)).length = hs.length := by rw [(sortP_perm _).length_eq]; unfold picL; rw [List.length_map]
  have hokt : PcOk (sortP (picL m hs t)) := (picL_ok hlk).sort
  have hoku : PcOk (sortP (picL m hs u)) := (picL_ok hlk).sort
  obtain ⟨p0, l', hp⟩ : ∃ p0 l', sortP (picL m hs t) = p0 :: l' := by
    generalize sortP (picL m hs t) = l at *
    cases l with
    | nil => rw [List.length_nil] at hlt; omega
    | cons a l => exact ⟨a, l, rfl⟩
  refine wg_run rfl ?_
  unfold b_same_picture
  walk_at "vc"
  refine picture_w hm hm2 hn hk ht fun _ _ => ?_
  walk_at "vc"
  refine picture_w hm hm2 hn hk hu fun _ _ => ?_
  have hsg : ∀ d ∈ cutD [.int 1, .int (-1)] none (some (1 + if mir = true then 1 else 0)), ∃ sg : Int, d = .int sg ∧ SgOk mir sg := by
    cases mir
    · intro d hd
      have : d ∈ [PyData.int 1] := hd
      rw [List.mem_singleton] at this
      exact ⟨1, this, .inl rfl⟩
    · intro d hd
      have : d ∈ [PyData.int 1, PyData.int (-1)] := hd
      simp only [List.mem_cons, List.not_mem_nil, or_false] at this
      rcases this with rfl | rfl
      · exact ⟨1, rfl, .inl rfl⟩
      · exact ⟨-1, rfl, .inr ⟨rfl, rfl⟩⟩
  have hsg2 : ∀ sg : Int, SgOk mir sg → PyData.int sg ∈ cutD [.int 1, .int (-1)] none (some (1 + if mir = true then 1 else 0)) := by
    rintro sg (rfl | ⟨rfl, rfl⟩)
    · cases mir
      · exact (show PyData.int 1 ∈ [PyData.int 1] by simp)
      · exact (show PyData.int 1 ∈ [PyData.int 1, PyData.int (-1)] by simp)
    · exact (show PyData.int (-1) ∈ [PyData.int 1, PyData.int (-1)] by simp)
  have hfin : ∀ sg : Int, SgOk mir sg → (((if bl then (sortP (picL m hs u)).map (fun p => p.2 - sg * p0.2) else [0]).any fun r => decide (sortP (movL m sg r (sortP (picL m hs t))) = sortP (picL m hs u))) = true ↔ ∃ r, (bl = false → r = 0) ∧ (movL m sg r (picL m hs t)).Perm (picL m hs u)) := fun sg _ => turns_try hp
  walk_at "vc"
  refine ws_for (fun ds rs e => (∀ d ∈ rs, ∃ sg : Int, d = .int sg ∧ SgOk mir sg) ∧ (∀ sg : Int, SgOk mir sg → PyData.int sg ∈ rs ∨ ¬ ∃ r, (bl = false → r = 0) ∧ (movL m sg r (picL m hs t)).Perm (picL m hs u)) ∧ ∃ x9 x10 x11 x12 x13 : Sl, e = [.val (clockD m hs bl mir), .val (.int t), .val (.int u), .val (.int m), .val (.tuple (hs.map hD)), .val (.bool bl), .val (.bool mir), .val (.list ((sortP (picL m hs t)).map pD)), .val (.list ((sortP (picL m hs u)).map pD)), x9, x10, .no, .no, .no]) ?_
  walk_at "vc"
  refine ⟨⟨hsg, fun sg h => .inl (hsg2 sg h), .no, .no, .no, .no, .no, rfl⟩, ?_, ?_⟩
  · rintro d rs e ⟨h2, h3, x9, x10, _, _, _, rfl⟩
    obtain ⟨sg, rfl, hsgk⟩ := h2 d List.mem_cons_self
    have h2t := fun d hd => h2 d (List.mem_cons_of_mem _ hd)
    have habs : sg.natAbs ≤ 1 := by rcases hsgk with rfl | ⟨_, rfl⟩ <;> decide
    have hf := hfin sg hsgk
    walk_at "vd"
    refine ws_cut (fun e => ∃ rs : List Int, rs.length ≤ 5 ∧ rs = (if bl then (sortP (picL m hs u)).map (fun p => p.2 - sg * p0.2) else [0]) ∧ e = [.val (clockD m hs bl mir), .val (.int t), .val (.int u), .val (.int m), .val (.tuple (hs.map hD)), .val (.bool bl), .val (.bool mir), .val (.list ((sortP (picL m hs t)).map pD)), .val (.list ((sortP (picL m hs u)).map pD)), .val (.int sg), .val (.list (rs.map .int)), .no, .no, .no]) ?_ ?_
    · cases bl
      · walk_at "vc"
        exact ⟨[0], by simp, rfl, rfl⟩
      · walk_at "vc"
        refine wl_compP (fun _ _ => true) (fun _ => moreD sg p0.2) ?_
        walk_at "vc"
        refine ⟨rfl, fits_of (by rw [List.length_map]; omega), fun d hd => ?_, ?_⟩
        · obtain ⟨x, hx, rfl⟩ := List.mem_map.mp hd
          rw [hp, List.map_cons]
          unfold pD
          walk_at "vc"
          refine ⟨rfl, ?_⟩
          walk_at "vc"
          refine wo_hd ?_
          walk_at "vc"
          exact ⟨rfl, rfl⟩
        · rw [filter_yes, moreD_pic]
          walk_at "vc"
          exact ⟨_, by show (List.map _ _).length ≤ 5; rw [List.length_map]; omega, rfl, rfl⟩
    · rintro e ⟨ms, hms, hms2, rfl⟩
      rw [← hms2] at hf
      walk_at "vc"
      refine wl_compP (fun _ _ => true) (fun _ => bolI fun r => decide (sortP (movL m sg r (sortP (picL m hs t))) = sortP (picL m hs u))) ?_
      walk_at "vc"
      refine ⟨rfl, fits_of (by rw [List.length_map]; omega), fun d hd => ?_, ?_⟩
      · obtain ⟨r, _, rfl⟩ := List.mem_map.mp hd
        walk_at "vc"
        refine ⟨rfl, ?_⟩
        walk_at "vc"
        refine moved_w hm habs (by omega) fun _ _ _ _ => ?_
        walk_at "vc"
        refine wo_eqP (hokt.mov).sort hoku ?_
        exact ⟨rfl, rfl⟩
      · rw [filter_yes, bolI_ints]
        walk_at "vc"
        refine wo_any (ns := ms.map fun r => decide (sortP (movL m sg r (sortP (picL m hs t))) = sortP (picL m hs u))) rfl ?_
        rw [List.any_map]
        walk_at "vc"
        refine ifb_any (fun hb => ?_) fun hb => ?_
        · walk_at "vc"
          have : showB m hs bl mir t u = true := showB_iff.mpr (by
            obtain ⟨r, r1, r2⟩ := hf.mp hb
            exact ⟨sg, r, hsgk, r1, r2⟩)
          rw [this] at q
          exact q _ _ _
        · walk_at "vc"
          refine ⟨h2t, fun sg' h => ?_, _, _, .no, .no, .no, rfl⟩
          rcases h3 sg' h with h4 | h4
          · rcases List.mem_cons.mp h4 with h5 | h5
            · cases h5
              refine .inr fun h6 => ?_
              have h7 := hf.mpr h6
              have hb : (ms.any fun r => decide (sortP (movL m sg r (sortP (picL m hs t))) = sortP (picL m hs u))) = false := hb
              rw [hb] at h7
              cases h7
            · exact .inl h5
          · exact .inr h4
  · rintro e ⟨_, h3, x9, x10, _, _, _, rfl⟩
    walk_at "vc"
    have : showB m hs bl mir t u = false := by
      rw [← Bool.not_eq_true, showB_iff]
      rintro ⟨sg, r, a, b, c⟩
      rcases h3 sg a with h4 | h4
      · cases h4
      · exact h4 ⟨r, b, c⟩
    rw [this] at q
    exact q _ _ _

end Lw

namespace Lw
open PySem PySem.Spec PyProof.Rows L2 M
local macro_rules | `(tactic| walk_at "sd") => `(tactic| (first | (with_reducible assumption) | omega | (simp; done) | (simp; omega) | decide))
local macro_rules | `(tactic| walk_at "v1") => `(tactic| (first | ((with_reducible show WE _ _ _); first | with_reducible refine we_callN ?_ | with_reducible refine we_c ?_ | with_reducible refine we_un ?_ | with_reducible refine we_bin ?_ | with_reducible refine we_chain ?_ | with_reducible refine we_and ?_ | with_reducible refine we_or ?_ | with_reducible refine we_not ?_ | with_reducible refine we_if ?_ | with_reducible refine we_fz ?_ | with_reducible refine we_tup ?_ | with_reducible refine we_sl ?_ | with_reducible refine we_tupRg ?_ | with_reducible refine we_bor ?_ | with_reducible refine we_call ?_ | with_reducible refine we_din ?_ | with_reducible refine we_borL ?_ | ((with_reducible apply we_v); (· rfl)) | ((with_reducible show WE (eO _) _ _); first | ((with_reducible apply we_oV); (· rfl)) | ((with_reducible apply we_oW); (· rfl)) | ((with_reducible apply we_oR); (· rfl))) | ((with_reducible show WE (eBinV _ _ _) _ _); first | ((with_reducible apply we_bV); (· rfl)) | ((with_reducible apply we_bVr); (· rfl)) | ((with_reducible apply we_bVv); (· rfl))) | ((with_reducible apply we_mut); (· rfl)) | ((with_reducible apply we_mut0); (· rfl)) | ((with_reducible apply we_dget2); (· rfl)) | ((with_reducible apply we_didx); (· rfl))) | ((with_reducible show WO _ _); first | ((with_reducible show WO (gIsO _ _) _); first | with_reducible refine wo_isON ?_ | ((with_reducible refine wo_isO (b := true) ?_ ?_); (· rfl)) | ((with_reducible refine wo_isO (b := false) ?_ ?_); (· rfl))) | with_reducible refine wo_attr ?_ | ((with_reducible show WO (valsA _) _); first | with_reducible refine vals_nil ?_ | with_reducible refine vals_v ?_) | with_reducible refine wo_isB ?_ | with_reducible refine wo_ntB ?_ | ((with_reducible show WO (backAr _ _ _) _); first | with_reducible refine back_nil ?_ | with_reducible refine back_v ?_ | with_reducible refine back_o ?_ | ((with_reducible apply back_r); (· rfl))) | ((with_reducible show WO (resArs _ _) _); first | with_reducible refine res_nil ?_ | with_reducible refine res_v ?_ | ((with_reducible apply res_r); (· rfl)) | ((with_reducible apply res_oO); (· rfl)) | ((with_reducible apply res_oR); (· rfl)) | ((with_reducible apply res_oV); (· rfl))) | ((with_reducible show WO (gAdd _ _) _); first | with_reducible refine wo_add ?_ | ((with_reducible refine wo_addL ?_ ?_); (· first | rfl | (apply fits_of; first | omega | (simp; omega)))) | ((with_reducible refine wo_addT ?_ ?_); (· first | rfl | (apply fits_of; first | omega | (simp; omega))))) | with_reducible refine wo_sub ?_ | with_reducible refine wo_neg ?_ | with_reducible refine wo_lt ?_ | with_reducible refine wo_le ?_ | with_reducible refine wo_gt ?_ | with_reducible refine wo_ge ?_ | ((with_reducible show WO (gEq _ _) _); first | with_reducible refine wo_eq ?_ | with_reducible refine wo_eqB ?_ | ((with_reducible refine wo_eqT ?_ ?_); (· decide +kernel)) | ((with_reducible refine wo_eqF ?_ ?_); (· decide +kernel))) | ((with_reducible show WO (gNe _ _) _); first | with_reducible refine wo_ne ?_ | with_reducible refine wo_neB ?_ | ((with_reducible refine wo_neT ?_ ?_); (· decide +kernel)) | ((with_reducible refine wo_neF ?_ ?_); (· decide +kernel))) | with_reducible refine wo_isN ?_ | with_reducible refine wo_ntN ?_ | ((with_reducible show WO (gLen _) _); first | with_reducible refine wo_lenL ?_ | with_reducible refine wo_lenT ?_) | with_reducible refine wo_abs ?_ | ((with_reducible show WO (gInt _) _); first | with_reducible refine wo_intB ?_ | with_reducible refine wo_intI ?_) | ((with_reducible show WO (gList _) _); first | with_reducible refine wo_listL ?_ | with_reducible refine wo_listT ?_) | ((with_reducible show WO (gTuple _) _); first | with_reducible refine wo_tupL ?_ | with_reducible refine wo_tupT ?_) | with_reducible refine wo_max ?_ | with_reducible refine wo_min ?_ | ((with_reducible show WO (gIsi _ _) _); first | with_reducible refine wo_isiI ?_ | with_reducible refine wo_isiB ?_ | ((with_reducible apply wo_isiE); (· rfl))) | ((with_reducible show WO (cutOf _ _ _) _); first | with_reducible refine wo_cutL ?_ | with_reducible refine wo_cutT ?_) | ((with_reducible show WO (gPow _ _) _); first | with_reducible refine wo_p10_60 ?_ | with_reducible refine wo_p10_18 ?_ | with_reducible refine wo_p10_30 ?_ | with_reducible refine wo_p2_24 ?_ | with_reducible refine wo_p10_8 ?_ | with_reducible refine wo_p10_19 ?_ | with_reducible refine wo_p10_55 ?_ | with_reducible refine wo_p10_59 ?_ | with_reducible refine wo_p3_30 ?_ | with_reducible refine wo_p2_40 ?_ | with_reducible refine wo_p10_54 ?_ | with_reducible refine wo_p3_13 ?_ | with_reducible refine wo_p2_20 ?_ | with_reducible refine wo_p10_57 ?_ | with_reducible refine wo_p10_40 ?_ | with_reducible refine wo_p10_61 ?_ | with_reducible refine wo_p10_50 ?_) | ((with_reducible apply wo_idxE); (· rfl)) | ((with_reducible apply wo_allE); (· rfl)) | ((with_reducible apply wo_anyE); (· rfl)) | ((with_reducible show WO (ixN _ _) _); first | ((with_reducible apply wo_ixE); (· rfl)) | ((with_reducible refine wo_ix ?_ ?_ ?_); (· walk_at "sd"); (· walk_at "sd"))) | ((with_reducible refine wo_mod ?_ ?_); (· walk_at "sd")) | ((with_reducible refine wo_div ?_ ?_ ?_); (· walk_at "sd"); (· walk_at "sd")) | ((with_reducible refine wo_mul ?_ ?_); (· first | exact mul_ok1 (by walk_at "sd") | exact mul_ok2 (by walk_at "sd") | exact mul_ok3 (by omega) (by omega))) | ((with_reducible refine wo_app ?_ ?_); (· first | rfl | (apply fits_of; first | omega | (simp; omega)))) | ((with_reducible refine wo_ext ?_ ?_); (· first | rfl | (apply fits_of; first | omega | (simp; omega))))) | ((with_reducible show WS _ _ _); first | with_reducible refine ws_try ?_ | with_reducible refine ws_retT ?_ | with_reducible refine ws_seq ?_ | with_reducible refine ws_expr ?_ | with_reducible refine ws_ret ?_ | with_reducible refine ws_retL ?_ | with_reducible refine ws_if ?_ | with_reducible refine ws_set ?_ | with_reducible refine ws_setO ?_ | with_reducible refine ws_asg ?_ | with_reducible refine ws_par ?_ | with_reducible refine ws_nil ?_ | with_reducible refine ws_retN ?_ | with_reducible refine ws_dput ?_ | with_reducible refine ws_dnew ?_ | ((with_reducible show WS (sFrz _ _) _ _); first | ((with_reducible apply ws_frz); (· rfl)) | ((with_reducible apply ws_frzV); (· rfl))) | ((with_reducible apply ws_retO); (· rfl)) | ((with_reducible apply ws_putI); (· rfl))) | ((with_reducible apply nrm_); (· (try simp only [wipeE, backE, List.set_cons_zero, List.set_cons_succ, List.getElem?_cons_zero, List.getElem?_cons_succ, List.cons_append, List.nil_append, List.replicate_succ, List.replicate_zero, Nat.reduceSub, unowns_nil, unowns_cons, unown_own, unown_val, unown_no, unown_ro, unown_dct]); rfl)) | ((with_reducible show IfB _ _ _); first | with_reducible refine ifb_not ?_ | with_reducible refine ifb_t ?_ | with_reducible refine ifb_f ?_ | ((with_reducible refine ifb_decT ?_ ?_); (· first | (with_reducible assumption) | omega | (simp only [List.length_cons, List.length_nil]; omega))) | ((with_reducible refine ifb_decF ?_ ?_); (· first | (with_reducible assumption) | omega | (simp only [List.length_cons, List.length_nil]; omega))) | with_reducible refine ifb_dec (fun _ => ?_) (fun _ => ?_) | ((with_reducible apply ifb_eT); (· rfl)) | ((with_reducible apply ifb_eF); (· rfl))) | ((with_reducible show WB _ _ _); first | with_reducible refine wb_bor ?_ | with_reducible refine wb_v ?_ | with_reducible refine wb_and ?_ | with_reducible refine wb_or ?_ | with_reducible refine wb_not ?_ | with_reducible refine wb_yes ?_) | with_reducible refine isb ?_ | ((with_reducible show WL _ _ _); first | with_reducible refine wl_nil ?_ | with_reducible refine wl_cons ?_ | with_reducible refine wl_lst ?_ | with_reducible refine wl_un ?_ | with_reducible refine wl_it ?_ | with_reducible refine wl_rng1 ?_ | with_reducible refine wl_rng2 ?_ | with_reducible refine wl_enum ?_ | with_reducible refine wl_enumA ?_ | with_reducible refine wl_addE ?_ | with_reducible refine wl_rg1 ?_ | with_reducible refine wl_bor ?_ | with_reducible refine wl_call ?_ | ((with_reducible apply wl_addO); (· rfl)) | ((with_reducible show WL (lSlV _ _ _) _ _); first | ((with_reducible apply wl_slO); (· rfl)) | ((with_reducible apply wl_slR); (· rfl)))) | ((with_reducible show WA _ _ _); first | with_reducible refine wa_nil ?_ | with_reducible refine wa_v ?_ | ((with_reducible apply wa_r); (· rfl)) | ((with_reducible show WA (aO _ _) _ _); first | ((with_reducible apply wa_oR); (· rfl)) | ((with_reducible apply wa_oO); (· rfl)) | ((with_reducible apply wa_oV); (· rfl)))) | ((with_reducible show IsS _ _); first | with_reducible refine iss_l ?_ | with_reducible refine iss_t ?_) | ((with_reducible refine fit_ ?_ ?_); (· first | rfl | (apply fits_of; first | omega | (simp; omega)))) | ((with_reducible show CallG _ _ _ _); first | ((with_reducible apply cg0); (· rfl)) | ((with_reducible apply cg1); (· rfl); (· rfl))) | ((with_reducible show WT _ _ _ _); first | with_reducible refine wt_n ?_ | ((with_reducible apply wt_t); (· rfl)) | ((with_reducible apply wt_unl); (· rfl))) | ((with_reducible show WTs _ _ _ _); first | with_reducible refine wts_nil ?_ | with_reducible refine wts_cons ?_) | ((with_reducible apply own_); (· rfl)) | ((with_reducible refine sml_ ?_ ?_ ?_); (· walk_at "sd"); (· walk_at "sd")) | with_reducible refine isi_ ?_ | ((with_reducible show WSX _ _ _); first | with_reducible refine wsx_lift ?_ | with_reducible refine wsx_seq ?_ | with_reducible refine wsx_if ?_ | with_reducible refine wsx_raise0 ?_ | with_reducible refine wsx_expr ?_ | with_reducible refine wsx_ret ?_ | with_reducible refine wsx_set ?_) | with_reducible refine wex_call ?_ | ((with_reducible show WPu _ _ _ _); first | with_reducible refine wpu_nil ?_ | with_reducible refine wpu_seq ?_ | with_reducible refine wpu_ret ?_ | with_reducible refine wpu_if ?_) | ((with_reducible show WTd _ _ _ _ _); first | with_reducible refine wtd_P ?_ | with_reducible refine wtd_G ?_ | with_reducible refine wtd_If ?_ | ((with_reducible refine wtd_K ?_ ?_); (· exact ⟨rfl, by decide⟩)) | ((with_reducible refine wtd_U ?_ ?_); (· exact ⟨rfl, by decide⟩)) | ((with_reducible refine wtd_C ?_ ?_); (· rfl)) | ((with_reducible refine wtd_A ?_ ?_ ?_); (· rfl); (· first | rfl | (apply fits_of; first | omega | (simp; omega))))) | with_reducible refine two_ ?_ | ((with_reducible show WC _ _ _ _ _ _ _); first | with_reducible refine wc_nil ?_ | with_reducible refine wc_cons ?_) | ((with_reducible show WP _ _ _); first | with_reducible refine wp_no ?_ | with_reducible refine wp_e ?_) | with_reducible refine isl ?_ | ((with_reducible show RetT _ _ _); first | ((with_reducible apply retT1); (· rfl)) | ((with_reducible apply retT2); (· rfl))) | ((with_reducible show Any _ _); first | ((with_reducible apply any_o); (· rfl)) | ((with_reducible apply any_r); (· rfl))) | ((with_reducible show CallH _ _ _ _); first | ((with_reducible apply ch0); (· rfl)) | ((with_reducible apply ch1); (· rfl); (· rfl))) | ((with_reducible apply cgx0); (· rfl))))
local macro_rules | `(tactic| walk_at "v2") => `(tactic| (first | ((with_reducible show WE _ _ _); first | with_reducible refine we_callN ?_ | with_reducible refine we_c ?_ | with_reducible refine we_un ?_ | with_reducible refine we_bin ?_ | with_reducible refine we_chain ?_ | with_reducible refine we_and ?_ | with_reducible refine we_or ?_ | with_reducible refine we_not ?_ | with_reducible refine we_if ?_ | with_reducible refine we_fz ?_ | with_reducible refine we_tup ?_ | with_reducible refine we_sl ?_ | with_reducible refine we_tupRg ?_ | with_reducible refine we_bor ?_ | with_reducible refine we_call ?_ | with_reducible refine we_din ?_ | with_reducible refine we_borL ?_ | ((with_reducible apply we_v); (· rfl)) | ((with_reducible show WE (eO _) _ _); first | ((with_reducible apply we_oV); (· rfl)) | ((with_reducible apply we_oW); (· rfl)) | ((with_reducible apply we_oR); (· rfl))) | ((with_reducible show WE (eBinV _ _ _) _ _); first | ((with_reducible apply we_bV); (· rfl)) | ((with_reducible apply we_bVr); (· rfl)) | ((with_reducible apply we_bVv); (· rfl))) | ((with_reducible apply we_mut); (· rfl)) | ((with_reducible apply we_mut0); (· rfl)) | ((with_reducible apply we_dget2); (· rfl)) | ((with_reducible apply we_didx); (· rfl))) | ((with_reducible show WO _ _); first | ((with_reducible show WO (gIsO _ _) _); first | with_reducible refine wo_isON ?_ | ((with_reducible refine wo_isO (b := true) ?_ ?_); (· rfl)) | ((with_reducible refine wo_isO (b := false) ?_ ?_); (· rfl))) | with_reducible refine wo_attr ?_ | ((with_reducible show WO (valsA _) _); first | with_reducible refine vals_nil ?_ | with_reducible refine vals_v ?_) | with_reducible refine wo_isB ?_ | with_reducible refine wo_ntB ?_ | ((with_reducible show WO (backAr _ _ _) _); first | with_reducible refine back_nil ?_ | with_reducible refine back_v ?_ | with_reducible refine back_o ?_ | ((with_reducible apply back_r); (· rfl))) | ((with_reducible show WO (resArs _ _) _); first | with_reducible refine res_nil ?_ | with_reducible refine res_v ?_ | ((with_reducible apply res_r); (· rfl)) | ((with_reducible apply res_oO); (· rfl)) | ((with_reducible apply res_oR); (· rfl)) | ((with_reducible apply res_oV); (· rfl))) | ((with_reducible show WO (gAdd _ _) _); first | with_reducible refine wo_add ?_ | ((with_reducible refine wo_addL ?_ ?_); (· first | rfl | (apply fits_of; first | omega | (simp; omega)))) | ((with_reducible refine wo_addT ?_ ?_); (· first | rfl | (apply fits_of; first | omega | (simp; omega))))) | with_reducible refine wo_sub ?_ | with_reducible refine wo_neg ?_ | with_reducible refine wo_lt ?_ | with_reducible refine wo_le ?_ | with_reducible refine wo_gt ?_ | with_reducible refine wo_ge ?_ | ((with_reducible show WO (gEq _ _) _); first | with_reducible refine wo_eq ?_ | with_reducible refine wo_eqB ?_ | ((with_reducible refine wo_eqT ?_ ?_); (· decide +kernel)) | ((with_reducible refine wo_eqF ?_ ?_); (· decide +kernel))) | ((with_reducible show WO (gNe _ _) _); first | with_reducible refine wo_ne ?_ | with_reducible refine wo_neB ?_ | ((with_reducible refine wo_neT ?_ ?_); (· decide +kernel)) | ((with_reducible refine wo_neF ?_ ?_); (· decide +kernel))) | with_reducible refine wo_isN ?_ | with_reducible refine wo_ntN ?_ | ((with_reducible show WO (gLen _) _); first | with_reducible refine wo_lenL ?_ | with_reducible refine wo_lenT ?_) | with_reducible refine wo_abs ?_ | ((with_reducible show WO (gInt _) _); first | with_reducible refine wo_intB ?_ | with_reducible refine wo_intI ?_) | ((with_reducible show WO (gList _) _); first | with_reducible refine wo_listL ?_ | with_reducible refine wo_listT ?_) | ((with_reducible show WO (gTuple _) _); first | with_reducible refine wo_tupL ?_ | with_reducible refine wo_tupT ?_) | with_reducible refine wo_max ?_ | with_reducible refine wo_min ?_ | ((with_reducible show WO (gIsi _ _) _); first | with_reducible refine wo_isiI ?_ | with_reducible refine wo_isiB ?_ | ((with_reducible apply wo_isiE); (· rfl))) | ((with_reducible show WO (cutOf _ _ _) _); first | with_reducible refine wo_cutL ?_ | with_reducible refine wo_cutT ?_) | ((with_reducible show WO (gPow _ _) _); first | with_reducible refine wo_p10_60 ?_ | with_reducible refine wo_p10_18 ?_ | with_reducible refine wo_p10_30 ?_ | with_reducible refine wo_p2_24 ?_ | with_reducible refine wo_p10_8 ?_ | with_reducible refine wo_p10_19 ?_ | with_reducible refine wo_p10_55 ?_ | with_reducible refine wo_p10_59 ?_ | with_reducible refine wo_p3_30 ?_ | with_reducible refine wo_p2_40 ?_ | with_reducible refine wo_p10_54 ?_ | with_reducible refine wo_p3_13 ?_ | with_reducible refine wo_p2_20 ?_ | with_reducible refine wo_p10_57 ?_ | with_reducible refine wo_p10_40 ?_ | with_reducible refine wo_p10_61 ?_ | with_reducible refine wo_p10_50 ?_) | ((with_reducible apply wo_idxE); (· rfl)) | ((with_reducible apply wo_allE); (· rfl)) | ((with_reducible apply wo_anyE); (· rfl)) | ((with_reducible show WO (ixN _ _) _); first | ((with_reducible apply wo_ixE); (· rfl)) | ((with_reducible refine wo_ix ?_ ?_ ?_); (· walk_at "sd"); (· walk_at "sd"))) | ((with_reducible refine wo_mod ?_ ?_); (· walk_at "sd")) | ((with_reducible refine wo_div ?_ ?_ ?_); (· walk_at "sd"); (· walk_at "sd")) | ((with_reducible refine wo_mul ?_ ?_); (· first | exact mul_ok1 (by walk_at "sd") | exact mul_ok2 (by walk_at "sd") | exact mul_ok3 (by omega) (by omega))) | ((with_reducible refine wo_app ?_ ?_); (· first | rfl | (apply fits_of; first | omega | (simp; omega)))) | ((with_reducible refine wo_ext ?_ ?_); (· first | rfl | (apply fits_of; first | omega | (simp; omega))))) | ((with_reducible show WS _ _ _); first | with_reducible refine ws_try ?_ | with_reducible refine ws_retT ?_ | with_reducible refine ws_seq ?_ | with_reducible refine ws_expr ?_ | with_reducible refine ws_ret ?_ | with_reducible refine ws_retL ?_ | with_reducible refine ws_set ?_ | with_reducible refine ws_setO ?_ | with_reducible refine ws_asg ?_ | with_reducible refine ws_par ?_ | with_reducible refine ws_nil ?_ | with_reducible refine ws_retN ?_ | with_reducible refine ws_dput ?_ | with_reducible refine ws_dnew ?_ | ((with_reducible show WS (sFrz _ _) _ _); first | ((with_reducible apply ws_frz); (· rfl)) | ((with_reducible apply ws_frzV); (· rfl))) | ((with_reducible apply ws_retO); (· rfl)) | ((with_reducible apply ws_putI); (· rfl))) | ((with_reducible apply nrm_); (· (try simp only [wipeE, backE, List.set_cons_zero, List.set_cons_succ, List.getElem?_cons_zero, List.getElem?_cons_succ, List.cons_append, List.nil_append, List.replicate_succ, List.replicate_zero, Nat.reduceSub, unowns_nil, unowns_cons, unown_own, unown_val, unown_no, unown_ro, unown_dct]); rfl)) | ((with_reducible show IfB _ _ _); first | with_reducible refine ifb_not ?_ | with_reducible refine ifb_t ?_ | with_reducible refine ifb_f ?_ | ((with_reducible refine ifb_decT ?_ ?_); (· first | (with_reducible assumption) | omega | (simp only [List.length_cons, List.length_nil]; omega))) | ((with_reducible refine ifb_decF ?_ ?_); (· first | (with_reducible assumption) | omega | (simp only [List.length_cons, List.length_nil]; omega))) | with_reducible refine ifb_dec (fun _ => ?_) (fun _ => ?_) | ((with_reducible apply ifb_eT); (· rfl)) | ((with_reducible apply ifb_eF); (· rfl))) | ((with_reducible show WB _ _ _); first | with_reducible refine wb_bor ?_ | with_reducible refine wb_v ?_ | with_reducible refine wb_and ?_ | with_reducible refine wb_or ?_ | with_reducible refine wb_not ?_ | with_reducible refine wb_yes ?_) | with_reducible refine isb ?_ | ((with_reducible show WL _ _ _); first | with_reducible refine wl_nil ?_ | with_reducible refine wl_cons ?_ | with_reducible refine wl_lst ?_ | with_reducible refine wl_un ?_ | with_reducible refine wl_it ?_ | with_reducible refine wl_rng1 ?_ | with_reducible refine wl_rng2 ?_ | with_reducible refine wl_enum ?_ | with_reducible refine wl_enumA ?_ | with_reducible refine wl_addE ?_ | with_reducible refine wl_rg1 ?_ | with_reducible refine wl_bor ?_ | with_reducible refine wl_call ?_ | ((with_reducible apply wl_addO); (· rfl)) | ((with_reducible show WL (lSlV _ _ _) _ _); first | ((with_reducible apply wl_slO); (· rfl)) | ((with_reducible apply wl_slR); (· rfl)))) | ((with_reducible show WA _ _ _); first | with_reducible refine wa_nil ?_ | with_reducible refine wa_v ?_ | ((with_reducible apply wa_r); (· rfl)) | ((with_reducible show WA (aO _ _) _ _); first | ((with_reducible apply wa_oR); (· rfl)) | ((with_reducible apply wa_oO); (· rfl)) | ((with_reducible apply wa_oV); (· rfl)))) | ((with_reducible show IsS _ _); first | with_reducible refine iss_l ?_ | with_reducible refine iss_t ?_) | ((with_reducible refine fit_ ?_ ?_); (· first | rfl | (apply fits_of; first | omega | (simp; omega)))) | ((with_reducible show CallG _ _ _ _); first | ((with_reducible apply cg0); (· rfl)) | ((with_reducible apply cg1); (· rfl); (· rfl))) | ((with_reducible show WT _ _ _ _); first | with_reducible refine wt_n ?_ | ((with_reducible apply wt_t); (· rfl)) | ((with_reducible apply wt_unl); (· rfl))) | ((with_reducible show WTs _ _ _ _); first | with_reducible refine wts_nil ?_ | with_reducible refine wts_cons ?_) | ((with_reducible apply own_); (· rfl)) | ((with_reducible refine sml_ ?_ ?_ ?_); (· walk_at "sd"); (· walk_at "sd")) | with_reducible refine isi_ ?_ | ((with_reducible show WSX _ _ _); first | with_reducible refine wsx_lift ?_ | with_reducible refine wsx_seq ?_ | with_reducible refine wsx_if ?_ | with_reducible refine wsx_raise0 ?_ | with_reducible refine wsx_expr ?_ | with_reducible refine wsx_ret ?_ | with_reducible refine wsx_set ?_) | with_reducible refine wex_call ?_ | ((with_reducible show WPu _ _ _ _); first | with_reducible refine wpu_nil ?_ | with_reducible refine wpu_seq ?_ | with_reducible refine wpu_ret ?_ | with_reducible refine wpu_if ?_) | ((with_reducible show WTd _ _ _ _ _); first | with_reducible refine wtd_P ?_ | with_reducible refine wtd_G ?_ | with_reducible refine wtd_If ?_ | ((with_reducible refine wtd_K ?_ ?_); (· exact ⟨rfl, by decide⟩)) | ((with_reducible refine wtd_U ?_ ?_); (· exact ⟨rfl, by decide⟩)) | ((with_reducible refine wtd_C ?_ ?_); (· rfl)) | ((with_reducible refine wtd_A ?_ ?_ ?_); (· rfl); (· first | rfl | (apply fits_of; first | omega | (simp; omega))))) | with_reducible refine two_ ?_ | ((with_reducible show WC _ _ _ _ _ _ _); first | with_reducible refine wc_nil ?_ | with_reducible refine wc_cons ?_) | ((with_reducible show WP _ _ _); first | with_reducible refine wp_no ?_ | with_reducible refine wp_e ?_) | with_reducible refine isl ?_ | ((with_reducible show RetT _ _ _); first | ((with_reducible apply retT1); (· rfl)) | ((with_reducible apply retT2); (· rfl))) | ((with_reducible show Any _ _); first | ((with_reducible apply any_o); (· rfl)) | ((with_reducible apply any_r); (· rfl))) | ((with_reducible show CallH _ _ _ _); first | ((with_reducible apply ch0); (· rfl)) | ((with_reducible apply ch1); (· rfl); (· rfl))) | ((with_reducible apply cgx0); (· rfl))))
local macro_rules | `(tactic| walk_at "vc") => `(tactic| (repeat' first | ((with_reducible show WE _ _ _); first | with_reducible refine we_callN ?_ | with_reducible refine we_c ?_ | with_reducible refine we_un ?_ | with_reducible refine we_bin ?_ | with_reducible refine we_chain ?_ | with_reducible refine we_and ?_ | with_reducible refine we_or ?_ | with_reducible refine we_not ?_ | with_reducible refine we_if ?_ | with_reducible refine we_fz ?_ | with_reducible refine we_tup ?_ | with_reducible refine we_sl ?_ | with_reducible refine we_tupRg ?_ | with_reducible refine we_bor ?_ | with_reducible refine we_call ?_ | with_reducible refine we_din ?_ | with_reducible refine we_borL ?_ | ((with_reducible apply we_v); (· rfl)) | ((with_reducible show WE (eO _) _ _); first | ((with_reducible apply we_oV); (· rfl)) | ((with_reducible apply we_oW); (· rfl)) | ((with_reducible apply we_oR); (· rfl))) | ((with_reducible show WE (eBinV _ _ _) _ _); first | ((with_reducible apply we_bV); (· rfl)) | ((with_reducible apply we_bVr); (· rfl)) | ((with_reducible apply we_bVv); (· rfl))) | ((with_reducible apply we_mut); (· rfl)) | ((with_reducible apply we_mut0); (· rfl)) | ((with_reducible apply we_dget2); (· rfl)) | ((with_reducible apply we_didx); (· rfl))) | ((with_reducible show WO _ _); first | ((with_reducible show WO (gIsO _ _) _); first | with_reducible refine wo_isON ?_ | ((with_reducible refine wo_isO (b := true) ?_ ?_); (· rfl)) | ((with_reducible refine wo_isO (b := false) ?_ ?_); (· rfl))) | with_reducible refine wo_attr ?_ | ((with_reducible show WO (valsA _) _); first | with_reducible refine vals_nil ?_ | with_reducible refine vals_v ?_) | with_reducible refine wo_isB ?_ | with_reducible refine wo_ntB ?_ | ((with_reducible show WO (backAr _ _ _) _); first | with_reducible refine back_nil ?_ | with_reducible refine back_v ?_ | with_reducible refine back_o ?_ | ((with_reducible apply back_r); (· rfl))) | ((with_reducible show WO (resArs _ _) _); first | with_reducible refine res_nil ?_ | with_reducible refine res_v ?_ | ((with_reducible apply res_r); (· rfl)) | ((with_reducible apply res_oO); (· rfl)) | ((with_reducible apply res_oR); (· rfl)) | ((with_reducible apply res_oV); (· rfl))) | ((with_reducible show WO (gAdd _ _) _); first | with_reducible refine wo_add ?_ | ((with_reducible refine wo_addL ?_ ?_); (· first | rfl | (apply fits_of; first | omega | (simp; omega)))) | ((with_reducible refine wo_addT ?_ ?_); (· first | rfl | (apply fits_of; first | omega | (simp; omega))))) | with_reducible refine wo_sub ?_ | with_reducible refine wo_neg ?_ | with_reducible refine wo_lt ?_ | with_reducible refine wo_le ?_ | with_reducible refine wo_gt ?_ | with_reducible refine wo_ge ?_ | ((with_reducible show WO (gEq _ _) _); first | with_reducible refine wo_eq ?_ | with_reducible refine wo_eqB ?_ | ((with_reducible refine wo_eqT ?_ ?_); (· decide +kernel)) | ((with_reducible refine wo_eqF ?_ ?_); (· decide +kernel))) | ((with_reducible show WO (gNe _ _) _); first | with_reducible refine wo_ne ?_ | with_reducible refine wo_neB ?_ | ((with_reducible refine wo_neT ?_ ?_); (· decide +kernel)) | ((with_reducible refine wo_neF ?_ ?_); (· decide +kernel))) | with_reducible refine wo_isN ?_ | with_reducible refine wo_ntN ?_ | ((with_reducible show WO (gLen _) _); first | with_reducible refine wo_lenL ?_ | with_reducible refine wo_lenT ?_) | with_reducible refine wo_abs ?_ | ((with_reducible show WO (gInt _) _); first | with_reducible refine wo_intB ?_ | with_reducible refine wo_intI ?_) | ((with_reducible show WO (gList _) _); first | with_reducible refine wo_listL ?_ | with_reducible refine wo_listT ?_) | ((with_reducible show WO (gTuple _) _); first | with_reducible refine wo_tupL ?_ | with_reducible refine wo_tupT ?_) | with_reducible refine wo_max ?_ | with_reducible refine wo_min ?_ | ((with_reducible show WO (gIsi _ _) _); first | with_reducible refine wo_isiI ?_ | with_reducible refine wo_isiB ?_ | ((with_reducible apply wo_isiE); (· rfl))) | ((with_reducible show WO (cutOf _ _ _) _); first | with_reducible refine wo_cutL ?_ | with_reducible refine wo_cutT ?_) | ((with_reducible show WO (gPow _ _) _); first | with_reducible refine wo_p10_60 ?_ | with_reducible refine wo_p10_18 ?_ | with_reducible refine wo_p10_30 ?_ | with_reducible refine wo_p2_24 ?_ | with_reducible refine wo_p10_8 ?_ | with_reducible refine wo_p10_19 ?_ | with_reducible refine wo_p10_55 ?_ | with_reducible refine wo_p10_59 ?_ | with_reducible refine wo_p3_30 ?_ | with_reducible refine wo_p2_40 ?_ | with_reducible refine wo_p10_54 ?_ | with_reducible refine wo_p3_13 ?_ | with_reducible refine wo_p2_20 ?_ | with_reducible refine wo_p10_57 ?_ | with_reducible refine wo_p10_40 ?_ | with_reducible refine wo_p10_61 ?_ | with_reducible refine wo_p10_50 ?_) | ((with_reducible apply wo_idxE); (· rfl)) | ((with_reducible apply wo_allE); (· rfl)) | ((with_reducible apply wo_anyE); (· rfl)) | ((with_reducible show WO (ixN _ _) _); first | ((with_reducible apply wo_ixE); (· rfl)) | ((with_reducible refine wo_ix ?_ ?_ ?_); (· walk_at "sd"); (· walk_at "sd"))) | ((with_reducible refine wo_mod ?_ ?_); (· walk_at "sd")) | ((with_reducible refine wo_div ?_ ?_ ?_); (· walk_at "sd"); (· walk_at "sd")) | ((with_reducible refine wo_mul ?_ ?_); (· first | exact mul_ok1 (by walk_at "sd") | exact mul_ok2 (by walk_at "sd") | exact mul_ok3 (by omega) (by omega))) | ((with_reducible refine wo_app ?_ ?_); (· first | rfl | (apply fits_of; first | omega | (simp; omega)))) | ((with_reducible refine wo_ext ?_ ?_); (· first | rfl | (apply fits_of; first | omega | (simp; omega))))) | ((with_reducible show WS _ _ _); first | with_reducible refine ws_try ?_ | with_reducible refine ws_retT ?_ | with_reducible refine ws_seq ?_ | with_reducible refine ws_expr ?_ | with_reducible refine ws_ret ?_ | with_reducible refine ws_retL ?_ | with_reducible refine ws_if ?_ | with_reducible refine ws_set ?_ | with_reducible refine ws_setO ?_ | with_reducible refine ws_asg ?_ | with_reducible refine ws_par ?_ | with_reducible refine ws_nil ?_ | with_reducible refine ws_retN ?_ | with_reducible refine ws_dput ?_ | with_reducible refine ws_dnew ?_ | ((with_reducible show WS (sFrz _ _) _ _); first | ((with_reducible apply ws_frz); (· rfl)) | ((with_reducible apply ws_frzV); (· rfl))) | ((with_reducible apply ws_retO); (· rfl)) | ((with_reducible apply ws_putI); (· rfl))) | ((with_reducible apply nrm_); (· (try simp only [wipeE, backE, List.set_cons_zero, List.set_cons_succ, List.getElem?_cons_zero, List.getElem?_cons_succ, List.cons_append, List.nil_append, List.replicate_succ, List.replicate_zero, Nat.reduceSub, unowns_nil, unowns_cons, unown_own, unown_val, unown_no, unown_ro, unown_dct]); rfl)) | ((with_reducible show IfB _ _ _); first | with_reducible refine ifb_not ?_ | with_reducible refine ifb_t ?_ | with_reducible refine ifb_f ?_ | ((with_reducible refine ifb_decT ?_ ?_); (· first | (with_reducible assumption) | omega | (simp only [List.length_cons, List.length_nil]; omega))) | ((with_reducible refine ifb_decF ?_ ?_); (· first | (with_reducible assumption) | omega | (simp only [List.length_cons, List.length_nil]; omega))) | with_reducible refine ifb_dec (fun _ => ?_) (fun _ => ?_) | ((with_reducible apply ifb_eT); (· rfl)) | ((with_reducible apply ifb_eF); (· rfl))) | ((with_reducible show WB _ _ _); first | with_reducible refine wb_bor ?_ | with_reducible refine wb_v ?_ | with_reducible refine wb_and ?_ | with_reducible refine wb_or ?_ | with_reducible refine wb_not ?_ | with_reducible refine wb_yes ?_) | with_reducible refine isb ?_ | ((with_reducible show WL _ _ _); first | with_reducible refine wl_nil ?_ | with_reducible refine wl_cons ?_ | with_reducible refine wl_lst ?_ | with_reducible refine wl_un ?_ | with_reducible refine wl_it ?_ | with_reducible refine wl_rng1 ?_ | with_reducible refine wl_rng2 ?_ | with_reducible refine wl_enum ?_ | with_reducible refine wl_enumA ?_ | with_reducible refine wl_addE ?_ | with_reducible refine wl_rg1 ?_ | with_reducible refine wl_bor ?_ | with_reducible refine wl_call ?_ | ((with_reducible apply wl_addO); (· rfl)) | ((with_reducible show WL (lSlV _ _ _) _ _); first | ((with_reducible apply wl_slO); (· rfl)) | ((with_reducible apply wl_slR); (· rfl)))) | ((with_reducible show WA _ _ _); first | with_reducible refine wa_nil ?_ | with_reducible refine wa_v ?_ | ((with_reducible apply wa_r); (· rfl)) | ((with_reducible show WA (aO _ _) _ _); first | ((with_reducible apply wa_oR); (· rfl)) | ((with_reducible apply wa_oO); (· rfl)) | ((with_reducible apply wa_oV); (· rfl)))) | ((with_reducible show IsS _ _); first | with_reducible refine iss_l ?_ | with_reducible refine iss_t ?_) | ((with_reducible refine fit_ ?_ ?_); (· first | rfl | (apply fits_of; first | omega | (simp; omega)))) | ((with_reducible show CallG _ _ _ _); first | ((with_reducible apply cg0); (· rfl)) | ((with_reducible apply cg1); (· rfl); (· rfl))) | ((with_reducible show WT _ _ _ _); first | with_reducible refine wt_n ?_ | ((with_reducible apply wt_t); (· rfl)) | ((with_reducible apply wt_unl); (· rfl))) | ((with_reducible show WTs _ _ _ _); first | with_reducible refine wts_nil ?_ | with_reducible refine wts_cons ?_) | ((with_reducible apply own_); (· rfl)) | ((with_reducible refine sml_ ?_ ?_ ?_); (· walk_at "sd"); (· walk_at "sd")) | with_reducible refine isi_ ?_ | ((with_reducible show WSX _ _ _); first | with_reducible refine wsx_lift ?_ | with_reducible refine wsx_seq ?_ | with_reducible refine wsx_if ?_ | with_reducible refine wsx_raise0 ?_ | with_reducible refine wsx_expr ?_ | with_reducible refine wsx_ret ?_ | with_reducible refine wsx_set ?_) | with_reducible refine wex_call ?_ | ((with_reducible show WPu _ _ _ _); first | with_reducible refine wpu_nil ?_ | with_reducible refine wpu_seq ?_ | with_reducible refine wpu_ret ?_ | with_reducible refine wpu_if ?_) | ((with_reducible show WTd _ _ _ _ _); first | with_reducible refine wtd_P ?_ | with_reducible refine wtd_G ?_ | with_reducible refine wtd_If ?_ | ((with_reducible refine wtd_K ?_ ?_); (· exact ⟨rfl, by decide⟩)) | ((with_reducible refine wtd_U ?_ ?_); (· exact ⟨rfl, by decide⟩)) | ((with_reducible refine wtd_C ?_ ?_); (· rfl)) | ((with_reducible refine wtd_A ?_ ?_ ?_); (· rfl); (· first | rfl | (apply fits_of; first | omega | (simp; omega))))) | with_reducible refine two_ ?_ | ((with_reducible show WC _ _ _ _ _ _ _); first | with_reducible refine wc_nil ?_ | with_reducible refine wc_cons ?_) | ((with_reducible show WP _ _ _); first | with_reducible refine wp_no ?_ | with_reducible refine wp_e ?_) | with_reducible refine isl ?_ | ((with_reducible show RetT _ _ _); first | ((with_reducible apply retT1); (· rfl)) | ((with_reducible apply retT2); (· rfl))) | ((with_reducible show Any _ _); first | ((with_reducible apply any_o); (· rfl)) | ((with_reducible apply any_r); (· rfl))) | ((with_reducible show CallH _ _ _ _); first | ((with_reducible apply ch0); (· rfl)) | ((with_reducible apply ch1); (· rfl); (· rfl))) | ((with_reducible apply cgx0); (· rfl))))
local macro_rules | `(tactic| walk_at "vd") => `(tactic| (repeat' first | ((with_reducible show WE _ _ _); first | with_reducible refine we_callN ?_ | with_reducible refine we_c ?_ | with_reducible refine we_un ?_ | with_reducible refine we_bin ?_ | with_reducible refine we_chain ?_ | with_reducible refine we_and ?_ | with_reducible refine we_or ?_ | with_reducible refine we_not ?_ | with_reducible refine we_if ?_ | with_reducible refine we_fz ?_ | with_reducible refine we_tup ?_ | with_reducible refine we_sl ?_ | with_reducible refine we_tupRg ?_ | with_reducible refine we_bor ?_ | with_reducible refine we_call ?_ | with_reducible refine we_din ?_ | with_reducible refine we_borL ?_ | ((with_reducible apply we_v); (· rfl)) | ((with_reducible show WE (eO _) _ _); first | ((with_reducible apply we_oV); (· rfl)) | ((with_reducible apply we_oW); (· rfl)) | ((with_reducible apply we_oR); (· rfl))) | ((with_reducible show WE (eBinV _ _ _) _ _); first | ((with_reducible apply we_bV); (· rfl)) | ((with_reducible apply we_bVr); (· rfl)) | ((with_reducible apply we_bVv); (· rfl))) | ((with_reducible apply we_mut); (· rfl)) | ((with_reducible apply we_mut0); (· rfl)) | ((with_reducible apply we_dget2); (· rfl)) | ((with_reducible apply we_didx); (· rfl))) | ((with_reducible show WO _ _); first | ((with_reducible show WO (gIsO _ _) _); first | with_reducible refine wo_isON ?_ | ((with_reducible refine wo_isO (b := true) ?_ ?_); (· rfl)) | ((with_reducible refine wo_isO (b := false) ?_ ?_); (· rfl))) | with_reducible refine wo_attr ?_ | ((with_reducible show WO (valsA _) _); first | with_reducible refine vals_nil ?_ | with_reducible refine vals_v ?_) | with_reducible refine wo_isB ?_ | with_reducible refine wo_ntB ?_ | ((with_reducible show WO (backAr _ _ _) _); first | with_reducible refine back_nil ?_ | with_reducible refine back_v ?_ | with_reducible refine back_o ?_ | ((with_reducible apply back_r); (· rfl))) | ((with_reducible show WO (resArs _ _) _); first | with_reducible refine res_nil ?_ | with_reducible refine res_v ?_ | ((with_reducible apply res_r); (· rfl)) | ((with_reducible apply res_oO); (· rfl)) | ((with_reducible apply res_oR); (· rfl)) | ((with_reducible apply res_oV); (· rfl))) | ((with_reducible show WO (gAdd _ _) _); first | with_reducible refine wo_add ?_ | ((with_reducible refine wo_addL ?_ ?_); (· first | rfl | (apply fits_of; first | omega | (simp; omega)))) | ((with_reducible refine wo_addT ?_ ?_); (· first | rfl | (apply fits_of; first | omega | (simp; omega))))) | with_reducible refine wo_sub ?_ | with_reducible refine wo_neg ?_ | with_reducible refine wo_lt ?_ | with_reducible refine wo_le ?_ | with_reducible refine wo_gt ?_ | with_reducible refine wo_ge ?_ | ((with_reducible show WO (gEq _ _) _); first | with_reducible refine wo_eq ?_ | with_reducible refine wo_eqB ?_ | ((with_reducible refine wo_eqT ?_ ?_); (· decide +kernel)) | ((with_reducible refine wo_eqF ?_ ?_); (· decide +kernel))) | ((with_reducible show WO (gNe _ _) _); first | with_reducible refine wo_ne ?_ | with_reducible refine wo_neB ?_ | ((with_reducible refine wo_neT ?_ ?_); (· decide +kernel)) | ((with_reducible refine wo_neF ?_ ?_); (· decide +kernel))) | with_reducible refine wo_isN ?_ | with_reducible refine wo_ntN ?_ | ((with_reducible show WO (gLen _) _); first | with_reducible refine wo_lenL ?_ | with_reducible refine wo_lenT ?_) | with_reducible refine wo_abs ?_ | ((with_reducible show WO (gInt _) _); first | with_reducible refine wo_intB ?_ | with_reducible refine wo_intI ?_) | ((with_reducible show WO (gList _) _); first | with_reducible refine wo_listL ?_ | with_reducible refine wo_listT ?_) | ((with_reducible show WO (gTuple _) _); first | with_reducible refine wo_tupL ?_ | with_reducible refine wo_tupT ?_) | with_reducible refine wo_max ?_ | with_reducible refine wo_min ?_ | ((with_reducible show WO (gIsi _ _) _); first | with_reducible refine wo_isiI ?_ | with_reducible refine wo_isiB ?_ | ((with_reducible apply wo_isiE); (· rfl))) | ((with_reducible show WO (cutOf _ _ _) _); first | with_reducible refine wo_cutL ?_ | with_reducible refine wo_cutT ?_) | ((with_reducible show WO (gPow _ _) _); first | with_reducible refine wo_p10_60 ?_ | with_reducible refine wo_p10_18 ?_ | with_reducible refine wo_p10_30 ?_ | with_reducible refine wo_p2_24 ?_ | with_reducible refine wo_p10_8 ?_ | with_reducible refine wo_p10_19 ?_ | with_reducible refine wo_p10_55 ?_ | with_reducible refine wo_p10_59 ?_ | with_reducible refine wo_p3_30 ?_ | with_reducible refine wo_p2_40 ?_ | with_reducible refine wo_p10_54 ?_ | with_reducible refine wo_p3_13 ?_ | with_reducible refine wo_p2_20 ?_ | with_reducible refine wo_p10_57 ?_ | with_reducible refine wo_p10_40 ?_ | with_reducible refine wo_p10_61 ?_ | with_reducible refine wo_p10_50 ?_) | ((with_reducible apply wo_idxE); (· rfl)) | ((with_reducible apply wo_allE); (· rfl)) | ((with_reducible apply wo_anyE); (· rfl)) | ((with_reducible show WO (ixN _ _) _); first | ((with_reducible apply wo_ixE); (· rfl)) | ((with_reducible refine wo_ix ?_ ?_ ?_); (· walk_at "sd"); (· walk_at "sd"))) | ((with_reducible refine wo_mod ?_ ?_); (· walk_at "sd")) | ((with_reducible refine wo_div ?_ ?_ ?_); (· walk_at "sd"); (· walk_at "sd")) | ((with_reducible refine wo_mul ?_ ?_); (· first | exact mul_ok1 (by walk_at "sd") | exact mul_ok2 (by walk_at "sd") | exact mul_ok3 (by omega) (by omega))) | ((with_reducible refine wo_app ?_ ?_); (· first | rfl | (apply fits_of; first | omega | (simp; omega)))) | ((with_reducible refine wo_ext ?_ ?_); (· first | rfl | (apply fits_of; first | omega | (simp; omega))))) | ((with_reducible show WS _ _ _); first | with_reducible refine ws_try ?_ | with_reducible refine ws_retT ?_ | with_reducible refine ws_seq ?_ | with_reducible refine ws_expr ?_ | with_reducible refine ws_ret ?_ | with_reducible refine ws_retL ?_ | with_reducible refine ws_set ?_ | with_reducible refine ws_setO ?_ | with_reducible refine ws_asg ?_ | with_reducible refine ws_par ?_ | with_reducible refine ws_nil ?_ | with_reducible refine ws_retN ?_ | with_reducible refine ws_dput ?_ | with_reducible refine ws_dnew ?_ | ((with_reducible show WS (sFrz _ _) _ _); first | ((with_reducible apply ws_frz); (· rfl)) | ((with_reducible apply ws_frzV); (· rfl))) | ((with_reducible apply ws_retO); (· rfl)) | ((with_reducible apply ws_putI); (· rfl))) | ((with_reducible apply nrm_); (· (try simp only [wipeE, backE, List.set_cons_zero, List.set_cons_succ, List.getElem?_cons_zero, List.getElem?_cons_succ, List.cons_append, List.nil_append, List.replicate_succ, List.replicate_zero, Nat.reduceSub, unowns_nil, unowns_cons, unown_own, unown_val, unown_no, unown_ro, unown_dct]); rfl)) | ((with_reducible show IfB _ _ _); first | with_reducible refine ifb_not ?_ | with_reducible refine ifb_t ?_ | with_reducible refine ifb_f ?_ | ((with_reducible refine ifb_decT ?_ ?_); (· first | (with_reducible assumption) | omega | (simp only [List.length_cons, List.length_nil]; omega))) | ((with_reducible refine ifb_decF ?_ ?_); (· first | (with_reducible assumption) | omega | (simp only [List.length_cons, List.length_nil]; omega))) | with_reducible refine ifb_dec (fun _ => ?_) (fun _ => ?_) | ((with_reducible apply ifb_eT); (· rfl)) | ((with_reducible apply ifb_eF); (· rfl))) | ((with_reducible show WB _ _ _); first | with_reducible refine wb_bor ?_ | with_reducible refine wb_v ?_ | with_reducible refine wb_and ?_ | with_reducible refine wb_or ?_ | with_reducible refine wb_not ?_ | with_reducible refine wb_yes ?_) | with_reducible refine isb ?_ | ((with_reducible show WL _ _ _); first | with_reducible refine wl_nil ?_ | with_reducible refine wl_cons ?_ | with_reducible refine wl_lst ?_ | with_reducible refine wl_un ?_ | with_reducible refine wl_it ?_ | with_reducible refine wl_rng1 ?_ | with_reducible refine wl_rng2 ?_ | with_reducible refine wl_enum ?_ | with_reducible refine wl_enumA ?_ | with_reducible refine wl_addE ?_ | with_reducible refine wl_rg1 ?_ | with_reducible refine wl_bor ?_ | with_reducible refine wl_call ?_ | ((with_reducible apply wl_addO); (· rfl)) | ((with_reducible show WL (lSlV _ _ _) _ _); first | ((with_reducible apply wl_slO); (· rfl)) | ((with_reducible apply wl_slR); (· rfl)))) | ((with_reducible show WA _ _ _); first | with_reducible refine wa_nil ?_ | with_reducible refine wa_v ?_ | ((with_reducible apply wa_r); (· rfl)) | ((with_reducible show WA (aO _ _) _ _); first | ((with_reducible apply wa_oR); (· rfl)) | ((with_reducible apply wa_oO); (· rfl)) | ((with_reducible apply wa_oV); (· rfl)))) | ((with_reducible show IsS _ _); first | with_reducible refine iss_l ?_ | with_reducible refine iss_t ?_) | ((with_reducible refine fit_ ?_ ?_); (· first | rfl | (apply fits_of; first | omega | (simp; omega)))) | ((with_reducible show CallG _ _ _ _); first | ((with_reducible apply cg0); (· rfl)) | ((with_reducible apply cg1); (· rfl); (· rfl))) | ((with_reducible show WT _ _ _ _); first | with_reducible refine wt_n ?_ | ((with_reducible apply wt_t); (· rfl)) | ((with_reducible apply wt_unl); (· rfl))) | ((with_reducible show WTs _ _ _ _); first | with_reducible refine wts_nil ?_ | with_reducible refine wts_cons ?_) | ((with_reducible apply own_); (· rfl)) | ((with_reducible refine sml_ ?_ ?_ ?_); (· walk_at "sd"); (· walk_at "sd")) | with_reducible refine isi_ ?_ | ((with_reducible show WSX _ _ _); first | with_reducible refine wsx_lift ?_ | with_reducible refine wsx_seq ?_ | with_reducible refine wsx_if ?_ | with_reducible refine wsx_raise0 ?_ | with_reducible refine wsx_expr ?_ | with_reducible refine wsx_ret ?_ | with_reducible refine wsx_set ?_) | with_reducible refine wex_call ?_ | ((with_reducible show WPu _ _ _ _); first | with_reducible refine wpu_nil ?_ | with_reducible refine wpu_seq ?_ | with_reducible refine wpu_ret ?_ | with_reducible refine wpu_if ?_) | ((with_reducible show WTd _ _ _ _ _); first | with_reducible refine wtd_P ?_ | with_reducible refine wtd_G ?_ | with_reducible refine wtd_If ?_ | ((with_reducible refine wtd_K ?_ ?_); (· exact ⟨rfl, by decide⟩)) | ((with_reducible refine wtd_U ?_ ?_); (· exact ⟨rfl, by decide⟩)) | ((with_reducible refine wtd_C ?_ ?_); (· rfl)) | ((with_reducible refine wtd_A ?_ ?_ ?_); (· rfl); (· first | rfl | (apply fits_of; first | omega | (simp; omega))))) | with_reducible refine two_ ?_ | ((with_reducible show WC _ _ _ _ _ _ _); first | with_reducible refine wc_nil ?_ | with_reducible refine wc_cons ?_) | ((with_reducible show WP _ _ _); first | with_reducible refine wp_no ?_ | with_reducible refine wp_e ?_) | with_reducible refine isl ?_ | ((with_reducible show RetT _ _ _); first | ((with_reducible apply retT1); (· rfl)) | ((with_reducible apply retT2); (· rfl))) | ((with_reducible show Any _ _); first | ((with_reducible apply any_o); (· rfl)) | ((with_reducible apply any_r); (· rfl))) | ((with_reducible show CallH _ _ _ _); first | ((with_reducible apply ch0); (· rfl)) | ((with_reducible apply ch1); (· rfl); (· rfl))) | ((with_reducible apply cgx0); (· rfl))))
local macro_rules | `(tactic| walk_at "nr") => `(tactic| ((with_reducible apply nrm_); (· (try simp only [wipeE, backE, List.set_cons_zero, List.set_cons_succ, List.getElem?_cons_zero, List.getElem?_cons_succ, List.cons_append, List.nil_append, List.replicate_succ, List.replicate_zero, Nat.reduceSub, unowns_nil, unowns_cons, unown_own, unown_val, unown_no, unown_ro, unown_dct]); rfl)))
local macro_rules | `(tactic| walk_at "nb") => `(tactic| simp only [wipeE, backE, List.set_cons_zero, List.set_cons_succ, List.getElem?_cons_zero, List.getElem?_cons_succ])
section
variable {m t : Int} {hs : List Hd} {bl mir : Bool}
theorem right_w {a : Int} {Q : D → List Sl → Prop} (hm : 1 < m) (hm2 : m ≤ 10 ^ 60) (h1 : 1 ≤ hs.length) (hn : hs.length ≤ 5) (hk : HandsOk m hs) (hF : Fine m hs bl) (t0 : 0 ≤ t) (t1 : t < m) (q : ∀ (a' : Int) x y, Q (.bool true) [x, y, .own false [.int a']]) :
    WG g__law_right [.val (clockD m hs bl mir), .val (.int t), .own false [.int a]] Q := by
  have hm0 : 0 < m := by omega
  have hpk : PcOk (sortP (picL m hs t)) := fun p hp => picL_ok (fun h hh => (hk h hh).2.2.2.2) p ((sortP_perm _).mem_iff.mp hp)
  have hpi : InM m (sortP (picL m hs t)) := fun p hp => picL_in hm0 hs t p ((sortP_perm _).mem_iff.mp hp)
  have hpl := pic_len m t hs
  refine wg_run rfl ?_
  unfold b__law_right
  walk_at "nr"
  refine ws_mid (fun e => e = [.val (clockD m hs bl mir), .val (.int t), .own false [.int a], .val (.int m), .no, .no, .no, .no, .no, .no, .no, .no, .no, .no]) (by walk_at "vc"; rfl) ?_
  rintro _ rfl
  refine ws_mid (fun e => ∃ A : List Int, A.length ≤ 6251 ∧ AllOf m hs bl mir t A ∧ e = [.val (clockD m hs bl mir), .val (.int t), .own false [.int a], .val (.int m), .val (.list (A.map .int)), .no, .no, .no, .no, .no, .no, .no, .no, .no]) ?_ ?_
  · walk_at "vc"
    refine rivals_w hm hm2 h1 hn hk hF (by omega) fun L _ _ hLl hL => ?_
    walk_at "vc"
    rw [show L.map PyData.int ++ [PyData.int t] = (L ++ [t]).map .int by rw [List.map_append]; rfl]
    refine wo_sortedI (riv_nd0 t0 t1 hL) fun S hp hS => ?_
    walk_at "vc"
    exact ⟨S, by rw [hp.length_eq]; simp; omega, AllOf.of hm0 t0 t1 hL hp hS, rfl⟩
  rintro _ ⟨A, hAl, hA, rfl⟩
  refine ws_mid (fun e => ∃ x5 : Sl, e = [.val (clockD m hs bl mir), .val (.int t), .own false [.int a], .val (.int m), .val (.list (A.map .int)), x5, .no, .no, .no, .no, .no, .no, .no, .no]) ?_ ?_
  · refine ws_forN (fun _ k e => ∃ x5 : Sl, e = [.val (clockD m hs bl mir), .val (.int t), .own false [.int a], .val (.int m), .val (.list (A.map .int)), x5, .no, .no, .no, .no, .no, .no, .no, .no]) ?_
    walk_at "vc"
    refine ⟨⟨_, rfl⟩, ?_, ?_⟩
    · rintro k d e hkl hd ⟨x5, rfl⟩
      rw [List.length_map] at hkl
      rw [List.getElem?_map, List.getElem?_eq_getElem hkl] at hd
      obtain rfl := Option.some.inj hd
      have hu := (hA.2 _).mp (List.getElem_mem hkl)
      generalize A[k] = u at *
      obtain ⟨⟨u0, u1⟩, hS⟩ := hu
      have hsB : showB m hs bl mir t u = true := showB_iff.mpr hS
      have hsB2 : showB m hs bl mir u t = true := showB_iff.mpr (hS.symm hm0)
      walk_at "vc"
      refine rivals_w hm hm2 h1 hn hk hF (by omega) fun L _ _ hLl hL => ?_
      walk_at "vc"
      rw [show L.map PyData.int ++ [PyData.int u] = (L ++ [u]).map .int by rw [List.map_append]; rfl]
      refine wo_sortedI (riv_nd0 u0 u1 hL) fun S hp hS2 => ?_
      have e := hA.uniq hm0 (AllOf.of hm0 u0 u1 hL hp hS2) hS
      subst e
      walk_at "vc"
      refine wo_neInts ?_
      rw [decide_eq_true rfl]
      walk_at "vc"
      refine lsame_w hm hm2 h1 hn hk (by omega) (by omega) fun _ _ _ => ?_
      rw [hsB]
      walk_at "vc"
      refine same_w hm0 hm2 h1 hn hk (by omega) (by omega) fun _ _ _ => ?_
      rw [hsB2]
      walk_at "vc"
      all_goals first | exact ⟨_, rfl⟩ | (rename_i h; exact absurd rfl h)
    · rintro e ⟨x5, rfl⟩
      exact ⟨_, rfl⟩
  rintro _ ⟨x5, rfl⟩
  refine ws_mid (fun e => e = [.val (clockD m hs bl mir), .val (.int t), .own false [.int a], .val (.int m), .val (.list (A.map .int)), x5, .own true ((sortP (picL m hs t)).map pD), .no, .no, .no, .no, .no, .no, .no]) ?_ ?_
  · walk_at "vc"
    refine lpicture_h hm0 hm2 hn hk (by omega) fun _ _ => ?_
    walk_at "vc"
    rfl
  rintro _ rfl
  refine ws_mid (fun e => e = [.val (clockD m hs bl mir), .val (.int t), .own false [.int a], .val (.int m), .val (.list (A.map .int)), x5, .own true ((sortP (picL m hs t)).map pD), .no, .no, .no, .no, .no, .no, .no]) ?_ ?_
  · walk_at "vc"
    refine picture_w hm0 hm2 hn hk (by omega) fun _ _ => ?_
    walk_at "vc"
    refine wo_neR (shp_lpD hpk) ?_
    walk_at "vc"
    rfl
  rintro _ rfl
  have hrd : ∀ P u, ShowP m hs bl mir P u = ShowP m hs bl mir P u := fun _ _ => rfl
  refine ws_mid (fun e => ∃ (a : Int) (x7 : Sl), e = [.val (clockD m hs bl mir), .val (.int t), .own false [.int a], .val (.int m), .val (.list (A.map .int)), x5, .own true ((sortP (picL m hs t)).map pD), x7, .no, .no, .no, .no, .no, .no]) ?_ ?_
  · refine ws_forTw rfl ⟨by decide, by simp⟩ ?_
    walk_at "vc"
    refine other_w hm hm2 (by omega) hpi fun sg r a' _ _ hsg hr => ?_
    walk_at "vc"
    refine readG_w hm hm2 h1 hn hk hF hpk hpi (by omega) fun L _ _ hLl hL => ?_
    have e : L = A := rise_ext hL.1 hA.1 fun u => by rw [hL.2 u, hA.2 u, showP_pic]
    subst e
    walk_at "vc"
    refine wo_neInts ?_
    rw [decide_eq_true rfl]
    walk_at "vc"
    have hP2 : PcOk (movL m sg r (sortP (picL m hs t)).reverse) := fun p hp => by
      obtain ⟨p0, hp0, rfl⟩ := List.mem_map.mp hp
      exact hpk p0 (List.mem_reverse.mp hp0)
    have hI2 : InM m (movL m sg r (sortP (picL m hs t)).reverse) := fun p hp => by
      obtain ⟨p0, hp0, rfl⟩ := List.mem_map.mp hp
      exact ⟨Int.emod_nonneg _ (by omega), Int.emod_lt_of_pos _ hm0⟩
    have hrv : InM m (sortP (picL m hs t)).reverse := fun p hp => hpi p (List.mem_reverse.mp hp)
    refine readG_w hm hm2 h1 hn hk hF hP2 hI2 (by unfold movL; rw [List.length_map, List.length_reverse]; omega) fun L2 _ _ hLl2 hL2 => ?_
    have e : L2 = L := rise_ext hL2.1 hL.1 fun u => by rw [hL2.2 u, hL.2 u, showP_mov hm0 hrv hsg hr, ShowP.perm (List.reverse_perm _)]
    subst e
    walk_at "vc"
    refine wo_neInts ?_
    rw [decide_eq_true rfl]
    walk_at "vc"
    exact ⟨_, _, rfl⟩
  rintro _ ⟨a, x7, rfl⟩
  have hPne : ∀ P : List Pc, P.length = hs.length → P ≠ [] := fun P h e => by rw [e, List.length_nil] at h; omega
  generalize sortP (picL m hs t) = P at *
  refine ws_mid (fun e => ∃ (a : Int) (j : Nat), j < P.length ∧ e = [.val (clockD m hs bl mir), .val (.int t), .own false [.int a], .val (.int m), .val (.list (A.map .int)), x5, .own true (P.map pD), x7, .val (.int (j : Int)), .no, .no, .no, .no, .no]) ?_ ?_
  · walk_at "vc"
    rw [List.length_map]
    refine take_w (by omega) (by omega) fun r _ _ r0 r1 => ?_
    walk_at "vc"
    obtain ⟨j, rfl⟩ := Int.eq_ofNat_of_zero_le r0
    exact ⟨_, j, by omega, rfl⟩
  rintro _ ⟨a, j, hj, rfl⟩
  refine ws_mid (fun e => ∃ (x : Str) (k : Int), isLk x ∧ e = [.val (clockD m hs bl mir), .val (.int t), .own false [.int a], .val (.int m), .val (.list (A.map .int)), x5, .own true ((P.eraseIdx j).map pD), x7, .val (.int (j : Int)), .val (.str x), .val (.int k), .no, .no, .no]) ?_ ?_
  · refine ws_asg ?_
    refine we_mut rfl ?_
    walk_at "vc"
    refine wo_popAt (by omega) (by rw [List.length_map]; omega) (by rw [List.length_map]; omega) fun d hd _ => ?_
    rw [Int.toNat_natCast, List.getElem?_map, List.getElem?_eq_getElem hj] at hd
    obtain rfl := Option.some.inj hd
    have hx := hpk _ (List.getElem_mem hj)
    generalize P[j] = p at *
    obtain ⟨x, k⟩ := p
    rw [show pD (x, k) = .tuple [.str x, .int k] from rfl, Int.toNat_natCast]
    walk_at "nr"
    walk_at "vc"
    refine ⟨x, k, hx, ?_⟩
    rw [eraseIdx_map']
  rintro _ ⟨x, k, hx, rfl⟩
  have hel : (P.eraseIdx j).length = P.length - 1 := List.length_eraseIdx_of_lt hj
  have hpe : ∀ p ∈ P.eraseIdx j, p ∈ P := fun p hp => List.mem_of_mem_eraseIdx hp
  generalize P.eraseIdx j = E at *
  refine ws_mid (fun e => ∃ (a : Int) (R : List Pc), R.length = P.length ∧ PcOk R ∧ InM m R ∧ e = [.val (clockD m hs bl mir), .val (.int t), .own false [.int a], .val (.int m), .val (.list (A.map .int)), x5, .own true (R.map pD), x7, .val (.int (j : Int)), .val (.str x), .val (.int k), .no, .no, .no]) ?_ ?_
  · refine ws_expr ?_
    refine we_mut2 rfl ?_
    walk_at "vc"
    refine take_w (by omega) (by omega) fun r a' _ r0 r1 => ?_
    walk_at "vc"
    refine wo_insert (by omega) (by rw [List.length_map]; omega) (by rw [List.length_map]; omega) ?_
    walk_at "nr"
    have hin : ∀ p ∈ E.take j ++ (x, (k + 1 + r) % m) :: E.drop j, p ∈ P ∨ p = (x, (k + 1 + r) % m) := fun p hp => by
      rcases List.mem_append.mp hp with hp | hp
      · exact .inl (hpe p (List.mem_of_mem_take hp))
      · rcases List.mem_cons.mp hp with rfl | hp
        · exact .inr rfl
        · exact .inl (hpe p (List.mem_of_mem_drop hp))
    refine ⟨a', E.take j ++ (x, (k + 1 + r) % m) :: E.drop j, ?_, fun p hp => ?_, fun p hp => ?_, ?_⟩
    · rw [List.length_append, List.length_cons, List.length_take, List.length_drop]
      omega
    · rcases hin p hp with h | rfl
      · exact hpk p h
      · exact hx
    · rcases hin p hp with h | rfl
      · exact hpi p h
      · exact ⟨Int.emod_nonneg _ (by omega), Int.emod_lt_of_pos _ hm0⟩
    · rw [List.map_append, List.map_cons, List.map_take, List.map_drop, Int.toNat_natCast]
      rfl
  rintro _ ⟨a, R, hRl, hRk, hRi, rfl⟩
  refine ws_mid (fun e => ∃ (x5 x11 : Sl), e = [.val (clockD m hs bl mir), .val (.int t), .own false [.int a], .val (.int m), .val (.list (A.map .int)), x5, .val (.list (R.map pD)), x7, .val (.int (j : Int)), .val (.str x), .val (.int k), x11, .no, .no]) ?_ ?_
  · walk_at "vc"
    refine ws_forN (fun ds i e => (∀ d ∈ ds, ∃ u : Int, d = .int u ∧ (0 ≤ u ∧ u < m) ∧ ShowP m hs bl mir R u) ∧ ∃ (x5 x11 : Sl), e = [.val (clockD m hs bl mir), .val (.int t), .own false [.int a], .val (.int m), .val (.list (A.map .int)), x5, .val (.list (R.map pD)), x7, .val (.int (j : Int)), .val (.str x), .val (.int k), x11, .no, .no]) ?_
    walk_at "vc"
    refine readG_w hm hm2 h1 hn hk hF hRk hRi (by omega) fun L _ _ hLl hL => ?_
    walk_at "vc"
    refine ⟨⟨fun d hd => ?_, _, _, rfl⟩, ?_, ?_⟩
    · obtain ⟨u, hu, rfl⟩ := List.mem_map.mp hd
      exact ⟨u, rfl, (hL.2 u).mp hu⟩
    · rintro i d e hil hd ⟨hall, x5, x11, rfl⟩
      obtain ⟨u, rfl, ⟨u0, u1⟩, hS⟩ := hall d (List.mem_of_getElem? hd)
      have hul := pic_len m u hs
      walk_at "vc"
      refine lpicture_h hm0 hm2 hn hk (by omega) fun _ _ => ?_
      walk_at "vc"
      refine normal_w hm0 (hPne _ hul) (by omega) fun L _ _ hL => ?_
      walk_at "vc"
      refine normal_w hm0 (hPne _ (by omega)) (by omega) fun N _ _ hN => ?_
      have e := (norm_showP hm0 hRi hN hL).mpr hS
      subst e
      walk_at "vc"
      refine wo_neR (shp_lpD (NormAt.ok hk hL)) ?_
      walk_at "vc"
      exact ⟨hall, _, _, rfl⟩
    · rintro e ⟨_, x5, x11, rfl⟩
      exact ⟨_, _, rfl⟩
  rintro _ ⟨x5, x11, rfl⟩
  have htA : t ∈ A := (hA.2 t).mpr ⟨⟨t0, t1⟩, Show.refl hm0 ..⟩
  refine ws_mid (fun e => ∃ d : D, TickOf m hs bl mir t d ∧ e = [.val (clockD m hs bl mir), .val (.int t), .own false [.int a], .val (.int m), .val (.list (A.map .int)), x5, .val (.list (R.map pD)), x7, .val (.int (j : Int)), .val (.str x), .val (.int k), x11, .val d, .no]) ?_ ?_
  · walk_at "vc"
    refine tickA_w hm hm2 h1 hn hk (by omega) fun d _ _ hT => ?_
    walk_at "vc"
    exact ⟨d, hT, rfl⟩
  rintro _ ⟨d, hT, rfl⟩
  refine ws_mid (fun e => e = [.val (clockD m hs bl mir), .val (.int t), .own false [.int a], .val (.int m), .val (.list (A.map .int)), x5, .val (.list (R.map pD)), x7, .val (.int (j : Int)), .val (.str x), .val (.int k), x11, .val d, .no]) ?_ ?_
  · rcases hT with ⟨u, r, rfl, hr, u0, u1, hne, hTk⟩ | ⟨ps, rfl, hpl, hps⟩
    · rw [Int.emod_eq_of_lt t0 t1] at hne
      have huA : u ∈ A := (hA.2 u).mpr ⟨⟨u0, u1⟩, (show_iff hm0).mpr ⟨r, hr, hTk⟩⟩
      have h2 : 1 < A.length := by
        refine Nat.lt_of_not_le fun h => hne ?_
        have h3 : A.length = 1 := by have := List.length_pos_of_mem htA; omega
        obtain ⟨y, rfl⟩ := List.length_eq_one_iff.mp h3
        rw [List.mem_singleton] at huA htA
        omega
      have h3 : (true == decide ((1 : Int) < (((A.map PyData.int).length : Nat) : Int))) = true := by
        rw [decide_eq_true (by rw [List.length_map]; omega)]
        rfl
      walk_at "vc"
      rw [h3]
      walk_at "vc"
      rfl
    · have h2 : A.length ≤ 1 := by
        have hall : ∀ u ∈ A, u = t := fun u hu => by
          obtain ⟨⟨u0, u1⟩, hS⟩ := (hA.2 u).mp hu
          have := ticks_clear hm0 hpl hps hS
          rwa [Int.emod_eq_of_lt u0 u1, Int.emod_eq_of_lt t0 t1] at this
        refine Nat.le_of_not_lt fun h => ?_
        have h5 := List.pairwise_iff_getElem.mp hA.1 0 1 (by omega) h (by omega)
        rw [hall _ (List.getElem_mem (show 0 < A.length by omega)), hall _ (List.getElem_mem h)] at h5
        omega
      have h3 : (false == decide ((1 : Int) < (((A.map PyData.int).length : Nat) : Int))) = true := by
        rw [decide_eq_false (by rw [List.length_map]; omega)]
        rfl
      walk_at "vc"
      rw [h3]
      walk_at "vc"
      rfl
  rintro _ rfl
  refine ws_mid (fun e => e = [.val (clockD m hs bl mir), .val (.int t), .own false [.int a], .val (.int m), .val (.list (A.map .int)), x5, .val (.list (R.map pD)), x7, .val (.int (j : Int)), .val (.str x), .val (.int k), x11, .val d, .no]) ?_ ?_
  · rcases hT with ⟨u, r, rfl, hr, u0, u1, hne, hTk⟩ | ⟨ps, rfl, hpl, hps⟩
    · rw [Int.emod_eq_of_lt t0 t1] at hne
      have huA : u ∈ A := (hA.2 u).mpr ⟨⟨u0, u1⟩, (show_iff hm0).mpr ⟨r, hr, hTk⟩⟩
      walk_at "vc"
      refine wo_niI ?_
      rw [decide_eq_true huA]
      walk_at "vc"
      rfl
    · walk_at "vc"
      rfl
  rintro _ rfl
  refine ws_mid (fun e => ∃ (a : Int) (x5 x7 x13 : Sl), e = [.val (clockD m hs bl mir), .val (.int t), .own false [.int a], .val (.int m), .val (.list (A.map .int)), x5, .val (.list (R.map pD)), x7, .val (.int (j : Int)), .val (.str x), .val (.int k), x11, .val d, x13]) ?_ ?_
  · refine ws_forN (fun _ i e => ∃ (a : Int) (x5 x7 x13 : Sl), e = [.val (clockD m hs bl mir), .val (.int t), .own false [.int a], .val (.int m), .val (.list (A.map .int)), x5, .val (.list (R.map pD)), x7, .val (.int (j : Int)), .val (.str x), .val (.int k), x11, .val d, x13]) ?_
    walk_at "vc"
    refine ⟨⟨_, _, _, _, rfl⟩, ?_, ?_⟩
    · rintro i d' e hil hd ⟨a, x5, x7, x13, rfl⟩
      obtain ⟨rfl, hi1⟩ := irange_at hd
      walk_at "vc"
      refine take_w (by omega) (by omega) fun r _ _ r0 r1 => ?_
      walk_at "vc"
      refine pick_w (xs := [r, 0 - t, t + m / 2]) (lo := -10 ^ 61) (hi := 10 ^ 61) (Int.emod_nonneg _ (by omega)) (by show (i : Int) % 3 < 3; omega) rfl (fun y hy => ?_) fun y hy1 hy2 _ => ?_
      · simp only [List.mem_cons, List.not_mem_nil, or_false] at hy
        have : 0 ≤ m / 2 ∧ m / 2 ≤ m := ⟨Int.ediv_nonneg (by omega) (by omega), Int.ediv_le_self _ (by omega)⟩
        rcases hy with rfl | rfl | rfl <;> omega
      have y0 := Int.emod_nonneg y (show m ≠ 0 by omega)
      have y1 := Int.emod_lt_of_pos y hm0
      walk_at "vc"
      generalize y % m = v at *
      refine lsame_w hm hm2 h1 hn hk (by omega) (by omega) fun _ _ _ => ?_
      walk_at "vc"
      refine wo_inI ?_
      have e : decide (v ∈ A) = showB m hs bl mir t v := by
        rw [Bool.eq_iff_iff, decide_eq_true_iff, showB_iff, hA.2 v]
        exact ⟨fun h => h.2, fun h => ⟨⟨y0, y1⟩, h⟩⟩
      rw [e]
      walk_at "vc"
      rw [show (showB m hs bl mir t v == showB m hs bl mir t v) = true from beq_self_eq_true _]
      walk_at "vc"
      exact ⟨_, _, _, _, rfl⟩
    · rintro e ⟨a, x5, x7, x13, rfl⟩
      exact ⟨_, _, _, _, rfl⟩
  rintro _ ⟨a, x5, x7, x13, rfl⟩
  walk_at "vc"
  exact q _ _ _
end
theorem law_true : ∀ ns : List Int, ns.length ≤ 63 → ∃ args', g_law [.ro (ns.map .int)] = some (.bool true, args') := by
  intro ns hl
  suffices h : WG g_law [.ro (ns.map .int)] (fun d _ => d = .bool true) by
    obtain ⟨d, a, e, rfl⟩ := h
    exact ⟨a, e⟩
  refine wg_run rfl ?_
  unfold b_law
  walk_at "nr"
  refine ws_mid (fun e => ∃ a : Int, e = [.ro (ns.map .int), .own true [.int a], .no, .no, .no, .no, .no, .no]) ?_ ?_
  · walk_at "vc"
    refine purse_w (by omega) (by omega) fun a _ _ => ?_
    walk_at "vc"
    exact ⟨_, rfl⟩
  rintro _ ⟨a, rfl⟩
  refine ws_mid (fun e => ∃ (a m : Int) (hs : List Hd) (bl mir : Bool), 1 < m ∧ m ≤ 10 ^ 60 ∧ 1 ≤ hs.length ∧ hs.length ≤ 5 ∧ HandsOk m hs ∧ e = [.ro (ns.map .int), .own true [.int a], .val (clockD m hs bl mir), .no, .no, .no, .no, .no]) ?_ ?_
  · walk_at "vc"
    refine take_w (by omega) (by omega) fun r _ _ r0 r1 => ?_
    walk_at "vc"
    refine lclockS_w fun m hs bl mir _ _ hm hm2 _ h1 hn hk => ?_
    walk_at "vc"
    exact ⟨_, m, hs, bl, mir, hm, hm2, h1, hn, hk, rfl⟩
  rintro _ ⟨a, m, hs, bl, mir, hm, hm2, h1, hn, hk, rfl⟩
  have hm0 : 0 < m := by omega
  refine ws_mid (fun e => e = [.ro (ns.map .int), .own true [.int a], .val (clockD m hs bl mir), .val (.int m), .no, .no, .no, .no]) (by walk_at "vc"; rfl) ?_
  rintro _ rfl
  refine ws_mid (fun e => ∃ (g : Int) (ws : List Int), We m (firstsL m hs bl) g ws ∧ e = [.ro (ns.map .int), .own true [.int a], .val (clockD m hs bl mir), .val (.int m), .val (.int (m / g)), .no, .no, .no]) ?_ ?_
  · walk_at "vc"
    refine coarse_w hm0 hm2 h1 hn hk fun g ws _ hW => ?_
    walk_at "vc"
    exact ⟨g, ws, hW, rfl⟩
  rintro _ ⟨g, ws, hW, rfl⟩
  refine ws_mid (fun e => ∃ (a : Int) (x5 x6 x7 : Sl), e = [.ro (ns.map .int), .own true [.int a], .val (clockD m hs bl mir), .val (.int m), .val (.int (m / g)), x5, x6, x7]) ?_ ?_
  · refine ws_forN (fun _ i e => ∃ (a : Int) (x5 x6 x7 : Sl), e = [.ro (ns.map .int), .own true [.int a], .val (clockD m hs bl mir), .val (.int m), .val (.int (m / g)), x5, x6, x7]) ?_
    walk_at "vc"
    refine ⟨⟨_, _, _, _, rfl⟩, ?_, ?_⟩
    · rintro i d e hil hd ⟨a, x5, x6, x7, rfl⟩
      obtain ⟨rfl, hi1⟩ := irange_at hd
      refine wt_n ?_
      walk_at "nr"
      refine ws_mid (fun e => ∃ (a t : Int), 0 ≤ t ∧ t < m ∧ e = [.ro (ns.map .int), .own true [.int a], .val (clockD m hs bl mir), .val (.int m), .val (.int (m / g)), .val (.int (i : Int)), .val (.int t), x7]) ?_ ?_
      · walk_at "vc"
        refine take_w hm0 (by omega) fun r _ _ r0 r1 => ?_
        walk_at "vc"
        by_cases hi0 : (i : Int) > 0
        · refine wo_idxE (x := .int r) (by rw [decide_eq_true hi0]; rfl) ?_
          walk_at "vc"
          exact ⟨_, r, r0, r1, rfl⟩
        · refine wo_idxE (x := .int 0) (by rw [decide_eq_false hi0]; rfl) ?_
          walk_at "vc"
          exact ⟨_, 0, by omega, by omega, rfl⟩
      rintro _ ⟨a, t, t0, t1, rfl⟩
      by_cases hg1 : g = 1
      · have hF : Fine m hs bl := by
          unfold Fine
          rw [← hg1]
          exact hW.gd
        have hg : m / g = m := by rw [hg1, Int.ediv_one]
        walk_at "vc"
        refine right_w hm hm2 h1 hn hk hF t0 t1 fun _ _ _ => ?_
        walk_at "vc"
        exact ⟨_, _, _, _, rfl⟩
      · have hS := show_step (hs := hs) (bl := bl) (mir := mir) hW t
        have hgp := hW.pos
        obtain ⟨c, hc⟩ := hW.dm
        have hcg : m / g = c := by rw [hc, Int.mul_ediv_cancel_left _ (by omega)]
        rw [hcg] at hS ⊢
        have hc0 : 0 < c := by
          refine Int.not_le.mp fun h => ?_
          have := Int.mul_le_mul_of_nonneg_left h (show 0 ≤ g by omega)
          omega
        have hcm : c < m := by
          have := Int.mul_le_mul_of_nonneg_right (show 2 ≤ g by omega) (show 0 ≤ c by omega)
          omega
        have hg : ¬ c = m := by omega
        walk_at "vc"
        refine tickA_w hm hm2 h1 hn hk (by omega) fun d _ _ hT => ?_
        rcases hT with ⟨u, r, rfl, hr, u0, u1, hne, hTk⟩ | ⟨ps, rfl, hpl, hps⟩
        · have hsu : showB m hs bl mir t u = true := showB_iff.mpr ((show_iff hm0).mpr ⟨r, hr, hTk⟩)
          have hss : showB m hs bl mir t (t + c) = true := showB_iff.mpr hS
          walk_at "vc"
          refine lsame_w hm hm2 h1 hn hk (by omega) (by omega) fun _ _ _ => ?_
          rw [hsu]
          walk_at "vc"
          refine lsame_w hm hm2 h1 hn hk (by omega) (by omega) fun _ _ _ => ?_
          rw [hss]
          walk_at "vc"
          exact ⟨_, _, _, _, rfl⟩
        · have h4 := ticks_clear hm0 hpl hps hS
          exfalso
          rw [Int.emod_eq_of_lt t0 t1] at h4
          have h5 := Int.mul_ediv_add_emod (t + c) m
          rw [h4] at h5
          generalize (t + c) / m = q at *
          rcases Int.lt_or_le q 1 with h | h
          · have := Int.mul_le_mul_of_nonneg_left (show q ≤ 0 by omega) (show 0 ≤ m by omega)
            omega
          · have := Int.mul_le_mul_of_nonneg_left h (show 0 ≤ m by omega)
            omega
    · rintro e ⟨a, x5, x6, x7, rfl⟩
      exact ⟨_, _, _, _, rfl⟩
  rintro _ ⟨a, x5, x6, x7, rfl⟩
  walk_at "vc"
  rfl
end Lw

theorem PySem.Challenge.cw_dialdoubt_k23_whole_one_picture_one_row_holds : PySem.Challenge.rw_dialdoubt_k23_whole_one_picture_one_row.Holds :=
  Lw.walked Lw.law_true
