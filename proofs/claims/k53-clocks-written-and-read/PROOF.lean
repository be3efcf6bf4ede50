import PyProof.Rows.All
import HandS.Conv
import HandS.Deep
import HandS.ExcBuiltin
import HandS.ExcInit
import HandS.ExcIs
import HandS.ExcOwn
import HandS.ForMost
import HandS.IsInst
import HandS.More
import HandS.Replace
import HandS.SetFor
import HandS.Strs
import HandS.Style
import HandS.Text
import HandS.TupAny
import HandS.Walk
import HandS.Wide
import HandS.WordsExc
import HandS.Zip
import KE.DataFind
import KE.DataMinMax
import KE.DatumIndex
import KE.DatumOrd
import KE.GoesEnum
import KE.GoesMore
import KE.GoesZip
import KE.KDictDisplayH
import KE.KDictKeyed
import KE.KExcIs
import KE.KTurns
import KE.KeyNested
import KE.KxIndex
import KE.SortData
import OpenK.AllK
import PyProof.ListStr
import PyProof.Rows.SetFrom
import Wide.All
import Wide.FinOn
import HandS.NoneIn
import HandS.Dict
import PySem.Challenge.RW_dialdoubt_k53_clocks_written_and_read
set_option Elab.async false
set_option linter.all false
set_option maxRecDepth 100000
set_option maxHeartbeats 4000000
namespace Lw
open PySem PySem.W PyProof.Rows
set_option maxHeartbeats 0 in
open_top wrap for PySem.Challenge.rw_dialdoubt_k53_clocks_written_and_read
end Lw
namespace M
open PySem PySem.Spec PyProof.Rows L2

abbrev D := PyData
abbrev Frg := PySem.W.Frag
/-- a slot: nothing; a value that never changes; a list that this def may change (l: made here; else handed in); a list that is read only; a dict made here (w: by whose hashes) -/
inductive Sl where
  | no | val (d : D) | own (l : Bool) (ds : List D) | ro (ds : List D) | dct (w : World) (kvs : List (D × D))
abbrev En := List Sl

/-! ### values in a frozen heap -/
/-- a caught exception at a: of the class at C, its own dict at d -/
def ExV (C : Addr) (d : Option Addr) (a : Addr) : HO := .ext fun h => ∃ (oe : Obj) (vs : Array Value), h.get? a = some oe ∧ Zc (.ref C) d oe ∧ oe.data = .fields vs
/-! dicts: by their entries (hash, key, value) -/
def EntR (e : Int × V × V) (x : DictEntry) : Prop := x.hash = e.1 ∧ RelV e.2.1 x.key ∧ RelV e.2.2 x.val
abbrev DicO (a : Addr) (es : List (Int × V × V)) : HO := .ext fun h => ∃ (o : Obj) (xs : Array DictEntry) (ep : Nat), h.get? a = some o ∧ o.ExactDict ∧ o.data = .dict xs ep ∧ (a == sysModules) = false ∧ Paired EntR es xs.toList
mutual
inductive Dt (F : Hp) : V → D → Prop
  | non : Dt F .non .none
  | bl (b : Bool) : Dt F (.bl b) (.bool b)
  | int (i : Int) : Dt F (.int i) (.int i)
  | str (x : Str) : Dt F (.str x) (.str x)
  | lst {a : Addr} {xs : List V} {ds : List D} : F a = some (.lst xs) → Da F xs ds → Dt F (.ref a) (.list ds)
  | tup {a : Addr} {xs : List V} {ds : List D} : F a = some (.tup xs) → Da F xs ds → Dt F (.ref a) (.tuple ds)
  | xc {a C : Addr} : F a = some (ExV C none a) → Dt F (.ref a) (.dict [(.int (C : Int), .none)])
  | xf {a C dd : Addr} {f : Str} {z : Int} : F a = some (ExV C (some dd) a) → F dd = some (.xd [(f, .int z)]) → Dt F (.ref a) (.dict [(.int (C : Int), .tuple [.str f, .int z])])
  | dic {a : Addr} {od : Obj} {es : List (Int × V × V)} {ks vs : List D} : F a = some (.frz od (DicO a es)) → Da F (es.map (·.2.1)) ks → Da F (es.map (·.2.2)) vs → Dt F (.ref a) (.dict [(.none, .list ks), (.list vs, .list (es.map fun e => .int e.1))])
inductive Da (F : Hp) : List V → List D → Prop
  | nil : Da F [] []
  | cons {v : V} {vs : List V} {d : D} {ds : List D} : Dt F v d → Da F vs ds → Da F (v :: vs) (d :: ds)
end
theorem Dt.mono {F F' : Hp} (e : Same F F') (d : D) (v : V) (h : Dt F v d) : Dt F' v d :=
  Dt.rec (motive_1 := fun v d _ => Dt F' v d) (motive_2 := fun vs ds _ => Da F' vs ds) .non .bl .int .str (fun s _ a => .lst (e _ _ s) a) (fun s _ a => .tup (e _ _ s) a) (fun s => .xc (e _ _ s)) (fun s1 s2 => .xf (e _ _ s1) (e _ _ s2)) (fun s _ _ a b => .dic (e _ _ s) a b) .nil (fun _ _ a b => .cons a b) h
theorem Da.mono {F F' : Hp} (e : Same F F') (ds : List D) (vs : List V) (h : Da F vs ds) : Da F' vs ds :=
  Da.rec (motive_1 := fun v d _ => Dt F' v d) (motive_2 := fun vs ds _ => Da F' vs ds) .non .bl .int .str (fun s _ a => .lst (e _ _ s) a) (fun s _ a => .tup (e _ _ s) a) (fun s => .xc (e _ _ s)) (fun s1 s2 => .xf (e _ _ s1) (e _ _ s2)) (fun s _ _ a b => .dic (e _ _ s) a b) .nil (fun _ _ a b => .cons a b) h
mutual
def nd : D → Bool
  | .none => true
  | .bool _ => true
  | .int _ => true
  | .str _ => true
  | .list ds => ndA ds
  | .tuple ds => ndA ds
  | .dict _ => false
def ndA : List D → Bool
  | [] => true
  | d :: ds => nd d && ndA ds
end
theorem ndA_cons {d : D} {ds : List D} (h : ndA (d :: ds) = true) : nd d = true ∧ ndA ds = true := by
  unfold ndA at h
  exact Bool.and_eq_true_iff.mp h
mutual
theorem nd_can : ∀ d : D, d.canLay0 = true → nd d = true
  | .none, _ => by unfold nd; rfl
  | .bool _, _ => by unfold nd; rfl
  | .int _, _ => by unfold nd; rfl
  | .str _, _ => by unfold nd; rfl
  | .list ds, h => by unfold nd; exact ndA_can ds (by unfold PyData.canLay0 at h; exact h)
  | .tuple ds, h => by unfold nd; exact ndA_can ds (by unfold PyData.canLay0 at h; exact h)
  | .dict _, h => by unfold PyData.canLay0 at h; cases h
theorem ndA_can : ∀ ds : List D, PyData.canLayAll0 ds = true → ndA ds = true
  | [], _ => by unfold ndA; rfl
  | d :: ds, h => by
    unfold PyData.canLayAll0 at h
    obtain ⟨h1, h2⟩ := Bool.and_eq_true_iff.mp h
    unfold ndA
    rw [nd_can d h1, ndA_can ds h2]; rfl
end
theorem nd_sh {d : D} (h : SeqAt.shaped d = true) : nd d = true := nd_can d (Bool.and_eq_true_iff.mp h).1
mutual
theorem nd_alike : ∀ d : D, PySem.W.alike d d = true → nd d = true
  | .none, _ => by unfold nd; rfl
  | .bool _, _ => by unfold nd; rfl
  | .int _, _ => by unfold nd; rfl
  | .str _, _ => by unfold nd; rfl
  | .list ds, h => by unfold nd; exact ndA_alike ds (by unfold PySem.W.alike at h; exact h)
  | .tuple ds, h => by unfold nd; exact ndA_alike ds (by unfold PySem.W.alike at h; exact h)
  | .dict _, h => by unfold PySem.W.alike at h; cases h
theorem ndA_alike : ∀ ds : List D, PySem.W.alikeAll ds ds = true → ndA ds = true
  | [], _ => by unfold ndA; rfl
  | d :: ds, h => by
    unfold PySem.W.alikeAll at h
    obtain ⟨h1, h2⟩ := Bool.and_eq_true_iff.mp h
    unfold ndA
    rw [nd_alike d h1, ndA_alike ds h2]; rfl
end
theorem ndA_of {ds : List D} (h : ∀ d ∈ ds, nd d = true) : ndA ds = true := by
  induction ds with
  | nil => unfold ndA; rfl
  | cons d ds ih =>
    unfold ndA
    rw [h d (by simp), ih fun e he => h e (by simp [he])]; rfl
mutual
theorem Dt.dp {K : Frg} {F : Hp} : ∀ (d : D) (v : V), nd d = true → Dt F v d → Dp K F v d
  | .none, _, _, h => by cases h; exact .non
  | .bool _, _, _, h => by cases h; exact .bl _
  | .int _, _, _, h => by cases h; exact .int _
  | .str _, _, _, h => by cases h; exact .str _
  | .list ds, _, n, h => by
    cases h with
    | lst s a => exact .lst (SqL.of s) (Da.dp ds _ (by unfold nd at n; exact n) a)
  | .tuple ds, _, n, h => by
    cases h with
    | tup s a => exact .tup (SqT.of s) (Da.dp ds _ (by unfold nd at n; exact n) a)
  | .dict _, _, n, h => by unfold nd at n; cases n
theorem Da.dp {K : Frg} {F : Hp} : ∀ (ds : List D) (vs : List V), ndA ds = true → Da F vs ds → DpAll K F vs ds
  | [], _, _, h => by cases h; exact .nil
  | d :: ds, _, n, h => by
    cases h with
    | cons h1 h2 => exact .cons (Dt.dp d _ (ndA_cons n).1 h1) (Da.dp ds _ (ndA_cons n).2 h2)
end
theorem Da.length {F : Hp} : ∀ {ds : List D} {vs : List V}, Da F vs ds → vs.length = ds.length
  | [], _, h => by cases h; rfl
  | d :: ds, _, h => by
    cases h with
    | cons h1 h2 => simp [Da.length h2]
theorem Da.append {F : Hp} : ∀ {ds es : List D} {vs us : List V}, Da F vs ds → Da F us es → Da F (vs ++ us) (ds ++ es)
  | [], _, _, _, h, h' => by cases h; exact h'
  | d :: ds, _, _, _, h, h' => by
    cases h with
    | cons h1 h2 => exact .cons h1 (Da.append h2 h')
theorem Da.get {F : Hp} : ∀ {ds : List D} {vs : List V} {i : Nat} {d : D}, Da F vs ds → ds[i]? = some d → ∃ v, vs[i]? = some v ∧ Dt F v d
  | [], _, _, _, _, e => by simp at e
  | d :: ds, _, 0, _, h, e => by
    cases h with
    | cons h1 h2 => simp at e; subst e; exact ⟨_, rfl, h1⟩
  | d :: ds, _, i + 1, _, h, e => by
    cases h with
    | cons h1 h2 =>
      obtain ⟨v, h3, h4⟩ := Da.get (i := i) h2 (by simpa using e)
      exact ⟨v, by simpa using h3, h4⟩
theorem Da.get' {F : Hp} {ds : List D} {vs : List V} {i : Nat} {v : V} (h : Da F vs ds) (e : vs[i]? = some v) : ∃ d, ds[i]? = some d ∧ Dt F v d := by
  have hi : i < vs.length := (List.getElem?_eq_some_iff.mp e).1
  have hj : i < ds.length := by rw [← h.length]; exact hi
  obtain ⟨u, h1, h2⟩ := h.get (List.getElem?_eq_getElem hj)
  rw [e] at h1; cases h1
  exact ⟨_, List.getElem?_eq_getElem hj, h2⟩
theorem Da.of {F : Hp} : ∀ {ds : List D} {vs : List V}, vs.length = ds.length → (∀ (i : Nat) v d, vs[i]? = some v → ds[i]? = some d → Dt F v d) → Da F vs ds
  | [], [], _, _ => .nil
  | [], _ :: _, h, _ => by simp at h
  | _ :: _, [], h, _ => by simp at h
  | d :: ds, v :: vs, h, g => .cons (g 0 v d rfl rfl) (Da.of (by simpa using h) fun i u e h1 h2 => g (i + 1) u e (by simpa using h1) (by simpa using h2))
theorem Da.pick {F : Hp} {ds es : List D} {vs us : List V} (h : Da F vs ds) (hl : us.length = es.length) (g : ∀ (i : Nat) v d, us[i]? = some v → es[i]? = some d → ∃ j : Nat, vs[j]? = some v ∧ ds[j]? = some d) : Da F us es :=
  Da.of hl fun i v d h1 h2 => by
    obtain ⟨j, e1, e2⟩ := g i v d h1 h2
    obtain ⟨d', e, q⟩ := h.get' e1
    rw [e2] at e; cases e; exact q
theorem Da.take {F : Hp} {ds : List D} {vs : List V} (h : Da F vs ds) (n : Nat) : Da F (vs.take n) (ds.take n) :=
  h.pick (by simp [h.length]) fun i v d h1 h2 => by
    rw [List.getElem?_take] at h1 h2
    split at h1
    · rename_i hn
      rw [if_pos hn] at h2
      exact ⟨i, h1, h2⟩
    · cases h1
theorem Da.drop {F : Hp} {ds : List D} {vs : List V} (h : Da F vs ds) (n : Nat) : Da F (vs.drop n) (ds.drop n) :=
  h.pick (by simp [h.length]) fun i v d h1 h2 => by
    rw [List.getElem?_drop] at h1 h2
    exact ⟨n + i, h1, h2⟩
theorem Da.set {F : Hp} {ds : List D} {vs : List V} {d : D} {v : V} (h : Da F vs ds) (q : Dt F v d) (n : Nat) : Da F (vs.set n v) (ds.set n d) := by
  refine Da.of (by simp [h.length]) fun i v' d' h1 h2 => ?_
  by_cases hi : n = i
  · subst hi
    have l1 : n < vs.length := by have := (List.getElem?_eq_some_iff.mp h1).1; simpa using this
    have l2 : n < ds.length := by rw [← h.length]; exact l1
    rw [List.getElem?_set_self l1] at h1
    rw [List.getElem?_set_self l2] at h2
    cases h1; cases h2; exact q
  · rw [List.getElem?_set_ne hi] at h1 h2
    obtain ⟨d2, e, q'⟩ := h.get' h1
    rw [h2] at e; cases e; exact q'
theorem Da.erase {F : Hp} : ∀ {ds : List D} {vs : List V} (n : Nat), Da F vs ds → Da F (vs.eraseIdx n) (ds.eraseIdx n)
  | [], _, _, h => by cases h; exact .nil
  | d :: ds, _, 0, h => by cases h with | cons h1 h2 => exact h2
  | d :: ds, _, n + 1, h => by cases h with | cons h1 h2 => exact .cons h1 (Da.erase n h2)

/-- a def's frame: what is frozen and what stands at its entry; the pinned objects; the slots at entry -/
structure Gm where
  F0 : Hp
  H0 : Hp
  P : Hp
  R : Hp
  s0 : L2.St

mutual
def nkOf : D → Option NestedKey
  | .none => some .none
  | .bool b => some (.num (if b then 1 else 0))
  | .int i => some (.num i)
  | .str x => some (.text x)
  | .tuple ds => (nkAll ds).map .tup
  | .list _ => none
  | .dict _ => none
def nkAll : List D → Option (List NestedKey)
  | [] => some []
  | d :: ds => (nkOf d).bind fun k => (nkAll ds).map fun ks => k :: ks
end
def EntOk (F : Hp) (w : World) (e : Int × V × V) (p : D × D) : Prop := (∃ nk, nkOf p.1 = some nk ∧ e.1 = nk.hash w) ∧ Dt F e.2.1 p.1 ∧ Dt F e.2.2 p.2
structure EntsOk (F : Hp) (w : World) (es : List (Int × V × V)) (kvs : List (D × D)) : Prop where
  all : Paired (EntOk F w) es kvs
  nd : (kvs.map fun p => nkOf p.1).Nodup
  le : kvs.length ≤ sizeLine
theorem EntsOk.mono {F F' : Hp} (e : Same F F') {w : World} {es : List (Int × V × V)} {kvs : List (D × D)} (h : EntsOk F w es kvs) : EntsOk F' w es kvs where
  all := by
    have : ∀ {es : List (Int × V × V)} {kvs : List (D × D)}, Paired (EntOk F w) es kvs → Paired (EntOk F' w) es kvs := fun {es kvs} h => by
      induction h with
      | nil => exact .nil
      | cons r _ ih => exact .cons ⟨r.1, Dt.mono e _ _ r.2.1, Dt.mono e _ _ r.2.2⟩ ih
    exact this h.all
  nd := h.nd
  le := h.le
structure DcOk (G : Gm) (F : Hp) (env : En) (s : L2.St) (H : Hp) : Prop where
  at' : ∀ (i : Nat) w kvs, env[i]? = some (.dct w kvs) → ∃ a es, s[i]? = some (some (.ref a)) ∧ H a = some (DicO a es) ∧ F a = none ∧ G.P a = none ∧ G.H0 a = none ∧ EntsOk F w es kvs
  sep : ∀ (i j : Nat) w kvs w' kvs', env[i]? = some (.dct w kvs) → env[j]? = some (.dct w' kvs') → s[i]? = s[j]? → i = j
theorem DcOk.move {G G' : Gm} {F F' : Hp} {env env' : En} {s s' : L2.St} {H H' : Hp} (k : DcOk G F env s H) (hF : Same F F') (he : ∀ (i : Nat) w kvs, env'[i]? = some (.dct w kvs) → env[i]? = some (.dct w kvs) ∧ s'[i]? = s[i]?)
    (hH : ∀ a es, H a = some (DicO a es) → F a = none → G.P a = none → G.H0 a = none → (∃ (i : Nat) (w : World) (kvs : List (D × D)), env[i]? = some (.dct w kvs) ∧ s[i]? = some (some (.ref a))) → H' a = some (DicO a es) ∧ F' a = none ∧ G'.P a = none ∧ G'.H0 a = none) : DcOk G' F' env' s' H' where
  at' := fun i w kvs e => by
    obtain ⟨e1, e2⟩ := he i w kvs e
    obtain ⟨a, es, h1, h2, h3, h4, h5, h6⟩ := k.at' i w kvs e1
    obtain ⟨g2, g3, g4, g5⟩ := hH a es h2 h3 h4 h5 ⟨i, w, kvs, e1, h1⟩
    exact ⟨a, es, e2.trans h1, g2, g3, g4, g5, h6.mono hF⟩
  sep := fun i j w kvs w' kvs' e1 e2 e3 => by
    obtain ⟨f1, f2⟩ := he i w kvs e1
    obtain ⟨f3, f4⟩ := he j w' kvs' e2
    exact k.sep i j _ _ _ _ f1 f3 (f2.symm.trans (e3.trans f4))
/-- nothing but the slots changes -/
theorem DcOk.slots {G : Gm} {F : Hp} {env env' : En} {s s' : L2.St} {H : Hp} (k : DcOk G F env s H) (he : ∀ (i : Nat) w kvs, env'[i]? = some (.dct w kvs) → env[i]? = some (.dct w kvs) ∧ s'[i]? = s[i]?) : DcOk G F env' s' H :=
  k.move (fun _ _ e => e) he fun a es h1 h2 h3 h4 _ => ⟨h1, h2, h3, h4⟩
structure Ok (K : Frg) (G : Gm) (F : Hp) (env : En) (s : L2.St) (H : Hp) : Prop where
  len : s.length = env.length
  fr : Same F H
  val : ∀ (i : Nat) d, env[i]? = some (.val d) → ∃ v, s[i]? = some (some v) ∧ Dt F v d
  own : ∀ (i : Nat) l ds, env[i]? = some (.own l ds) → ∃ a vs, s[i]? = some (some (.ref a)) ∧ H a = some (.lst vs) ∧ F a = none ∧ G.P a = none ∧ Da F vs ds ∧ (l = true → G.H0 a = none) ∧ (l = false → G.s0[i]? = some (some (.ref a)))
  ro : ∀ (i : Nat) ds, env[i]? = some (.ro ds) → ∃ a vs, s[i]? = some (some (.ref a)) ∧ SqL K G.R a vs ∧ Da F vs ds
  sep : ∀ (i j : Nat) l ds m es, env[i]? = some (.own l ds) → env[j]? = some (.own m es) → s[i]? = s[j]? → i = j
  pin : Same G.P H
  dom : ∀ a, H a = none → G.H0 a = none
  grow : Same G.F0 F
  new : ∀ a o, F a = some o → G.F0 a = some o ∨ G.H0 a = none
  rin : Same G.R G.P
  dct : DcOk G F env s H

theorem same_upd {F : Hp} {p : Addr} {o : HO} (h : F p = none) : Same F (upd F p o) := fun b x e => by
  rw [upd_ne (ne_of_none e h)]
  exact e
theorem same_laid {F H : Hp} {p : Addr} {o : HO} (e : Same F H) (hp : H p = none) : Same F (upd H p o) := fun a u q => by
  have := e a u q
  rw [upd_ne (ne_of_none this hp)]; exact this

section
variable {K : Frg} {G : Gm} {F : Hp} {env : En} {s : L2.St} {H : Hp} {p : Addr} {o : HO}
/-- a new object, not frozen -/
theorem Ok.laid (k : Ok K G F env s H) (hp : H p = none) : Ok K G F env s (upd H p o) where
  len := k.len
  fr := same_laid k.fr hp
  val := k.val
  own := fun i l ds e => by
    obtain ⟨a, vs, h1, h2, h3⟩ := k.own i l ds e
    exact ⟨a, vs, h1, by rw [upd_ne (ne_of_none h2 hp)]; exact h2, h3⟩
  ro := k.ro
  sep := k.sep
  pin := same_laid k.pin hp
  dom := fun a e => by
    by_cases h : a = p
    · subst h; rw [upd_same] at e; cases e
    · rw [upd_ne h] at e; exact k.dom a e
  grow := k.grow
  new := k.new
  rin := k.rin
  dct := k.dct.move (fun _ _ e => e) (fun _ _ _ e => ⟨e, rfl⟩) fun a es h1 h2 h3 h4 _ => ⟨by rw [upd_ne (ne_of_none h1 hp)]; exact h1, h2, h3, h4⟩
theorem Ok.notdct (k : Ok K G F env s H) {q : HO} (hp : H p = some q) (hq : ∀ es, q ≠ DicO p es) : ∀ (j : Nat) w kvs, env[j]? = some (.dct w kvs) → s[j]? ≠ some (some (.ref p)) := fun j w kvs e z => by
  obtain ⟨a, es, h1, h2, _⟩ := k.dct.at' j w kvs e
  rw [z] at h1
  cases h1
  rw [hp] at h2
  exact hq es (Option.some.inj h2)
theorem Ok.notdctL (k : Ok K G F env s H) {vs : List V} (hp : H p = some (.lst vs)) : ∀ (j : Nat) w kvs, env[j]? = some (.dct w kvs) → s[j]? ≠ some (some (.ref p)) := k.notdct hp fun _ h => nomatch h
theorem Ok.notdctT (k : Ok K G F env s H) {vs : List V} (hp : H p = some (.tup vs)) : ∀ (j : Nat) w kvs, env[j]? = some (.dct w kvs) → s[j]? ≠ some (some (.ref p)) := k.notdct hp fun _ h => nomatch h
theorem Ok.notdctN (k : Ok K G F env s H) (hp : H p = none) : ∀ (j : Nat) w kvs, env[j]? = some (.dct w kvs) → s[j]? ≠ some (some (.ref p)) := fun j w kvs e z => by
  obtain ⟨a, es, h1, h2, _⟩ := k.dct.at' j w kvs e
  rw [z] at h1
  cases h1
  rw [hp] at h2; cases h2
/-- freezing -/
theorem Ok.freeze (k : Ok K G F env s H) (h1 : H p = some o) (h2 : F p = none) (h3 : G.H0 p = none) (h4 : ∀ (j : Nat) l es, env[j]? = some (.own l es) → s[j]? ≠ some (some (.ref p))) (h5 : ∀ (j : Nat) w kvs, env[j]? = some (.dct w kvs) → s[j]? ≠ some (some (.ref p))) : Ok K G (upd F p o) env s H where
  len := k.len
  fr := fun a u e => by
    by_cases h : a = p
    · subst h; rw [upd_same] at e; rw [h1]; exact e
    · rw [upd_ne h] at e; exact k.fr a u e
  val := fun i d e => by
    obtain ⟨v, q1, q2⟩ := k.val i d e
    exact ⟨v, q1, Dt.mono (same_upd h2) d v q2⟩
  own := fun i l ds e => by
    obtain ⟨a, us, q1, q2, q3, q4, q5, q6⟩ := k.own i l ds e
    have ne : a ≠ p := fun z => by subst z; exact h4 i l ds e q1
    exact ⟨a, us, q1, q2, by rw [upd_ne ne]; exact q3, q4, Da.mono (same_upd h2) ds us q5, q6⟩
  ro := fun i ds e => by
    obtain ⟨a, us, q1, q2, q3⟩ := k.ro i ds e
    exact ⟨a, us, q1, q2, Da.mono (same_upd h2) ds us q3⟩
  sep := k.sep
  pin := k.pin
  dom := k.dom
  grow := k.grow.trans (same_upd h2)
  new := fun a u e => by
    by_cases h : a = p
    · subst h; exact .inr h3
    · rw [upd_ne h] at e; exact k.new a u e
  rin := k.rin
  dct := k.dct.move (same_upd h2) (fun _ _ _ e => ⟨e, rfl⟩) fun a es g1 g2 g3 g4 ⟨i, w, kvs, g5, g6⟩ => ⟨g1, by
    have ne : a ≠ p := fun z => by subst z; exact h5 i w kvs g5 g6
    rw [upd_ne ne]; exact g2, g3, g4⟩
theorem Ok.notown (k : Ok K G F env s H) (hp : H p = none) : ∀ (j : Nat) l es, env[j]? = some (.own l es) → s[j]? ≠ some (some (.ref p)) := fun j l es e z => by
  obtain ⟨a, vs, h1, h2, _⟩ := k.own j l es e
  rw [z] at h1
  cases h1
  rw [hp] at h2; cases h2
/-- a new object, frozen at once -/
theorem Ok.alloc (k : Ok K G F env s H) (hp : H p = none) : Ok K G (upd F p o) env s (upd H p o) :=
  (k.laid hp).freeze upd_same (k.fr.free hp) (k.dom p hp) (k.notown hp) (k.notdctN hp)
end

/-- a value frozen, or a list that the def owns or may read -/
def Dq (K : Frg) (F H : Hp) (v : V) (d : D) : Prop := Dt F v d ∨ ∃ a vs ds, v = .ref a ∧ d = .list ds ∧ SqL K H a vs ∧ Da F vs ds
theorem Dq.dp {K : Frg} {F H : Hp} {v : V} {d : D} (e : Same F H) (n : nd d = true) (h : Dq K F H v d) : Dp K H v d := by
  rcases h with h | ⟨a, vs, ds, rfl, rfl, h1, h2⟩
  · exact Dt.dp d v n (Dt.mono e d v h)
  · exact .lst h1 (Da.dp ds vs (by unfold nd at n; exact n) (Da.mono e ds vs h2))
theorem Dq.list {K : Frg} {F H : Hp} {v : V} {ds : List D} (e : Same F H) (h : Dq K F H v (.list ds)) : ∃ a vs, v = .ref a ∧ SqL K H a vs ∧ Da F vs ds := by
  rcases h with h | ⟨a, vs, es, rfl, e2, h1, h2⟩
  · cases h with
    | lst s a => exact ⟨_, _, rfl, SqL.of (e _ _ s), a⟩
  · cases e2
    exact ⟨a, vs, rfl, h1, h2⟩
theorem Dq.tup {K : Frg} {F H : Hp} {v : V} {ds : List D} (e : Same F H) (h : Dq K F H v (.tuple ds)) : ∃ a vs, v = .ref a ∧ H a = some (.tup vs) ∧ F a = some (.tup vs) ∧ Da F vs ds := by
  rcases h with h | ⟨a, vs, es, rfl, e2, h1, h2⟩
  · cases h with
    | tup s a => exact ⟨_, _, rfl, e _ _ s, s, a⟩
  · cases e2
theorem Dq.int {K : Frg} {F H : Hp} {v : V} {i : Int} (h : Dq K F H v (.int i)) : v = .int i := by
  rcases h with h | ⟨a, vs, ds, rfl, e, h1, h2⟩
  · cases h; rfl
  · cases e
theorem Dq.bl {K : Frg} {F H : Hp} {v : V} {i : Bool} (h : Dq K F H v (.bool i)) : v = .bl i := by
  rcases h with h | ⟨a, vs, ds, rfl, e, h1, h2⟩
  · cases h; rfl
  · cases e
theorem Dq.str {K : Frg} {F H : Hp} {v : V} {i : Str} (h : Dq K F H v (.str i)) : v = .str i := by
  rcases h with h | ⟨a, vs, ds, rfl, e, h1, h2⟩
  · cases h; rfl
  · cases e
theorem Dq.non {K : Frg} {F H : Hp} {v : V} (h : Dq K F H v .none) : v = .non := by
  rcases h with h | ⟨a, vs, ds, rfl, e, h1, h2⟩
  · cases h; rfl
  · cases e
/-! ### judgements -/
abbrev Ef := En → Option (D × En)
abbrev Bf := En → Option (Bool × En)
abbrev Lf := En → Option (List D × En)
def RE (K : Frg) (t : TE) (f : Ef) : Prop := ∀ G F env s H d env', Ok K G F env s H → f env = some (d, env') → ∀ Q : VK, (∀ F' H' v, Ok K G F' env' s H' → Same F F' → Dt F' v d → Q v H') → t s H Q
/-- the value may be one of the def's own lists -/
def RO (K : Frg) (t : TE) (f : Ef) : Prop := ∀ G F env s H d env', Ok K G F env s H → f env = some (d, env') → ∀ Q : VK, (∀ F' H' v, Ok K G F' env' s H' → Same F F' → Dq K F' H' v d → Q v H') → t s H Q
/-- a new list, nobody's yet -/
def RN (K : Frg) (t : TE) (f : Lf) : Prop := ∀ G F env s H ds env', Ok K G F env s H → f env = some (ds, env') → ∀ Q : VK,
  (∀ F' H' p vs, Ok K G F' env' s H' → Same F F' → H' p = some (.lst vs) → F' p = none → G.H0 p = none → G.P p = none → (∀ (j : Nat) l es, env'[j]? = some (.own l es) → s[j]? ≠ some (some (.ref p))) → Da F' vs ds → Q (.ref p) H') → t s H Q
def RB (K : Frg) (t : TT) (f : Bf) : Prop := ∀ G F env s H b env', Ok K G F env s H → f env = some (b, env') → ∀ Q : Bool → Hp → Prop, (∀ F' H', Ok K G F' env' s H' → Same F F' → Q b H') → t s H Q
def RL (K : Frg) (t : TA) (f : Lf) : Prop := ∀ G F env s H ds env', Ok K G F env s H → f env = some (ds, env') → ∀ Q : List V → Hp → Prop, (∀ F' H' vs, Ok K G F' env' s H' → Same F F' → Da F' vs ds → Q vs H') → t s H Q

structure XE (X : Cx) (e : Expr) (f : Ef) : Prop where
  ex : ∃ t, PE X e t ∧ RE X.K t f
structure XO (X : Cx) (e : Expr) (f : Ef) : Prop where
  ex : ∃ t, PE X e t ∧ RO X.K t f
structure XN (X : Cx) (e : Expr) (f : Lf) : Prop where
  ex : ∃ t, PE X e t ∧ RN X.K t f
structure XB (X : Cx) (e : Expr) (f : Bf) : Prop where
  ex : ∃ t, PT X e t ∧ RB X.K t f
structure XW (X : Cx) (e : Expr) (f : Bf) : Prop where
  ex : ∃ t, PW X e t ∧ RB X.K t f
structure XL (X : Cx) (es : List Expr) (f : Lf) : Prop where
  ex : ∃ t, PA X es t ∧ RL X.K t f
theorem RE.ro {K : Frg} {t : TE} {f : Ef} (h : RE K t f) : RO K t f := fun G F env s H d env' k e Q q => h G F env s H d env' k e Q fun F' H' v k' s' p => q F' H' v k' s' (.inl p)
theorem XE.xo {X : Cx} {e : Expr} {f : Ef} (h : XE X e f) : XO X e f := let ⟨t, h1, h2⟩ := h.ex; ⟨t, h1, h2.ro⟩
def eFz (f : Lf) : Ef := fun env => (f env).map fun r => (.list r.1, r.2)
theorem RN.re {K : Frg} {t : TE} {f : Lf} (h : RN K t f) : RE K t (eFz f) := fun G F env s H d env' k e Q q => by
  unfold eFz at e
  obtain ⟨⟨ds, e1⟩, e2, e3⟩ := Option.map_eq_some_iff.mp e
  cases e3
  refine h G F env s H ds _ k e2 Q fun F' H' p vs k' s' h1 h2 h3 _ h4 h5 => ?_
  exact q (upd F' p (.lst vs)) H' (.ref p) (k'.freeze h1 h2 h3 h4 (k'.notdctL h1)) (s'.trans (same_upd h2)) (.lst upd_same (Da.mono (same_upd h2) ds vs h5))
theorem XN.xe {X : Cx} {e : Expr} {f : Lf} (h : XN X e f) : XE X e (eFz f) := let ⟨t, h1, h2⟩ := h.ex; ⟨t, h1, h2.re⟩
end M

namespace M
open PySem PySem.Spec PyProof.Rows L2

/-! ### names, constants -/
def eV (i : Nat) : Ef := fun env => match env[i]? with
  | some (.val d) => some (d, env)
  | _ => none
def eO (i : Nat) : Ef := fun env => match env[i]? with
  | some (.val d) => some (d, env)
  | some (.own _ ds) => some (.list ds, env)
  | some (.ro ds) => some (.list ds, env)
  | _ => none
def eC (d : D) : Ef := fun env => some (d, env)
section
variable {X : Cx} {a b c e : Expr} {es : List Expr} {f fa fb fc : Ef} {pos : Pos}
theorem re_var {K : Frg} (i : Nat) : RE K (tVar i) (eV i) := fun G F env s H d env' k e Q q => by
  unfold eV at e
  split at e
  · rename_i d' h
    cases e
    obtain ⟨v, h1, h2⟩ := k.val i _ h
    exact ⟨v, h1, q F H v k (Same.refl F) h2⟩
  · cases e
theorem ro_var {K : Frg} (i : Nat) : RO K (tVar i) (eO i) := fun G F env s H d env' k e Q q => by
  unfold eO at e
  split at e
  · rename_i d' h
    cases e
    obtain ⟨v, h1, h2⟩ := k.val i _ h
    exact ⟨v, h1, q F H v k (Same.refl F) (.inl h2)⟩
  · rename_i l ds h
    cases e
    obtain ⟨p, vs, h1, h2, h3, h4, h5, _⟩ := k.own i l ds h
    exact ⟨_, h1, q F H _ k (Same.refl F) (.inr ⟨p, vs, ds, rfl, rfl, SqL.of h2, h5⟩)⟩
  · rename_i ds h
    cases e
    obtain ⟨p, vs, h1, h2, h3⟩ := k.ro i ds h
    exact ⟨_, h1, q F H _ k (Same.refl F) (.inr ⟨p, vs, ds, rfl, rfl, (k.rin.trans k.pin).seq h2, h3⟩)⟩
  · cases e
theorem xv (i : Nat) {x : Str} {pos : Pos} (hN : X.N[i]? = some x := by rfl) (hv : Vis X.env.scope x := by first | exact Or.inl rfl | exact Or.inr (Or.inl rfl) | exact Or.inr (Or.inr rfl)) (hd : (x == ("__debug__" : Str)) = false := by decide)
    (hcd : (x == ("__classdict__" : Str)) = false := by decide) : XE X (.Name x pos) (eV i) := ⟨_, pe_var hN hv hd hcd, re_var i⟩
theorem xvo (i : Nat) {x : Str} {pos : Pos} (hN : X.N[i]? = some x := by rfl) (hv : Vis X.env.scope x := by first | exact Or.inl rfl | exact Or.inr (Or.inl rfl) | exact Or.inr (Or.inr rfl)) (hd : (x == ("__debug__" : Str)) = false := by decide)
    (hcd : (x == ("__classdict__" : Str)) = false := by decide) : XO X (.Name x pos) (eO i) := ⟨_, pe_var hN hv hd hcd, ro_var i⟩
theorem re_c {K : Frg} {v : V} {d : D} (h : ∀ F, Dt F v d) : RE K (tC v) (eC d) := fun G F env s H d' env' k e Q q => by
  cases e
  exact q F H v k (Same.refl F) (h F)
theorem xe_int {i j pos} : XE X (.Constant (.int i) j pos) (eC (.int i)) := ⟨_, pe_int, re_c fun _ => .int i⟩
theorem xe_bl {b j pos} : XE X (.Constant (.bool b) j pos) (eC (.bool b)) := ⟨_, pe_bl, re_c fun _ => .bl b⟩
theorem xe_str {x j pos} : XE X (.Constant (.str x) j pos) (eC (.str x)) := ⟨_, pe_str, re_c fun _ => .str x⟩
/-- a module's constant that is an int or a text -/
theorem xe_glob {x : Str} {v : V} {d : D} {u : Value} {pos : Pos} (hg : Gl X x) (hm : X.mg x = some u) (r : RelV v u) (h : ∀ F, Dt F v d) (hd : (x == ("__debug__" : Str)) = false := by decide) : XE X (.Name x pos) (eC d) :=
  ⟨_, pe_glob hg hm r hd, re_c h⟩

/-! ### two places -/
def GO (K : Frg) (r : R2) (g : D → D → Option D) : Prop := ∀ G F env s H x y d e z, Ok K G F env s H → Dt F x d → Dt F y e → g d e = some z → ∀ Q : VK, (∀ F' H' v, Ok K G F' env s H' → Same F F' → Dt F' v z → Q v H') → r x y H Q
def GQ (K : Frg) (r : R2) (g : D → D → Option D) : Prop := ∀ G F env s H x y d e z, Ok K G F env s H → Dq K F H x d → Dq K F H y e → g d e = some z → ∀ Q : VK, (∀ F' H' v, Ok K G F' env s H' → Same F F' → Dt F' v z → Q v H') → r x y H Q
theorem GQ.go {K : Frg} {r : R2} {g : D → D → Option D} (h : GQ K r g) : GO K r g := fun G F env s H x y d e z k h1 h2 h3 Q q => h G F env s H x y d e z k (.inl h1) (.inl h2) h3 Q q
def eBin (g : D → D → Option D) (fa fb : Ef) : Ef := fun env => (fa env).bind fun r => (fb r.2).bind fun q => (g r.1 q.1).map fun d => (d, q.2)
theorem bin_some {g : D → D → Option D} {fa fb : Ef} {env env' : En} {d : D} (e : eBin g fa fb env = some (d, env')) : ∃ d1 e1 d2, fa env = some (d1, e1) ∧ fb e1 = some (d2, env') ∧ g d1 d2 = some d := by
  unfold eBin at e
  obtain ⟨⟨d1, e1⟩, h1, e⟩ := Option.bind_eq_some_iff.mp e
  obtain ⟨⟨d2, e2⟩, h2, e⟩ := Option.bind_eq_some_iff.mp e
  obtain ⟨z, h3, e⟩ := Option.map_eq_some_iff.mp e
  cases e
  exact ⟨d1, e1, d2, h1, h2, h3⟩
theorem re_bin {K : Frg} {r : R2} {g : D → D → Option D} {ta tb : TE} (ho : GO K r g) (ha : RE K ta fa) (hb : RE K tb fb) : RE K (tOp r ta tb) (eBin g fa fb) := fun G F env s H d env' k e Q q => by
  obtain ⟨d1, e1, d2, h1, h2, h3⟩ := bin_some e
  refine ha G F env s H d1 e1 k h1 _ fun F1 H1 v1 k1 s1 p1 => ?_
  refine hb G F1 e1 s H1 d2 env' k1 h2 _ fun F2 H2 v2 k2 s2 p2 => ?_
  exact ho G F2 env' s H2 v1 v2 d1 d2 d k2 (Dt.mono s2 d1 v1 p1) p2 h3 Q fun F3 H3 v3 k3 s3 p3 => q F3 H3 v3 k3 ((s1.trans s2).trans s3) p3
theorem Dq.up {K : Frg} {F F' H : Hp} {v : V} {d : D} (e : Same F F') (h : Dq K F H v d) : Dq K F' H v d := by
  rcases h with h | ⟨a, vs, ds, h1, h2, h3, h4⟩
  · exact .inl (Dt.mono e d v h)
  · exact .inr ⟨a, vs, ds, h1, h2, h3, Da.mono e ds vs h4⟩
/-- the first one a name -/
def eBinV (g : D → D → Option D) (i : Nat) (fb : Ef) : Ef := fun env => (eO i env).bind fun _ => (fb env).bind fun q => (eO i q.2).bind fun r => (g r.1 q.1).map fun d => (d, q.2)
theorem dq_slot {K : Frg} {G : Gm} {F : Hp} {env env' : En} {s : L2.St} {H : Hp} {i : Nat} {d : D} (k : Ok K G F env s H) (e : eO i env = some (d, env')) : ∃ v, s[i]? = some (some v) ∧ Dq K F H v d := by
  unfold eO at e
  split at e
  · rename_i d' h
    cases e
    obtain ⟨v, h1, h2⟩ := k.val i _ h
    exact ⟨v, h1, .inl h2⟩
  · rename_i l ds h
    cases e
    obtain ⟨p, vs, h1, h2, h3, h4, h5, _⟩ := k.own i l ds h
    exact ⟨_, h1, .inr ⟨p, vs, ds, rfl, rfl, SqL.of h2, h5⟩⟩
  · rename_i ds h
    cases e
    obtain ⟨p, vs, h1, h2, h3⟩ := k.ro i ds h
    exact ⟨_, h1, .inr ⟨p, vs, ds, rfl, rfl, (k.rin.trans k.pin).seq h2, h3⟩⟩
  · cases e
/-- the first operand a name whose list may be the def's own -/
theorem re_binV {K : Frg} {r : R2} {g : D → D → Option D} {tb : TE} {i : Nat} (ho : GQ K r g) (hb : RE K tb fb) : RE K (tOp r (tVar i) tb) (eBinV g i fb) := fun G F env s H d env' k e Q q => by
  unfold eBinV at e
  obtain ⟨⟨d0, e0⟩, h0, e⟩ := Option.bind_eq_some_iff.mp e
  obtain ⟨⟨d2, e2⟩, h2, e⟩ := Option.bind_eq_some_iff.mp e
  obtain ⟨⟨d1, e1⟩, h1, e⟩ := Option.bind_eq_some_iff.mp e
  obtain ⟨z, h3, e⟩ := Option.map_eq_some_iff.mp e
  cases e
  obtain ⟨v, hv, _⟩ := dq_slot k h0
  refine ⟨v, hv, ?_⟩
  refine hb G F env s H d2 e2 k h2 _ fun F2 H2 v2 k2 s2 p2 => ?_
  obtain ⟨v', hv', hd⟩ := dq_slot k2 h1
  rw [hv] at hv'
  cases hv'
  exact ho G F2 e2 s H2 v v2 d1 d2 d k2 hd (.inl p2) h3 Q fun F3 H3 v3 k3 s3 p3 => q F3 H3 v3 k3 (s2.trans s3) p3
end
end M

namespace M
open PySem PySem.Spec PyProof.Rows L2

/-! ### operators -/
def fits (n : Nat) : Bool := decide (n ≤ 16777216)
theorem fits_line {n : Nat} (h : fits n = true) : n ≤ sizeLine := by rw [sizeLine_eq]; exact of_decide_eq_true h
def gAdd : D → D → Option D
  | .int i, .int j => some (.int (i + j))
  | .str x, .str y => if fits (x.length + y.length) then some (.str (x ++ y)) else none
  | .list xs, .list ys => if fits (xs.length + ys.length) then some (.list (xs ++ ys)) else none
  | .tuple xs, .tuple ys => if fits (xs.length + ys.length) then some (.tuple (xs ++ ys)) else none
  | _, _ => none
def gSub : D → D → Option D
  | .int i, .int j => some (.int (i - j))
  | _, _ => none
/-- a product that the model surely makes -/
def mulOk (i j : Int) : Bool := decide (i.natAbs < 2 ^ 64) || decide (j.natAbs < 2 ^ 64) || (decide (i.natAbs < 10 ^ 250 * 10 ^ 250) && decide (j.natAbs < 10 ^ 250 * 10 ^ 250))
theorem mulOk.ok {i j : Int} (h : mulOk i j = true) : IntMulOk i j := by
  unfold mulOk at h
  simp only [Bool.or_eq_true, Bool.and_eq_true, decide_eq_true_eq] at h
  rcases h with (h | h) | ⟨h1, h2⟩
  · exact CMul.ok (.inl (by omega))
  · exact CMul.ok (.inr (by omega))
  · have h8 : (10 ^ 250 * 10 ^ 250 : Nat) ≤ 2 ^ 1700 := by decide +kernel
    exact CMulW.ok (wide_mul (a := 1700) (b := 1700) (Nat.lt_of_lt_of_le h1 h8) (Nat.lt_of_lt_of_le h2 h8) (by decide) (by decide) (by decide))
def gMul : D → D → Option D
  | .int i, .int j => if mulOk i j then some (.int (i * j)) else none
  | .list xs, .int k => if decide (0 ≤ k) && decide (k < 1000000) && fits (xs.length * k.toNat) then some (.list (List.replicate k.toNat xs).flatten) else none
  | _, _ => none
def divOk (j : Int) : Bool := decide (0 < j) && decide (j < 10 ^ 250 * 10 ^ 250)
def gDiv : D → D → Option D
  | .int i, .int j => if divOk j then some (.int (i / j)) else none
  | _, _ => none
def gMod : D → D → Option D
  | .int i, .int j => if decide (0 < j) then some (.int (i % j)) else none
  | _, _ => none
def gPow : D → D → Option D
  | .int i, .int j => if decide (0 ≤ j) && decide (j ≤ 1000000) && decide (i.natAbs < 2 ^ 64) then some (.int (i ^ j.toNat)) else none
  | _, _ => none
theorem GO.intro {K : Frg} {r : R2} {g : D → D → Option D} (h : ∀ G F env s H x y d e z, Ok K G F env s H → Dt F x d → Dt F y e → g d e = some z → ∀ Q : VK, (∀ F' H' v, Ok K G F' env s H' → Same F F' → Dt F' v z → Q v H') → r x y H Q) : GO K r g := h

def rMulI : R2 := fun x y H Q => ∃ i j, x = .int i ∧ y = .int j ∧ IntMulOk i j ∧ Q (.int (i * j)) H
section
variable {X : Cx}
theorem op_mulI : OpR X (binaryOp .Mult) rMulI := by
  intro pins s σ H x y v u Q I rx ry h
  obtain ⟨i, j, rfl, rfl, hc, q⟩ := h
  obtain ⟨t, rfl⟩ := rx
  obtain ⟨t', rfl⟩ := ry
  exact mul_int ⟨.int (i * j), H, I.tok _, ⟨_, rfl⟩, q⟩ hc
def rAddA (K : Frg) : R2 := fun x y H Q => (rI0 fun i j => .int (i + j)) x y H Q ∨ (∃ i j, x = .str i ∧ y = .str j ∧ i.length + j.length ≤ sizeLine ∧ Q (.str (i ++ j)) H) ∨ rCat x y H Q ∨ rCatA K x y H Q
theorem op_addA : OpR X (binaryOp .Add) (rAddA X.K) := op_add.or (op_add_str.or (op_cat.or op_catA))
theorem go_add {K : Frg} : GO K (rAddA K) gAdd := by
  intro G F env s H x y d e z k h1 h2 h3 Q q
  unfold gAdd at h3
  split at h3
  · cases h1; cases h2; cases h3
    exact .inl ⟨_, _, rfl, rfl, q F H _ k (Same.refl F) (.int _)⟩
  · split at h3
    · rename_i hf
      cases h1; cases h2; cases h3
      exact .inr (.inl ⟨_, _, rfl, rfl, fits_line hf, q F H _ k (Same.refl F) (.str _)⟩)
    · cases h3
  · split at h3
    · rename_i hf
      cases h3
      cases h1 with
      | lst a1 b1 =>
        cases h2 with
        | lst a2 b2 =>
          refine .inr (.inr (.inl ⟨_, _, _, _, rfl, rfl, k.fr _ _ a1, k.fr _ _ a2, by rw [b1.length, b2.length]; exact fits_line hf, fun p hp => ?_⟩))
          exact q _ _ _ (k.alloc hp) (same_upd (k.fr.free hp)) (.lst upd_same (Da.mono (same_upd (k.fr.free hp)) _ _ (b1.append b2)))
    · cases h3
  · split at h3
    · rename_i hf
      cases h3
      cases h1 with
      | tup a1 b1 =>
        cases h2 with
        | tup a2 b2 =>
          refine .inr (.inr (.inr ⟨_, _, _, _, rfl, rfl, SqT.of (k.fr _ _ a1), SqT.of (k.fr _ _ a2), by rw [b1.length, b2.length]; exact fits_line hf, fun e0 => ?_, fun _ e0 => ?_, fun _ _ p hp => ?_⟩))
          · subst e0; cases b1
            exact q F H _ k (Same.refl F) (.tup a2 b2)
          · subst e0; cases b2
            rw [List.append_nil] at *
            exact q F H _ k (Same.refl F) (.tup a1 b1)
          · exact q _ _ _ (k.alloc hp) (same_upd (k.fr.free hp)) (.tup upd_same (Da.mono (same_upd (k.fr.free hp)) _ _ (b1.append b2)))
    · cases h3
  · cases h3
theorem go_sub {K : Frg} : GO K (rI0 fun i j => .int (i - j)) gSub := by
  intro G F env s H x y d e z k h1 h2 h3 Q q
  unfold gSub at h3
  split at h3
  · cases h1; cases h2; cases h3
    exact ⟨_, _, rfl, rfl, q F H _ k (Same.refl F) (.int _)⟩
  · cases h3
def rMulA : R2 := fun x y H Q => rMulI x y H Q ∨ rRep x y H Q
theorem op_mulA : OpR X (binaryOp .Mult) rMulA := op_mulI.or op_rep
theorem Da.rep {F : Hp} {ds : List D} {vs : List V} (h : Da F vs ds) : ∀ n : Nat, Da F (List.replicate n vs).flatten (List.replicate n ds).flatten
  | 0 => .nil
  | n + 1 => by
    rw [List.replicate_succ, List.replicate_succ, List.flatten_cons, List.flatten_cons]
    exact h.append (Da.rep h n)
theorem go_mul {K : Frg} : GO K rMulA gMul := by
  intro G F env s H x y d e z k h1 h2 h3 Q q
  unfold gMul at h3
  split at h3
  · split at h3
    · rename_i hf
      cases h1; cases h2; cases h3
      exact .inl ⟨_, _, rfl, rfl, mulOk.ok hf, q F H _ k (Same.refl F) (.int _)⟩
    · cases h3
  · split at h3
    · rename_i hf
      cases h3
      simp only [Bool.and_eq_true, decide_eq_true_eq] at hf
      cases h2
      cases h1 with
      | lst a1 b1 =>
        refine .inr ⟨_, _, _, rfl, rfl, k.fr _ _ a1, by omega, by omega, by rw [b1.length]; exact fits_line hf.2, fun p hp => ?_⟩
        exact q _ _ _ (k.alloc hp) (same_upd (k.fr.free hp)) (.lst upd_same (Da.mono (same_upd (k.fr.free hp)) _ _ (Da.rep b1 _)))
    · cases h3
  · cases h3
theorem go_div {K : Frg} : GO K (rI CDivW fun i j => .int (i / j)) gDiv := by
  intro G F env s H x y d e z k h1 h2 h3 Q q
  unfold gDiv at h3
  split at h3
  · split at h3
    · rename_i hf
      cases h1; cases h2; cases h3
      unfold divOk at hf
      simp only [Bool.and_eq_true, decide_eq_true_eq] at hf
      refine ⟨_, _, rfl, rfl, wide_div (b := 1700) hf.1 ?_ (by decide) (by decide), q F H _ k (Same.refl F) (.int _)⟩
      have h8 : (10 ^ 250 * 10 ^ 250 : Nat) ≤ 2 ^ 1700 := by decide +kernel
      have h9 := hf.2
      omega
    · cases h3
  · cases h3
theorem go_mod {K : Frg} : GO K (rI (fun _ j => 0 < j) fun i j => .int (i % j)) gMod := by
  intro G F env s H x y d e z k h1 h2 h3 Q q
  unfold gMod at h3
  split at h3
  · split at h3
    · rename_i hf
      cases h1; cases h2; cases h3
      exact ⟨_, _, rfl, rfl, of_decide_eq_true hf, q F H _ k (Same.refl F) (.int _)⟩
    · cases h3
  · cases h3
theorem go_pow {K : Frg} : GO K (rI CPow fun i j => .int (i ^ j.toNat)) gPow := by
  intro G F env s H x y d e z k h1 h2 h3 Q q
  unfold gPow at h3
  split at h3
  · split at h3
    · rename_i hf
      cases h1; cases h2; cases h3
      simp only [Bool.and_eq_true, decide_eq_true_eq] at hf
      exact ⟨_, _, rfl, rfl, ⟨hf.1.1, hf.1.2, hf.2⟩, q F H _ k (Same.refl F) (.int _)⟩
    · cases h3
  · cases h3
variable {a b c e : Expr} {f fa fb fc : Ef} {pos : Pos}
theorem xe_op {op : Operator} {r : R2} {g : D → D → Option D} (ho : OpR X (binaryOp op) r) (hg : GO X.K r g) (ha : XE X a fa) (hb : XE X b fb) : XE X (.BinOp a op b pos) (eBin g fa fb) :=
  let ⟨_, h1, h2⟩ := ha.ex; let ⟨_, h3, h4⟩ := hb.ex; ⟨_, pe_op ho h1 h3, re_bin hg h2 h4⟩
theorem xe_add (ha : XE X a fa) (hb : XE X b fb) : XE X (.BinOp a .Add b pos) (eBin gAdd fa fb) := xe_op op_addA go_add ha hb
theorem xe_sub (ha : XE X a fa) (hb : XE X b fb) : XE X (.BinOp a .Sub b pos) (eBin gSub fa fb) := xe_op op_sub go_sub ha hb
theorem xe_mul (ha : XE X a fa) (hb : XE X b fb) : XE X (.BinOp a .Mult b pos) (eBin gMul fa fb) := xe_op op_mulA go_mul ha hb
theorem xe_div (ha : XE X a fa) (hb : XE X b fb) : XE X (.BinOp a .FloorDiv b pos) (eBin gDiv fa fb) := xe_op op_fdivW go_div ha hb
theorem xe_mod (ha : XE X a fa) (hb : XE X b fb) : XE X (.BinOp a .Mod b pos) (eBin gMod fa fb) := xe_op op_mod go_mod ha hb
theorem xe_pow (ha : XE X a fa) (hb : XE X b fb) : XE X (.BinOp a .Pow b pos) (eBin gPow fa fb) := xe_op op_pow go_pow ha hb
/-! ### one place -/
def GU (K : Frg) (r : V → Hp → VK → Prop) (g : D → Option D) : Prop := ∀ G F env s H x d z, Ok K G F env s H → Dq K F H x d → g d = some z → ∀ Q : VK, (∀ F' H' v, Ok K G F' env s H' → Same F F' → Dt F' v z → Q v H') → r x H Q
def eUn (g : D → Option D) (fa : Ef) : Ef := fun env => (fa env).bind fun r => (g r.1).map fun d => (d, r.2)
theorem un_some {g : D → Option D} {fa : Ef} {env env' : En} {d : D} (e : eUn g fa env = some (d, env')) : ∃ d1, fa env = some (d1, env') ∧ g d1 = some d := by
  unfold eUn at e
  obtain ⟨⟨d1, e1⟩, h1, e⟩ := Option.bind_eq_some_iff.mp e
  obtain ⟨z, h3, e⟩ := Option.map_eq_some_iff.mp e
  cases e
  exact ⟨d1, h1, h3⟩
theorem re_un {K : Frg} {r : V → Hp → VK → Prop} {g : D → Option D} {ta : TE} (ho : GU K r g) (ha : RO K ta fa) : RE K (tUn r ta) (eUn g fa) := fun G F env s H d env' k e Q q => by
  obtain ⟨d1, h1, h3⟩ := un_some e
  refine ha G F env s H d1 env' k h1 _ fun F1 H1 v1 k1 s1 p1 => ?_
  exact ho G F1 env' s H1 v1 d1 d k1 p1 h3 Q fun F3 H3 v3 k3 s3 p3 => q F3 H3 v3 k3 (s1.trans s3) p3
def gNeg : D → Option D
  | .int i => some (.int (-i))
  | _ => none
theorem gu_neg {K : Frg} : GU K (rU fun i => .int (-i)) gNeg := by
  intro G F env s H x d z k h1 h3 Q q
  unfold gNeg at h3
  split at h3
  · cases h3
    exact ⟨_, h1.int, q F H _ k (Same.refl F) (.int _)⟩
  · cases h3
theorem xe_neg (ha : XE X a fa) : XE X (.UnaryOp .USub a pos) (eUn gNeg fa) :=
  let ⟨_, h1, h2⟩ := ha.ex; ⟨_, pe_un un_neg h1, re_un gu_neg h2.ro⟩

/-! ### comparisons -/
def gLt : D → D → Option D
  | .int i, .int j => some (.bool (decide (i < j)))
  | _, _ => none
def gLe : D → D → Option D
  | .int i, .int j => some (.bool (decide (i ≤ j)))
  | _, _ => none
def gGt : D → D → Option D
  | .int i, .int j => some (.bool (decide (j < i)))
  | _, _ => none
def gGe : D → D → Option D
  | .int i, .int j => some (.bool (decide (j ≤ i)))
  | _, _ => none
theorem gq_lt {K : Frg} : GQ K (rI0 fun i j => .bl (decide (i < j))) gLt := by
  intro G F env s H x y d e z k h1 h2 h3 Q q
  unfold gLt at h3
  split at h3
  · cases h3; exact ⟨_, _, h1.int, h2.int, q F H _ k (Same.refl F) (.bl _)⟩
  · cases h3
theorem gq_le {K : Frg} : GQ K (rI0 fun i j => .bl (decide (i ≤ j))) gLe := by
  intro G F env s H x y d e z k h1 h2 h3 Q q
  unfold gLe at h3
  split at h3
  · cases h3; exact ⟨_, _, h1.int, h2.int, q F H _ k (Same.refl F) (.bl _)⟩
  · cases h3
theorem gq_gt {K : Frg} : GQ K (rI0 fun i j => .bl (decide (j < i))) gGt := by
  intro G F env s H x y d e z k h1 h2 h3 Q q
  unfold gGt at h3
  split at h3
  · cases h3; exact ⟨_, _, h1.int, h2.int, q F H _ k (Same.refl F) (.bl _)⟩
  · cases h3
theorem gq_ge {K : Frg} : GQ K (rI0 fun i j => .bl (decide (j ≤ i))) gGe := by
  intro G F env s H x y d e z k h1 h2 h3 Q q
  unfold gGe at h3
  split at h3
  · cases h3; exact ⟨_, _, h1.int, h2.int, q F H _ k (Same.refl F) (.bl _)⟩
  · cases h3
def shp (d : D) : Bool := SeqAt.shaped d
def gEq (d e : D) : Option D := if shp d && shp e then some (.bool (PyData.eqv d e)) else none
def gNe (d e : D) : Option D := if shp d && shp e then some (.bool (!PyData.eqv d e)) else none
theorem gq_eq {K : Frg} : GQ K (rEqD K) gEq := by
  intro G F env s H x y d e z k h1 h2 h3 Q q
  unfold gEq at h3
  split at h3
  · rename_i hf
    cases h3
    rw [Bool.and_eq_true] at hf
    exact ⟨d, e, h1.dp k.fr (nd_sh hf.1), h2.dp k.fr (nd_sh hf.2), hf.1, hf.2, q F H _ k (Same.refl F) (.bl _)⟩
  · cases h3
theorem gq_ne {K : Frg} : GQ K (rNeD K) gNe := by
  intro G F env s H x y d e z k h1 h2 h3 Q q
  unfold gNe at h3
  split at h3
  · rename_i hf
    cases h3
    rw [Bool.and_eq_true] at hf
    exact ⟨d, e, h1.dp k.fr (nd_sh hf.1), h2.dp k.fr (nd_sh hf.2), hf.1, hf.2, q F H _ k (Same.refl F) (.bl _)⟩
  · cases h3
def bV (f : Ef) : Bf := fun env => (f env).bind fun r => match r.1 with
  | .bool b => some (b, r.2)
  | _ => none
theorem bV_some {f : Ef} {env env' : En} {b : Bool} (e : bV f env = some (b, env')) : f env = some (.bool b, env') := by
  unfold bV at e
  obtain ⟨⟨d1, e1⟩, h1, e⟩ := Option.bind_eq_some_iff.mp e
  cases d1 <;> first | (cases e; exact h1) | cases e
theorem rb_test {K : Frg} {t : TE} {f : Ef} (h : RE K t f) : RB K (tTest t) (bV f) := fun G F env s H b env' k e Q q =>
  h G F env s H _ env' k (bV_some e) _ fun F' H' v k' s' p => by cases p; exact ⟨b, rfl, q F' H' k' s'⟩
theorem rb_tB {K : Frg} {t : TE} {f : Ef} (h : RE K t f) : RB K (tB t) (bV f) := fun G F env s H b env' k e Q q =>
  h G F env s H _ env' k (bV_some e) _ fun F' H' v k' s' p => by cases p; exact ⟨b, rfl, q F' H' k' s'⟩
/-- an expression that is True or False, as a test -/
theorem xb_val (h : XE X a fa) (he : ∀ whole, isTrue a X.env whole = (do let v ← whole; standAt a.pos; holding [v] (truthy v)) := by intro _; rfl) : XB X a (bV fa) :=
  let ⟨_, h1, h2⟩ := h.ex; ⟨_, pt_val h1 he, rb_tB h2⟩
section
variable {op : CmpOp} {r : R2} {g : D → D → Option D}
theorem xe_cmp (ho : OpR X (compareOp op) r) (hg : GQ X.K r g) (ha : XE X a fa) (hb : XE X b fb) (hm : behindInMarks op b = false) : XE X (.Compare a [op] [b] pos) (eBin g fa fb) :=
  let ⟨_, h1, h2⟩ := ha.ex; let ⟨_, h3, h4⟩ := hb.ex; ⟨_, pe_cmpR ho h1 h3 hm, re_bin hg.go h2 h4⟩
theorem xb_cmp (ho : OpR X (compareOp op) r) (hg : GQ X.K r g) (ha : XE X a fa) (hb : XE X b fb) (hm : behindInMarks op b = false) : XB X (.Compare a [op] [b] pos) (bV (eBin g fa fb)) :=
  let ⟨_, h1, h2⟩ := ha.ex; let ⟨_, h3, h4⟩ := hb.ex; ⟨_, pt_cmpR ho h1 h3 hm, rb_test (re_bin hg.go h2 h4)⟩
/-- the first operand, a name, may be -/
theorem xb_cmpV {x : Str} {p2 : Pos} (i : Nat) (ho : OpR X (compareOp op) r) (hg : GQ X.K r g) (hb : XE X b fb) (hm : behindInMarks op b = false) (hN : X.N[i]? = some x := by rfl) (hv : Vis X.env.scope x := by first | exact Or.inl rfl | exact Or.inr (Or.inl rfl) | exact Or.inr (Or.inr rfl)) (hd : (x == ("__debug__" : Str)) = false := by decide)
    (hcd : (x == ("__classdict__" : Str)) = false := by decide) : XB X (.Compare (.Name x p2) [op] [b] pos) (bV (eBinV g i fb)) :=
  let ⟨_, h3, h4⟩ := hb.ex; ⟨_, pt_cmpR ho (pe_var hN hv hd hcd) h3 hm, rb_test (re_binV hg h4)⟩
/-- a op b op' c -/
def eChain (g g' : D → D → Option D) (fa fb fc : Ef) : Ef := fun env => (fa env).bind fun r => (fb r.2).bind fun q => (g r.1 q.1).bind fun z => match z with
  | .bool true => (fc q.2).bind fun w => (g' q.1 w.1).map fun d => (d, w.2)
  | .bool false => some (.bool false, q.2)
  | _ => none
theorem re_chain {K : Frg} {r' : R2} {g' : D → D → Option D} {ta tb tc : TE} (ho : GQ K r g) (ho' : GQ K r' g') (ha : RE K ta fa) (hb : RE K tb fb) (hc : RE K tc fc) : RE K (tChain r r' ta tb tc) (eChain g g' fa fb fc) := fun G F env s H d env' k e Q q => by
  unfold eChain at e
  obtain ⟨⟨d1, e1⟩, h1, e⟩ := Option.bind_eq_some_iff.mp e
  obtain ⟨⟨d2, e2⟩, h2, e⟩ := Option.bind_eq_some_iff.mp e
  obtain ⟨z, h3, e⟩ := Option.bind_eq_some_iff.mp e
  refine ha G F env s H d1 e1 k h1 _ fun F1 H1 v1 k1 s1 p1 => ?_
  refine hb G F1 e1 s H1 d2 e2 k1 h2 _ fun F2 H2 v2 k2 s2 p2 => ?_
  refine ho.go G F2 e2 s H2 v1 v2 d1 d2 z k2 (Dt.mono s2 d1 v1 p1) p2 h3 _ fun F3 H3 v3 k3 s3 p3 => ?_
  split at e
  · cases p3
    refine ⟨true, rfl, ?_⟩
    rw [if_pos rfl]
    obtain ⟨⟨d4, e4⟩, h4, e⟩ := Option.bind_eq_some_iff.mp e
    obtain ⟨w, h5, e⟩ := Option.map_eq_some_iff.mp e
    cases e
    refine hc G F3 e2 s H3 d4 e4 k3 h4 _ fun F4 H4 v4 k4 s4 p4 => ?_
    exact ho'.go G F4 e4 s H4 v2 v4 d2 d4 _ k4 (Dt.mono (s3.trans s4) d2 v2 p2) p4 h5 Q fun F5 H5 v5 k5 s5 p5 => q F5 H5 v5 k5 ((((s1.trans s2).trans s3).trans s4).trans s5) p5
  · cases p3
    cases e
    refine ⟨false, rfl, ?_⟩
    rw [if_neg Bool.false_ne_true]
    exact q F3 H3 _ k3 ((s1.trans s2).trans s3) (.bl _)
  · cases e
theorem xb_chain {op' : CmpOp} {r' : R2} {g' : D → D → Option D} (ho : OpR X (compareOp op) r) (hg : GQ X.K r g) (ho' : OpR X (compareOp op') r') (hg' : GQ X.K r' g') (ha : XE X a fa) (hb : XE X b fb) (hc : XE X c fc)
    (hm : lastMarks [op, op'] [b, c] = false := by with_unfolding_all rfl) : XB X (.Compare a [op, op'] [b, c] pos) (bV (eChain g g' fa fb fc)) :=
  let ⟨_, h1, h2⟩ := ha.ex; let ⟨_, h3, h4⟩ := hb.ex; let ⟨_, h5, h6⟩ := hc.ex; ⟨_, pt_chain ho ho' h1 h3 h5 hm, rb_test (re_chain hg hg' h2 h4 h6)⟩
end
/-! in, not in -/
end
end M

namespace M
open PySem PySem.Spec PyProof.Rows L2
section
variable {X : Cx} {a b c e : Expr} {es : List Expr} {f fa fb fc : Ef} {ga gb gc : Bf} {pos : Pos} {K : Frg}

/-! ### and, or, not, if-expressions -/
def bAnd (p q : Bf) : Bf := fun env => (p env).bind fun r => if r.1 then q r.2 else some (false, r.2)
def bOr (p q : Bf) : Bf := fun env => (p env).bind fun r => if r.1 then some (true, r.2) else q r.2
def bNot (p : Bf) : Bf := fun env => (p env).map fun r => (!r.1, r.2)
theorem rb_and {t u : TT} (h1 : RB K t ga) (h2 : RB K u gb) : RB K (tAnd t u) (bAnd ga gb) := fun G F env s H b env' k e Q q => by
  unfold bAnd at e
  obtain ⟨⟨c, e1⟩, h3, e⟩ := Option.bind_eq_some_iff.mp e
  refine h1 G F env s H c e1 k h3 _ fun F1 H1 k1 s1 => ?_
  cases c with
  | true =>
    rw [if_pos rfl] at e ⊢
    exact h2 G F1 e1 s H1 b env' k1 e Q fun F2 H2 k2 s2 => q F2 H2 k2 (s1.trans s2)
  | false =>
    rw [if_neg Bool.false_ne_true] at e ⊢
    cases e
    exact q F1 H1 k1 s1
theorem rb_or {t u : TT} (h1 : RB K t ga) (h2 : RB K u gb) : RB K (tOr t u) (bOr ga gb) := fun G F env s H b env' k e Q q => by
  unfold bOr at e
  obtain ⟨⟨c, e1⟩, h3, e⟩ := Option.bind_eq_some_iff.mp e
  refine h1 G F env s H c e1 k h3 _ fun F1 H1 k1 s1 => ?_
  cases c with
  | false =>
    rw [if_neg Bool.false_ne_true] at e ⊢
    exact h2 G F1 e1 s H1 b env' k1 e Q fun F2 H2 k2 s2 => q F2 H2 k2 (s1.trans s2)
  | true =>
    rw [if_pos rfl] at e ⊢
    cases e
    exact q F1 H1 k1 s1
theorem rb_not {t : TT} (h1 : RB K t ga) : RB K (tNot t) (bNot ga) := fun G F env s H b env' k e Q q => by
  unfold bNot at e
  obtain ⟨⟨c, e1⟩, h3, e⟩ := Option.map_eq_some_iff.mp e
  cases e
  exact h1 G F env s H c e1 k h3 _ fun F1 H1 k1 s1 => q F1 H1 k1 s1
theorem xw_and1 (ha : XB X a ga) : XW X (.BoolOp .And [a] pos) ga := let ⟨_, h1, h2⟩ := ha.ex; ⟨_, pw_and1 h1, h2⟩
theorem xw_or1 (ha : XB X a ga) : XW X (.BoolOp .Or [a] pos) ga := let ⟨_, h1, h2⟩ := ha.ex; ⟨_, pw_or1 h1, h2⟩
theorem xw_and {rest : List Expr} (ha : XB X a ga) (hb : XW X (.BoolOp .And (b :: rest) pos) gb) : XW X (.BoolOp .And (a :: b :: rest) pos) (bAnd ga gb) :=
  let ⟨_, h1, h2⟩ := ha.ex; let ⟨_, h3, h4⟩ := hb.ex; ⟨_, pw_and h1 h3, rb_and h2 h4⟩
theorem xw_or {rest : List Expr} (ha : XB X a ga) (hb : XW X (.BoolOp .Or (b :: rest) pos) gb) : XW X (.BoolOp .Or (a :: b :: rest) pos) (bOr ga gb) :=
  let ⟨_, h1, h2⟩ := ha.ex; let ⟨_, h3, h4⟩ := hb.ex; ⟨_, pw_or h1 h3, rb_or h2 h4⟩
theorem xb_w (h : XW X a ga) : XB X a ga := let ⟨_, h1, h2⟩ := h.ex; ⟨_, h1.pt, h2⟩
theorem xb_not (ha : XB X a ga) : XB X (.UnaryOp .Not a pos) (bNot ga) := let ⟨_, h1, h2⟩ := ha.ex; ⟨_, pt_not h1, rb_not h2⟩
def eAnd (fa fb : Ef) : Ef := fun env => (fa env).bind fun r => match r.1 with
  | .bool true => fb r.2
  | .bool false => some (.bool false, r.2)
  | _ => none
def eOr (fa fb : Ef) : Ef := fun env => (fa env).bind fun r => match r.1 with
  | .bool false => fb r.2
  | .bool true => some (.bool true, r.2)
  | _ => none
def eNot (fa : Ef) : Ef := fun env => (fa env).bind fun r => match r.1 with
  | .bool b => some (.bool !b, r.2)
  | _ => none
theorem re_and {ta tb : TE} (h1 : RE K ta fa) (h2 : RE K tb fb) : RE K (tAndV ta tb) (eAnd fa fb) := fun G F env s H d env' k e Q q => by
  unfold eAnd at e
  obtain ⟨⟨c, e1⟩, h3, e⟩ := Option.bind_eq_some_iff.mp e
  refine h1 G F env s H c e1 k h3 _ fun F1 H1 v k1 s1 p1 => ?_
  cases p1 with
  | bl b =>
    refine ⟨b, rfl, ?_⟩
    cases b with
    | true =>
      rw [if_pos rfl]
      exact h2 G F1 e1 s H1 d env' k1 e Q fun F2 H2 v2 k2 s2 p2 => q F2 H2 v2 k2 (s1.trans s2) p2
    | false =>
      rw [if_neg Bool.false_ne_true]
      cases e
      exact q F1 H1 _ k1 s1 (.bl _)
  | _ => cases e
theorem re_not {ta : TE} (h1 : RE K ta fa) : RE K (tNotV ta) (eNot fa) := fun G F env s H d env' k e Q q => by
  unfold eNot at e
  obtain ⟨⟨c, e1⟩, h3, e⟩ := Option.bind_eq_some_iff.mp e
  refine h1 G F env s H c e1 k h3 _ fun F1 H1 v k1 s1 p1 => ?_
  cases p1 with
  | bl b =>
    cases e
    exact ⟨b, rfl, q F1 H1 _ k1 s1 (.bl _)⟩
  | _ => cases e
theorem xe_one {op} (h : XE X a fa) : XE X (.BoolOp op [a] pos) fa := let ⟨_, h1, h2⟩ := h.ex; ⟨_, pe_one h1, h2⟩
theorem xe_and {rest : List Expr} (ha : XE X a fa) (hb : XE X (.BoolOp .And (b :: rest) pos) fb) : XE X (.BoolOp .And (a :: b :: rest) pos) (eAnd fa fb) :=
  let ⟨_, h1, h2⟩ := ha.ex; let ⟨_, h3, h4⟩ := hb.ex; ⟨_, pe_and h1 h3, re_and h2 h4⟩
theorem xe_not (ha : XE X a fa) : XE X (.UnaryOp .Not a pos) (eNot fa) := let ⟨_, h1, h2⟩ := ha.ex; ⟨_, pe_not h1, re_not h2⟩
def eIf (p : Bf) (fa fb : Ef) : Ef := fun env => (p env).bind fun r => if r.1 then fa r.2 else fb r.2
/-! ### argument lists, displays -/
def lNil : Lf := fun env => some ([], env)
def lCons (f : Ef) (g : Lf) : Lf := fun env => (f env).bind fun r => (g r.2).map fun q => (r.1 :: q.1, q.2)
theorem lCons_some {f : Ef} {g : Lf} {env env' : En} {ds : List D} (e : lCons f g env = some (ds, env')) : ∃ d e1 r, f env = some (d, e1) ∧ g e1 = some (r, env') ∧ ds = d :: r := by
  unfold lCons at e
  obtain ⟨⟨d, e1⟩, h1, e⟩ := Option.bind_eq_some_iff.mp e
  obtain ⟨⟨r, e2⟩, h2, e⟩ := Option.map_eq_some_iff.mp e
  cases e
  exact ⟨d, e1, r, h1, h2, rfl⟩
theorem xl_nil : XL X [] lNil := ⟨_, pa_nil, fun G F env s H d env' k e Q q => by cases e; exact q F H [] k (Same.refl F) .nil⟩
theorem xl_cons {g : Lf} (ha : XE X e f) (hr : XL X es g) (hs : starEach (e :: es) X.env = (false, eval e X.env) :: starEach es X.env := by rfl) : XL X (e :: es) (lCons f g) := by
  obtain ⟨ta, h1, h2⟩ := ha.ex
  obtain ⟨tr, h3, h4⟩ := hr.ex
  refine ⟨_, pa_cons h1 h3 hs, fun G F env s H d env' k e Q q => ?_⟩
  obtain ⟨d1, e1, r, h5, h6, rfl⟩ := lCons_some e
  refine h2 G F env s H d1 e1 k h5 _ fun F1 H1 v k1 s1 p1 => ?_
  refine h4 G F1 e1 s H1 r env' k1 h6 _ fun F2 H2 vs k2 s2 p2 => ?_
  exact q F2 H2 _ k2 (s1.trans s2) (.cons (Dt.mono s2 d1 v p1) p2)
def eTup (g : Lf) : Ef := fun env => (g env).bind fun r => if fits r.1.length then some (.tuple r.1, r.2) else none
theorem xe_tup {x1} {g : Lf} (h : XL X es g) : XE X (.Tuple es x1 pos) (eTup g) := by
  obtain ⟨t, h1, h2⟩ := h.ex
  refine ⟨_, pe_tup h1, fun G F env s H d env' k e Q q => ?_⟩
  unfold eTup at e
  obtain ⟨⟨ds, e1⟩, h3, e⟩ := Option.bind_eq_some_iff.mp e
  split at e
  · rename_i hf
    cases e
    refine h2 G F env s H ds _ k h3 _ fun F1 H1 vs k1 s1 p1 => ⟨by rw [p1.length]; exact fits_line hf, fun p hp => ?_⟩
    exact q _ _ _ (k1.alloc hp) (s1.trans (same_upd (k1.fr.free hp))) (.tup upd_same (Da.mono (same_upd (k1.fr.free hp)) _ _ p1))
  · cases e
def lLst (g : Lf) : Lf := fun env => (g env).bind fun r => if fits r.1.length then some (r.1, r.2) else none
theorem xn_lst {g : Lf} (h : XL X es g) : XN X (.List es pos) (lLst g) := by
  obtain ⟨t, h1, h2⟩ := h.ex
  refine ⟨_, pe_lst h1, fun G F env s H d env' k e Q q => ?_⟩
  unfold lLst at e
  obtain ⟨⟨ds, e1⟩, h3, e⟩ := Option.bind_eq_some_iff.mp e
  split at e
  · rename_i hf
    cases e
    refine h2 G F env s H ds _ k h3 _ fun F1 H1 vs k1 s1 p1 => ⟨by rw [p1.length]; exact fits_line hf, fun p hp => ?_⟩
    exact q F1 _ p vs (k1.laid hp) s1 upd_same (k1.fr.free hp) (k1.dom p hp) (k1.pin.free hp) (k1.notown hp) p1
  · cases e
/-! ### subscripts -/
def gIdx : D → D → Option D
  | .list ds, .int i => atI ds i
  | .tuple ds, .int i => atI ds i
  | .str x, .int i => if fits x.length then (atI x.cps.toList i).map fun c => .str ⟨#[c]⟩ else none
  | _, _ => none
theorem Da.at_ {F : Hp} {ds : List D} {vs : List V} {i : Int} {d : D} (h : Da F vs ds) (e : atI ds i = some d) : ∃ v, atI vs i = some v ∧ Dt F v d := by
  unfold atI at e ⊢
  rw [h.length]
  cases hx : ixN ds.length i with
  | none => rw [hx] at e; cases e
  | some j =>
    rw [hx] at e
    obtain ⟨v, h1, h2⟩ := h.get (show ds[j]? = some d from e)
    exact ⟨v, h1, h2⟩
theorem gq_idx : GQ K (rIx K) gIdx := by
  intro G F env s H x y d e z k h1 h2 h3 Q q
  unfold gIdx at h3
  split at h3
  · obtain ⟨p, vs, rfl, h4, h5⟩ := h1.list k.fr
    obtain ⟨v, h6, h7⟩ := h5.at_ h3
    exact .inl ⟨p, vs, _, v, rfl, h2.int, h4, h6, q F H v k (Same.refl F) h7⟩
  · obtain ⟨p, vs, rfl, h4, _, h5⟩ := h1.tup k.fr
    obtain ⟨v, h6, h7⟩ := h5.at_ h3
    exact .inr (.inl ⟨p, vs, _, v, rfl, h2.int, SqT.of h4, h6, q F H v k (Same.refl F) h7⟩)
  · split at h3
    · rename_i hf
      obtain ⟨c, h4, h5⟩ := Option.map_eq_some_iff.mp h3
      cases h5
      exact .inr (.inr ⟨_, _, c, h1.str, h2.int, fits_line hf, h4, q F H _ k (Same.refl F) (.str _)⟩)
    · cases h3
  · cases h3
theorem xe_idx (ha : XE X a fa) (hb : XE X b fb) (hs : PlainIx b := by intro _ _; rfl) : XE X (.Subscript a b pos) (eBin gIdx fa fb) :=
  let ⟨_, h1, h2⟩ := ha.ex; let ⟨_, h3, h4⟩ := hb.ex; ⟨_, pe_ix ix_seq h1 h3 hs, re_bin gq_idx.go h2 h4⟩
theorem xe_idxV {x : Str} {p2 : Pos} (i : Nat) (hb : XE X b fb) (hN : X.N[i]? = some x := by rfl) (hv : Vis X.env.scope x := by first | exact Or.inl rfl | exact Or.inr (Or.inl rfl) | exact Or.inr (Or.inr rfl)) (hd : (x == ("__debug__" : Str)) = false := by decide)
    (hcd : (x == ("__classdict__" : Str)) = false := by decide) (hs : PlainIx b := by intro _ _; rfl) : XE X (.Subscript (.Name x p2) b pos) (eBinV gIdx i fb) :=
  let ⟨_, h3, h4⟩ := hb.ex; ⟨_, pe_ix ix_seq (pe_var hN hv hd hcd) h3 hs, re_binV gq_idx h4⟩

/-! ### slices -/
abbrev Pf := En → Option (Option Int × En)
def RP (K : Frg) (t : TO) (f : Pf) : Prop := ∀ G F env s H o env', Ok K G F env s H → f env = some (o, env') → ∀ Q : Option Int → Hp → Prop, (∀ F' H', Ok K G F' env' s H' → Same F F' → Q o H') → t s H Q
structure XP (X : Cx) (e : Option Expr) (f : Pf) : Prop where
  ex : ∃ t, PO X e t ∧ RP X.K t f
def pNo : Pf := fun env => some (none, env)
def pE (f : Ef) : Pf := fun env => (f env).bind fun r => match r.1 with
  | .int i => some (some i, r.2)
  | _ => none
theorem xp_none : XP X none pNo := ⟨_, po_none, fun G F env s H d env' k e Q q => by cases e; exact q F H k (Same.refl F)⟩
theorem xp_some (h : XE X a fa) : XP X (some a) (pE fa) := by
  obtain ⟨t, h1, h2⟩ := h.ex
  refine ⟨_, po_some h1, fun G F env s H d env' k e Q q => ?_⟩
  unfold pE at e
  obtain ⟨⟨c, e1⟩, h3, e⟩ := Option.bind_eq_some_iff.mp e
  refine h2 G F env s H c e1 k h3 _ fun F1 H1 v k1 s1 p1 => ?_
  cases p1 with
  | int i => cases e; exact ⟨i, rfl, q F1 H1 k1 s1⟩
  | _ => cases e
def cutD (xs : List D) (lo hi : Option Int) : List D := (xs.drop (HT.sIx xs.length 0 lo)).take (HT.sIx xs.length xs.length hi - HT.sIx xs.length 0 lo)
theorem Da.cut {F : Hp} {ds : List D} {vs : List V} (h : Da F vs ds) (lo hi : Option Int) : Da F (cutV vs lo hi) (cutD ds lo hi) := by
  unfold cutV cutD
  rw [h.length]
  exact (h.drop _).take _
def eSl (fa : Ef) (l h : Pf) : Ef := fun env => (fa env).bind fun r => (l r.2).bind fun q => (h q.2).bind fun w => match r.1 with
  | .list ds => some (.list (cutD ds q.1 w.1), w.2)
  | .tuple ds => some (.tuple (cutD ds q.1 w.1), w.2)
  | .str x => if fits x.length then some (.str (cutS x q.1 w.1), w.2) else none
  | _ => none
theorem cutD_whole {ds : List D} {vs : List V} {F : Hp} {lo hi : Option Int} (h : Da F vs ds) (w : HT.sIx vs.length 0 lo = 0 ∧ HT.sIx vs.length vs.length hi = vs.length) : cutD ds lo hi = ds := by
  unfold cutD
  rw [← h.length, w.1, w.2, List.drop_zero, Nat.sub_zero, h.length, List.take_length]
theorem sl_any : SlR X (fun x lo hi H Q => rSlL X.K x lo hi H Q ∨ rSlA X.K x lo hi H Q ∨ rSlS x lo hi H Q) := sl_list.or (sl_tupA.or sl_str)
theorem re_slice {lo hi : Option Expr} {pl ph : Pf} {t : TE} {tl th : TO} (h2 : RE K t fa) (h4 : RP K tl pl) (h6 : RP K th ph) :
    RE K (tSl (fun x lo hi H Q => rSlL K x lo hi H Q ∨ rSlA K x lo hi H Q ∨ rSlS x lo hi H Q) t tl th) (eSl fa pl ph) := fun G F env s H d env' k e Q q => by
  unfold eSl at e
  obtain ⟨⟨c, e1⟩, h7, e⟩ := Option.bind_eq_some_iff.mp e
  obtain ⟨⟨l, e2⟩, h8, e⟩ := Option.bind_eq_some_iff.mp e
  obtain ⟨⟨u, e3⟩, h9, e⟩ := Option.bind_eq_some_iff.mp e
  refine h2 G F env s H c e1 k h7 _ fun F1 H1 v k1 s1 p1 => ?_
  refine h4 G F1 e1 s H1 l e2 k1 h8 _ fun F2 H2 k2 s2 => ?_
  refine h6 G F2 e2 s H2 u e3 k2 h9 _ fun F3 H3 k3 s3 => ?_
  have p3 := Dt.mono (s2.trans s3) c v p1
  have ss := (s1.trans s2).trans s3
  cases p3 with
  | lst a1 b1 =>
    cases e
    refine .inl ⟨_, _, rfl, SqL.of (k3.fr _ _ a1), fun p hp => ?_⟩
    exact q _ _ _ (k3.alloc hp) (ss.trans (same_upd (k3.fr.free hp))) (.lst upd_same (Da.mono (same_upd (k3.fr.free hp)) _ _ (b1.cut l u)))
  | tup a1 b1 =>
    cases e
    refine .inr (.inl ⟨_, _, rfl, SqT.of (k3.fr _ _ a1), fun w => ?_, fun w p hp => ?_⟩)
    · rw [cutD_whole b1 w] at q
      exact q F3 H3 _ k3 ss (.tup a1 b1)
    · exact q _ _ _ (k3.alloc hp) (ss.trans (same_upd (k3.fr.free hp))) (.tup upd_same (Da.mono (same_upd (k3.fr.free hp)) _ _ (b1.cut l u)))
  | str x =>
    dsimp only at e
    split at e
    · rename_i hf
      cases e
      exact .inr (.inr ⟨_, rfl, fits_line hf, q F3 H3 _ k3 ss (.str _)⟩)
    · cases e
  | _ => cases e
theorem xe_slice {p2 : Pos} {lo hi : Option Expr} {pl ph : Pf} (ha : XE X a fa) (hl : XP X lo pl) (hh : XP X hi ph) : XE X (.Subscript a (.Slice lo hi none p2) pos) (eSl fa pl ph) :=
  let ⟨_, h1, h2⟩ := ha.ex; let ⟨_, h3, h4⟩ := hl.ex; let ⟨_, h5, h6⟩ := hh.ex; ⟨_, pe_slice sl_any h1 h3 h5, re_slice (lo := lo) (hi := hi) h2 h4 h6⟩
/-- a slice of a list that is read only, or the def's own, by its name -/
def lSlV (i : Nat) (l h : Pf) : Lf := fun env => (eO i env).bind fun _ => (l env).bind fun q => (h q.2).bind fun w => (eO i w.2).bind fun r => match r.1 with
  | .list ds => some (cutD ds q.1 w.1, w.2)
  | _ => none
theorem xn_sliceV {x : Str} {p2 p3 : Pos} {lo hi : Option Expr} {pl ph : Pf} (i : Nat) (hl : XP X lo pl) (hh : XP X hi ph) (hN : X.N[i]? = some x := by rfl) (hv : Vis X.env.scope x := by first | exact Or.inl rfl | exact Or.inr (Or.inl rfl) | exact Or.inr (Or.inr rfl))
    (hd : (x == ("__debug__" : Str)) = false := by decide) (hcd : (x == ("__classdict__" : Str)) = false := by decide) : XN X (.Subscript (.Name x p3) (.Slice lo hi none p2) pos) (lSlV i pl ph) := by
  obtain ⟨tl, h3, h4⟩ := hl.ex
  obtain ⟨th, h5, h6⟩ := hh.ex
  refine ⟨_, pe_slice sl_list (pe_var hN hv hd hcd) h3 h5, fun G F env s H d env' k e Q q => ?_⟩
  unfold lSlV at e
  obtain ⟨⟨c0, e0⟩, h0, e⟩ := Option.bind_eq_some_iff.mp e
  obtain ⟨⟨l, e2⟩, h8, e⟩ := Option.bind_eq_some_iff.mp e
  obtain ⟨⟨u, e3⟩, h9, e⟩ := Option.bind_eq_some_iff.mp e
  obtain ⟨⟨c, e4⟩, h7, e⟩ := Option.bind_eq_some_iff.mp e
  obtain ⟨v, hv0, _⟩ := dq_slot k h0
  refine ⟨v, hv0, ?_⟩
  refine h4 G F env s H l e2 k h8 _ fun F2 H2 k2 s2 => ?_
  refine h6 G F2 e2 s H2 u e3 k2 h9 _ fun F3 H3 k3 s3 => ?_
  obtain ⟨v', hv', hq⟩ := dq_slot k3 h7
  rw [hv0] at hv'
  cases hv'
  dsimp only at e
  split at e
  · rename_i ds
    cases e
    obtain ⟨p, vs, rfl, h10, h11⟩ := hq.list k3.fr
    refine ⟨p, vs, rfl, h10, fun p' hp => ?_⟩
    exact q F3 _ p' _ (k3.laid hp) (s2.trans s3) upd_same (k3.fr.free hp) (k3.dom p' hp) (k3.pin.free hp) (k3.notown hp) (h11.cut l u)
  · cases e
end
end M

namespace M
open PySem PySem.Spec PyProof.Rows L2

/-! ### arguments of a def: values, or the caller's own lists by their slots (i: to be changed, or read only) -/
inductive Ar where
  | v (d : D) | r (i : Nat) | o (i : Nat)
abbrev Af := En → Option (List Ar × En)
inductive ArOk (F : Hp) (s : L2.St) : Ar → V → Prop
  | v {d : D} {v : V} (h : Dt F v d) : ArOk F s (.v d) v
  | r {i : Nat} {v : V} (h : s[i]? = some (some v)) : ArOk F s (.r i) v
  | o {i : Nat} {v : V} (h : s[i]? = some (some v)) : ArOk F s (.o i) v
inductive ArsOk (F : Hp) (s : L2.St) : List Ar → List V → Prop
  | nil : ArsOk F s [] []
  | cons {a : Ar} {as : List Ar} {v : V} {vs : List V} (h : ArOk F s a v) (t : ArsOk F s as vs) : ArsOk F s (a :: as) (v :: vs)
theorem ArOk.mono {F F' : Hp} {s : L2.St} {a : Ar} {v : V} (e : Same F F') (h : ArOk F s a v) : ArOk F' s a v := by
  cases h with
  | v h => exact .v (Dt.mono e _ _ h)
  | r h => exact .r h
  | o h => exact .o h
theorem ArsOk.length {F : Hp} {s : L2.St} : ∀ {as : List Ar} {vs : List V}, ArsOk F s as vs → vs.length = as.length
  | [], _, h => by cases h; rfl
  | a :: as, _, h => by cases h with | cons h t => simp [ArsOk.length t]
theorem ArsOk.get {F : Hp} {s : L2.St} : ∀ {as : List Ar} {vs : List V} {j : Nat} {a : Ar}, ArsOk F s as vs → as[j]? = some a → ∃ v, vs[j]? = some v ∧ ArOk F s a v
  | [], _, _, _, _, e => by simp at e
  | a :: as, _, 0, _, h, e => by cases h with | cons h t => simp at e; subst e; exact ⟨_, rfl, h⟩
  | a :: as, _, j + 1, _, h, e => by
    cases h with
    | cons h t =>
      obtain ⟨v, h1, h2⟩ := ArsOk.get (j := j) t (by simpa using e)
      exact ⟨v, by simpa using h1, h2⟩
def RA (K : Frg) (t : TA) (f : Af) : Prop := ∀ G F env s H as env', Ok K G F env s H → f env = some (as, env') → ∀ Q : List V → Hp → Prop, (∀ F' H' vs, Ok K G F' env' s H' → Same F F' → ArsOk F' s as vs → Q vs H') → t s H Q
structure XA (X : Cx) (es : List Expr) (f : Af) : Prop where
  ex : ∃ t, PA X es t ∧ RA X.K t f
def aNil : Af := fun env => some ([], env)
def aV (f : Ef) (g : Af) : Af := fun env => (f env).bind fun r => (g r.2).map fun q => (.v r.1 :: q.1, q.2)
def aR (i : Nat) (g : Af) : Af := fun env => (eO i env).bind fun _ => (g env).map fun q => (.r i :: q.1, q.2)
def aO (i : Nat) (g : Af) : Af := fun env => (eO i env).bind fun _ => (g env).map fun q => (.o i :: q.1, q.2)
section
variable {X : Cx} {e : Expr} {es : List Expr} {f : Ef} {g : Af} {pos : Pos}
theorem xa_nil : XA X [] aNil := ⟨_, pa_nil, fun G F env s H d env' k e Q q => by cases e; exact q F H [] k (Same.refl F) .nil⟩
theorem xa_v (ha : XE X e f) (hr : XA X es g) (hs : starEach (e :: es) X.env = (false, eval e X.env) :: starEach es X.env := by rfl) : XA X (e :: es) (aV f g) := by
  obtain ⟨ta, h1, h2⟩ := ha.ex
  obtain ⟨tr, h3, h4⟩ := hr.ex
  refine ⟨_, pa_cons h1 h3 hs, fun G F env s H as env' k e Q q => ?_⟩
  unfold aV at e
  obtain ⟨⟨d1, e1⟩, h5, e⟩ := Option.bind_eq_some_iff.mp e
  obtain ⟨⟨r, e2⟩, h6, e⟩ := Option.map_eq_some_iff.mp e
  cases e
  refine h2 G F env s H d1 e1 k h5 _ fun F1 H1 v k1 s1 p1 => ?_
  refine h4 G F1 e1 s H1 r _ k1 h6 _ fun F2 H2 vs k2 s2 p2 => ?_
  exact q F2 H2 _ k2 (s1.trans s2) (.cons (.v (Dt.mono s2 d1 v p1)) p2)
theorem xa_r (i : Nat) {x : Str} (hr : XA X es g) (hN : X.N[i]? = some x := by rfl) (hv : Vis X.env.scope x := by first | exact Or.inl rfl | exact Or.inr (Or.inl rfl) | exact Or.inr (Or.inr rfl)) (hd : (x == ("__debug__" : Str)) = false := by decide)
    (hcd : (x == ("__classdict__" : Str)) = false := by decide) (hs : starEach (.Name x pos :: es) X.env = (false, eval (.Name x pos) X.env) :: starEach es X.env := by rfl) : XA X (.Name x pos :: es) (aR i g) := by
  obtain ⟨tr, h3, h4⟩ := hr.ex
  refine ⟨_, pa_cons (pe_var hN hv hd hcd) h3 hs, fun G F env s H as env' k e Q q => ?_⟩
  unfold aR at e
  obtain ⟨⟨d1, e1⟩, h5, e⟩ := Option.bind_eq_some_iff.mp e
  obtain ⟨⟨r, e2⟩, h6, e⟩ := Option.map_eq_some_iff.mp e
  cases e
  obtain ⟨v, h7, _⟩ := dq_slot k h5
  refine ⟨v, h7, ?_⟩
  exact h4 G F env s H r _ k h6 _ fun F2 H2 vs k2 s2 p2 => q F2 H2 _ k2 s2 (.cons (.r h7) p2)
theorem xa_o (i : Nat) {x : Str} (hr : XA X es g) (hN : X.N[i]? = some x := by rfl) (hv : Vis X.env.scope x := by first | exact Or.inl rfl | exact Or.inr (Or.inl rfl) | exact Or.inr (Or.inr rfl)) (hd : (x == ("__debug__" : Str)) = false := by decide)
    (hcd : (x == ("__classdict__" : Str)) = false := by decide) (hs : starEach (.Name x pos :: es) X.env = (false, eval (.Name x pos) X.env) :: starEach es X.env := by rfl) : XA X (.Name x pos :: es) (aO i g) := by
  obtain ⟨tr, h3, h4⟩ := hr.ex
  refine ⟨_, pa_cons (pe_var hN hv hd hcd) h3 hs, fun G F env s H as env' k e Q q => ?_⟩
  unfold aO at e
  obtain ⟨⟨d1, e1⟩, h5, e⟩ := Option.bind_eq_some_iff.mp e
  obtain ⟨⟨r, e2⟩, h6, e⟩ := Option.map_eq_some_iff.mp e
  cases e
  obtain ⟨v, h7, _⟩ := dq_slot k h5
  refine ⟨v, h7, ?_⟩
  exact h4 G F env s H r _ k h6 _ fun F2 H2 vs k2 s2 p2 => q F2 H2 _ k2 s2 (.cons (.o h7) p2)
end

/-! ### what a def does: arguments in, a value and the lists handed in to be changed out -/
abbrev Gf := List Sl → Option (D × List Sl)
open Classical in
/-- the heap without the lists handed in to be changed -/
noncomputable def minus (H : Hp) (args : List Sl) (vs : List V) : Hp := fun a => if (∃ (j : Nat) (l : Bool) (es : List D), args[j]? = some (.own l es) ∧ vs[j]? = some (.ref a)) then none else H a
theorem minus_some {H : Hp} {args : List Sl} {vs : List V} {a : Addr} {o : HO} (h : H a = some o) (n : ∀ (j : Nat) l es, args[j]? = some (.own l es) → vs[j]? ≠ some (.ref a)) : minus H args vs a = some o := by
  unfold minus
  rw [if_neg fun ⟨j, l, es, h1, h2⟩ => n j l es h1 h2]
  exact h
theorem minus_of {H : Hp} {args : List Sl} {vs : List V} {a : Addr} {o : HO} (h : minus H args vs a = some o) : H a = some o ∧ ∀ (j : Nat) l es, args[j]? = some (.own l es) → vs[j]? ≠ some (.ref a) := by
  unfold minus at h
  split at h
  · cases h
  · rename_i n
    exact ⟨h, fun j l es h1 h2 => n ⟨j, l, es, h1, h2⟩⟩
structure ArgsOk (K : Frg) (F H : Hp) (args : List Sl) (vs : List V) : Prop where
  len : vs.length = args.length
  val : ∀ (i : Nat) d, args[i]? = some (.val d) → ∃ v, vs[i]? = some v ∧ Dt F v d
  own : ∀ (i : Nat) l ds, args[i]? = some (.own l ds) → l = false ∧ ∃ a us, vs[i]? = some (.ref a) ∧ H a = some (.lst us) ∧ F a = none ∧ Da F us ds
  ro : ∀ (i : Nat) ds, args[i]? = some (.ro ds) → ∃ a us, vs[i]? = some (.ref a) ∧ SqL K (minus H args vs) a us ∧ Da F us ds
  sep : ∀ (i j : Nat) l ds m es, args[i]? = some (.own l ds) → args[j]? = some (.own m es) → vs[i]? = vs[j]? → i = j
  dct : ∀ (i : Nat) w kvs, args[i]? ≠ some (.dct w kvs)
structure Post (F H F' H' : Hp) (args args' : List Sl) (vs : List V) (v : V) (d : D) : Prop where
  keep : Same (minus H args vs) H'
  dom : ∀ a, H' a = none → H a = none
  grow : Same F F'
  fr : Same F' H'
  new : ∀ a o, F' a = some o → F a = some o ∨ H a = none
  res : Dt F' v d
  own : ∀ (i : Nat) l ds, args[i]? = some (.own l ds) → ∀ ds', args'[i]? = some (.own false ds') → ∀ a, vs[i]? = some (.ref a) → ∃ us, H' a = some (.lst us) ∧ F' a = none ∧ Da F' us ds'
def spF (K : Frg) (g : Gf) : Sp := fun vs H Q _ => ∃ F args d args', g args = some (d, args') ∧ Same F H ∧ ArgsOk K F H args vs ∧ ∀ F' H' v, Post F H F' H' args args' vs v d → Q v H'

def resAr (env : En) : Ar → Option Sl
  | .v d => some (.val d)
  | .r i => match env[i]? with
    | some (.own _ ds) => some (.own false ds)
    | _ => none
  | .o i => match env[i]? with
    | some (.own _ ds) => some (.ro ds)
    | some (.ro ds) => some (.ro ds)
    | some (.val (.list ds)) => some (.ro ds)
    | _ => none
def resArs (env : En) : List Ar → Option (List Sl)
  | [] => some []
  | a :: as => (resAr env a).bind fun x => (resArs env as).map fun r => x :: r
/-- at most one slot is handed in to be changed, and it isn't handed in to be read besides -/
def rSlots : List Ar → List Nat
  | [] => []
  | .r i :: as => i :: rSlots as
  | .v _ :: as => rSlots as
  | .o _ :: as => rSlots as
def oSlots : List Ar → List Nat
  | [] => []
  | .o i :: as => i :: oSlots as
  | .v _ :: as => oSlots as
  | .r _ :: as => oSlots as
def backAr (env : En) : List Ar → List Sl → Option En
  | [], _ => some env
  | .r i :: as, x :: xs => match x, env[i]? with
    | .own false ds, some (.own l _) => backAr (env.set i (.own l ds)) as xs
    | _, _ => none
  | _ :: as, _ :: xs => backAr env as xs
  | _ :: _, [] => none
def eCall (g : Gf) (fa : Af) : Ef := fun env => (fa env).bind fun r =>
  match rSlots r.1 with
  | [] => (resArs r.2 r.1).bind fun args => (g args).map fun q => (q.1, r.2)
  | [i] => if (oSlots r.1).contains i then none else (resArs r.2 r.1).bind fun args => (g args).bind fun q => (backAr r.2 r.1 q.2).map fun env' => (q.1, env')
  | _ => none
theorem resArs_get {env : En} : ∀ {as : List Ar} {xs : List Sl} {j : Nat} {x : Sl}, resArs env as = some xs → xs[j]? = some x → ∃ a, as[j]? = some a ∧ resAr env a = some x
  | [], xs, j, x, h, e => by cases h; simp at e
  | a :: as, xs, j, x, h, e => by
    unfold resArs at h
    obtain ⟨y, h1, h⟩ := Option.bind_eq_some_iff.mp h
    obtain ⟨r, h2, h⟩ := Option.map_eq_some_iff.mp h
    subst h
    cases j with
    | zero => simp at e; subst e; exact ⟨a, rfl, h1⟩
    | succ j =>
      obtain ⟨b, h3, h4⟩ := resArs_get (j := j) h2 (by simpa using e)
      exact ⟨b, by simpa using h3, h4⟩
theorem resArs_length {env : En} : ∀ {as : List Ar} {xs : List Sl}, resArs env as = some xs → xs.length = as.length
  | [], xs, h => by cases h; rfl
  | a :: as, xs, h => by
    unfold resArs at h
    obtain ⟨y, h1, h⟩ := Option.bind_eq_some_iff.mp h
    obtain ⟨r, h2, h⟩ := Option.map_eq_some_iff.mp h
    subst h
    simp [resArs_length h2]
theorem resArs_get2 {env : En} : ∀ {as : List Ar} {xs : List Sl} {j : Nat} {a : Ar}, resArs env as = some xs → as[j]? = some a → ∃ x, xs[j]? = some x ∧ resAr env a = some x
  | [], xs, j, x, h, e => by simp at e
  | a :: as, xs, j, b, h, e => by
    unfold resArs at h
    obtain ⟨y, h1, h⟩ := Option.bind_eq_some_iff.mp h
    obtain ⟨r, h2, h⟩ := Option.map_eq_some_iff.mp h
    subst h
    cases j with
    | zero => simp at e; subst e; exact ⟨y, rfl, h1⟩
    | succ j =>
      obtain ⟨b, h3, h4⟩ := resArs_get2 (j := j) h2 (by simpa using e)
      exact ⟨b, by simpa using h3, h4⟩
theorem rSlots_mem : ∀ {as : List Ar} {j i : Nat}, as[j]? = some (.r i) → i ∈ rSlots as
  | [], j, i, e => by simp at e
  | a :: as, 0, i, e => by simp at e; subst e; simp [rSlots]
  | a :: as, j + 1, i, e => by
    have h := rSlots_mem (as := as) (j := j) (i := i) (by simpa using e)
    cases a <;> simp [rSlots, h]
theorem oSlots_mem : ∀ {as : List Ar} {j i : Nat}, as[j]? = some (.o i) → i ∈ oSlots as
  | [], j, i, e => by simp at e
  | a :: as, 0, i, e => by simp at e; subst e; simp [oSlots]
  | a :: as, j + 1, i, e => by
    have h := oSlots_mem (as := as) (j := j) (i := i) (by simpa using e)
    cases a <;> simp [oSlots, h]
theorem rSlots_one : ∀ {as : List Ar} {i : Nat}, rSlots as = [i] → ∀ (j j' : Nat), as[j]? = some (.r i) → as[j']? = some (.r i) → j = j'
  | [], i, h, _, _, _, _ => by cases h
  | .v d :: as, i, h, 0, _, e, _ => by simp at e
  | .o d :: as, i, h, 0, _, e, _ => by simp at e
  | .v d :: as, i, h, _ + 1, 0, _, e => by simp at e
  | .o d :: as, i, h, _ + 1, 0, _, e => by simp at e
  | .v d :: as, i, h, j + 1, j' + 1, e, e' => by rw [rSlots_one (as := as) h j j' (by simpa using e) (by simpa using e')]
  | .o d :: as, i, h, j + 1, j' + 1, e, e' => by rw [rSlots_one (as := as) h j j' (by simpa using e) (by simpa using e')]
  | .r k :: as, i, h, j, j', e, e' => by
    have h0 : rSlots as = [] := by simp [rSlots] at h; exact h.2
    cases j with
    | zero =>
      cases j' with
      | zero => rfl
      | succ j' =>
        have := rSlots_mem (as := as) (j := j') (i := i) (by simpa using e')
        rw [h0] at this; cases this
    | succ j =>
      have := rSlots_mem (as := as) (j := j) (i := i) (by simpa using e)
      rw [h0] at this; cases this
/-- writing back: only the slot handed in -/
theorem backAr_one : ∀ {as : List Ar} {xs : List Sl} {env env' : En} {i : Nat}, rSlots as = [i] → backAr env as xs = some env' → ∃ (j : Nat) (l : Bool) (ds es : List D), as[j]? = some (.r i) ∧ xs[j]? = some (.own false ds) ∧ env[i]? = some (.own l es) ∧ env' = env.set i (.own l ds)
  | [], _, _, _, _, h, _ => by cases h
  | .v d :: as, [], _, _, _, h, e => by simp [backAr] at e
  | .o d :: as, [], _, _, _, h, e => by simp [backAr] at e
  | .r d :: as, [], _, _, _, h, e => by simp [backAr] at e
  | .v d :: as, x :: xs, env, env', i, h, e => by
    obtain ⟨j, l, ds, es, h1, h2, h3, h4⟩ := backAr_one (as := as) (xs := xs) (env := env) h (by simpa [backAr] using e)
    exact ⟨j + 1, l, ds, es, by simpa using h1, by simpa using h2, h3, h4⟩
  | .o d :: as, x :: xs, env, env', i, h, e => by
    obtain ⟨j, l, ds, es, h1, h2, h3, h4⟩ := backAr_one (as := as) (xs := xs) (env := env) h (by simpa [backAr] using e)
    exact ⟨j + 1, l, ds, es, by simpa using h1, by simpa using h2, h3, h4⟩
  | .r k :: as, x :: xs, env, env', i, h, e => by
    have h0 : rSlots as = [] ∧ k = i := by simp [rSlots] at h; exact ⟨h.2, h.1⟩
    obtain ⟨h0, rfl⟩ := h0
    have key : ∀ (as : List Ar) (xs : List Sl) (env env' : En), rSlots as = [] → backAr env as xs = some env' → env' = env := by
      intro as
      induction as with
      | nil => intro xs env env' _ e; simp [backAr] at e; exact e.symm
      | cons a as ih =>
        intro xs env env' h e
        cases a with
        | v d => cases xs with
          | nil => simp [backAr] at e
          | cons x xs => exact ih xs env env' h (by simpa [backAr] using e)
        | o d => cases xs with
          | nil => simp [backAr] at e
          | cons x xs => exact ih xs env env' h (by simpa [backAr] using e)
        | r i => simp [rSlots] at h
    unfold backAr at e
    split at e
    · rename_i ds l es h1
      have e2 := key _ _ _ _ h0 e
      exact ⟨0, l, ds, es, rfl, rfl, h1, e2⟩
    · cases e

theorem resAr_val {env : En} {a : Ar} {d : D} (h : resAr env a = some (.val d)) : a = .v d := by
  cases a with
  | v d' => simp [resAr] at h; rw [h]
  | r i => simp only [resAr] at h; split at h <;> cases h
  | o i => simp only [resAr] at h; split at h <;> cases h
theorem resAr_own {env : En} {a : Ar} {l : Bool} {ds : List D} (h : resAr env a = some (.own l ds)) : l = false ∧ ∃ i m, a = .r i ∧ env[i]? = some (.own m ds) := by
  cases a with
  | v d' => simp [resAr] at h
  | r i =>
    simp only [resAr] at h
    split at h
    · rename_i m es e
      cases h
      exact ⟨rfl, i, m, rfl, e⟩
    · cases h
  | o i => simp only [resAr] at h; split at h <;> cases h
theorem resAr_ro {env : En} {a : Ar} {ds : List D} (h : resAr env a = some (.ro ds)) : ∃ i, a = .o i ∧ ((∃ m, env[i]? = some (.own m ds)) ∨ env[i]? = some (.ro ds) ∨ env[i]? = some (.val (.list ds))) := by
  cases a with
  | v d' => simp [resAr] at h
  | r i => simp only [resAr] at h; split at h <;> cases h
  | o i =>
    simp only [resAr] at h
    split at h
    · rename_i m es e
      cases h
      exact ⟨i, rfl, .inl ⟨_, e⟩⟩
    · rename_i es e
      cases h
      exact ⟨i, rfl, .inr (.inl e)⟩
    · rename_i es e
      cases h
      exact ⟨i, rfl, .inr (.inr e)⟩
    · cases h
theorem resAr_dct {env : En} {a : Ar} {w : World} {kvs : List (D × D)} : resAr env a ≠ some (.dct w kvs) := fun h => by
  cases a with
  | v d' => simp [resAr] at h
  | r i => simp only [resAr] at h; split at h <;> cases h
  | o i => simp only [resAr] at h; split at h <;> cases h
section
variable {K : Frg} {G : Gm} {F F' : Hp} {env : En} {s : L2.St} {H H' : Hp} {as : List Ar} {vs : List V} {args args' : List Sl} {v : V} {d : D}
theorem own_arg (k : Ok K G F env s H) (p : ArsOk F s as vs) (hr : resArs env as = some args) {j : Nat} {l : Bool} {ds : List D} (h : args[j]? = some (.own l ds)) :
    l = false ∧ ∃ i m, i ∈ rSlots as ∧ as[j]? = some (.r i) ∧ env[i]? = some (.own m ds) ∧ ∃ x, vs[j]? = some x ∧ s[i]? = some (some x) := by
  obtain ⟨a, h1, h2⟩ := resArs_get hr h
  obtain ⟨e, i, m, rfl, h3⟩ := resAr_own h2
  obtain ⟨x, h4, h5⟩ := p.get h1
  cases h5 with
  | r h5 => exact ⟨e, i, m, rSlots_mem h1, h1, h3, x, h4, h5⟩
/-- an object that is none of the slots handed in -/
theorem minus_slot (k : Ok K G F env s H) (p : ArsOk F s as vs) (hr : resArs env as = some args) {a : Addr} {o : HO} (h : H a = some o) (n : ∀ i ∈ rSlots as, ∀ m ds, env[i]? = some (.own m ds) → s[i]? ≠ some (some (.ref a))) : minus H args vs a = some o :=
  minus_some h fun j l es h1 h2 => by
    obtain ⟨_, i, m, hi, _, h3, x, h4, h5⟩ := own_arg k p hr h1
    rw [h2] at h4
    cases h4
    exact n i hi m es h3 h5
theorem minus_pin (k : Ok K G F env s H) (p : ArsOk F s as vs) (hr : resArs env as = some args) : Same G.P (minus H args vs) := fun a o e =>
  minus_slot k p hr (k.pin a o e) fun i _ m ds h1 h2 => by
    obtain ⟨b, us, h3, _, _, h4, _⟩ := k.own i m ds h1
    rw [h2] at h3
    cases h3
    rw [h4] at e; cases e
theorem minus_fr (k : Ok K G F env s H) (p : ArsOk F s as vs) (hr : resArs env as = some args) : Same F (minus H args vs) := fun a o e =>
  minus_slot k p hr (k.fr a o e) fun i _ m ds h1 h2 => by
    obtain ⟨b, us, h3, _, h4, _⟩ := k.own i m ds h1
    rw [h2] at h3
    cases h3
    rw [h4] at e; cases e
theorem args_ok (k : Ok K G F env s H) (p : ArsOk F s as vs) (hr : resArs env as = some args) (h1 : ∀ i ∈ rSlots as, i ∉ oSlots as) (h2 : ∀ i ∈ rSlots as, ∀ (j j' : Nat), as[j]? = some (.r i) → as[j']? = some (.r i) → j = j') : ArgsOk K F H args vs where
  len := by rw [p.length, resArs_length hr]
  val := fun i d e => by
    obtain ⟨a, h3, h4⟩ := resArs_get hr e
    have h5 := resAr_val h4
    subst h5
    obtain ⟨x, h6, h7⟩ := p.get h3
    cases h7 with
    | v h7 => exact ⟨x, h6, h7⟩
  own := fun j l ds e => by
    obtain ⟨e1, i, m, hi, h3, h4, x, h5, h6⟩ := own_arg k p hr e
    obtain ⟨a, us, h7, h8, h9, _, h10, _⟩ := k.own i m ds h4
    rw [h6] at h7
    cases h7
    exact ⟨e1, a, us, h5, h8, h9, h10⟩
  ro := fun j ds e => by
    obtain ⟨a, h3, h4⟩ := resArs_get hr e
    obtain ⟨i, rfl, h5⟩ := resAr_ro h4
    obtain ⟨x, h6, h7⟩ := p.get h3
    cases h7 with
    | o h7 =>
      rcases h5 with ⟨m, h5⟩ | h5 | h5
      · obtain ⟨a, us, h8, h9, h10, _, h11, _⟩ := k.own i m ds h5
        rw [h7] at h8
        cases h8
        refine ⟨a, us, h6, SqL.of (minus_slot k p hr h9 fun i' hi' m' ds' g1 g2 => ?_), h11⟩
        have e2 := k.sep i' i m' ds' m ds g1 h5 (g2.trans h7.symm)
        subst e2
        exact h1 i' hi' (oSlots_mem h3)
      · obtain ⟨a, us, h8, h9, h10⟩ := k.ro i ds h5
        rw [h7] at h8
        cases h8
        exact ⟨a, us, h6, (k.rin.trans (minus_pin k p hr)).seq h9, h10⟩
      · obtain ⟨y, h8, h9⟩ := k.val i _ h5
        rw [h7] at h8
        cases h8
        cases h9 with
        | lst a1 b1 => exact ⟨_, _, h6, SqL.of (minus_fr k p hr _ _ a1), b1⟩
  sep := fun i j l ds m es h3 h4 h5 => by
    obtain ⟨_, i1, m1, hi1, g1, g2, x1, g3, g4⟩ := own_arg k p hr h3
    obtain ⟨_, i2, m2, hi2, q1, q2, x2, q3, q4⟩ := own_arg k p hr h4
    rw [g3, q3] at h5
    cases h5
    have e2 := k.sep i1 i2 _ _ _ _ g2 q2 (g4.trans q4.symm)
    subst e2
    exact h2 i1 hi1 i j g1 q1
  dct := fun i w kvs e => by
    obtain ⟨a, h3, h4⟩ := resArs_get hr e
    exact resAr_dct h4
/-- behind the call -/
theorem ok_after (k : Ok K G F env s H) (p : ArsOk F s as vs) (hr : resArs env as = some args) (q : Post F H F' H' args args' vs v d) {env' : En} (hl : env'.length = env.length)
    (he : ∀ (j : Nat), env'[j]? = env[j]? ∨ (∃ (m : Nat) (l : Bool) (ds es : List D), as[m]? = some (.r j) ∧ args'[m]? = some (.own false ds) ∧ env[j]? = some (.own l es) ∧ env'[j]? = some (.own l ds))) (hn : ∀ i ∈ rSlots as, ∀ (j : Nat), env'[j]? = env[j]? → (∃ (m : Nat) (l : Bool) (ds : List D), args'[m]? = some (.own false ds) ∧ as[m]? = some (.r i) ∧ env'[i]? = some (.own l ds))) :
    Ok K G F' env' s H' := by
  have back : ∀ (j : Nat) l ds, env'[j]? = some (.own l ds) → ∃ es, env[j]? = some (.own l es) := fun j l ds e => by
    rcases he j with h | ⟨m, l', ds', es, _, _, h3, h4⟩
    · rw [h] at e; exact ⟨ds, e⟩
    · rw [h4] at e; cases e; exact ⟨es, h3⟩
  refine ⟨by rw [k.len, hl], q.fr, fun i d' e => ?_, fun i l ds e => ?_, fun i ds e => ?_, fun i j l ds m es e1 e2 e3 => ?_, fun a o e => q.keep a o (minus_pin k p hr a o e), fun a e => k.dom a (q.dom a e), k.grow.trans q.grow, fun a o e => ?_, k.rin, k.dct.move q.grow (fun i w kvs e => ⟨?_, rfl⟩) fun a es g1 g2 g3 g4 hx => ⟨?_, ?_, g3, g4⟩⟩
  · rcases he i with h | ⟨m, l', ds', es, _, _, h3, h4⟩
    · rw [h] at e
      obtain ⟨x, h1, h2⟩ := k.val i d' e
      exact ⟨x, h1, Dt.mono q.grow _ _ h2⟩
    · rw [h4] at e; cases e
  · by_cases hi : i ∈ rSlots as
    · have : ∃ (m : Nat) (ds' : List D), args'[m]? = some (.own false ds') ∧ as[m]? = some (.r i) ∧ env'[i]? = some (.own l ds') := by
        rcases he i with h | ⟨m, l', ds', es, g1, g2, g3, g4⟩
        · obtain ⟨m, l', ds', g1, g2, g3⟩ := hn i hi i h
          have : l' = l := by rw [e] at g3; cases g3; rfl
          subst this
          exact ⟨m, ds', g1, g2, g3⟩
        · have : l' = l := by rw [e] at g4; cases g4; rfl
          subst this
          exact ⟨m, ds', g2, g1, g4⟩
      obtain ⟨m, ds', g1, g2, g3⟩ := this
      rw [e] at g3
      cases g3
      obtain ⟨es, g4⟩ := back i l ds e
      obtain ⟨a, us, h1, h2, h3, h4, h5, h6⟩ := k.own i l es g4
      obtain ⟨x, g5, g6⟩ := resArs_get2 hr g2
      simp only [resAr, g4] at g6
      cases g6
      obtain ⟨y, g7, g8⟩ := p.get g2
      cases g8 with
      | r g8 =>
        rw [h1] at g8
        cases g8
        obtain ⟨us', h7, h8, h9⟩ := q.own m false es g5 ds g1 a g7
        exact ⟨a, us', h1, h7, h8, h4, h9, h6⟩
    · have e' : env[i]? = some (.own l ds) := by
        rcases he i with h | ⟨m, l', ds', es, g1, g2, g3, g4⟩
        · rw [← h]; exact e
        · exact absurd (rSlots_mem g1) hi
      obtain ⟨a, us, h1, h2, h3, h4, h5, h6⟩ := k.own i l ds e'
      refine ⟨a, us, h1, q.keep a _ (minus_slot k p hr h2 fun i' hi' m' ds' g1 g2 => ?_), ?_, h4, Da.mono q.grow _ _ h5, h6⟩
      · have e2 := k.sep i' i m' ds' l ds g1 e' (g2.trans h1.symm)
        subst e2
        exact hi hi'
      · cases hx : F' a with
        | none => rfl
        | some o =>
          rcases q.new a o hx with z | z
          · rw [h3] at z; cases z
          · rw [h2] at z; cases z
  · rcases he i with h | ⟨m, l', ds', es, _, _, h3, h4⟩
    · rw [h] at e
      obtain ⟨a, us, h1, h2, h3⟩ := k.ro i ds e
      exact ⟨a, us, h1, h2, Da.mono q.grow _ _ h3⟩
    · rw [h4] at e; cases e
  · obtain ⟨ds1, g1⟩ := back i l ds e1
    obtain ⟨ds2, g2⟩ := back j m es e2
    exact k.sep i j _ _ _ _ g1 g2 e3
  · rcases q.new a o e with z | z
    · exact k.new a o z
    · exact .inr (k.dom a z)
  · rcases he i with h | ⟨m, l', ds', es, _, _, h3, h4⟩
    · rw [← h]; exact e
    · rw [h4] at e; cases e
  · refine q.keep a _ (minus_slot k p hr g1 fun i' hi' m' ds' g5 g6 => ?_)
    obtain ⟨b, us, g7, g8, _⟩ := k.own i' m' ds' g5
    rw [g6] at g7
    cases g7
    rw [g1] at g8; cases g8
  · cases hx' : F' a with
    | none => rfl
    | some o =>
      rcases q.new a o hx' with z | z
      · rw [g2] at z; cases z
      · rw [g1] at z; cases z
theorem re_call {g : Gf} {fa : Af} {t : TA} {E : XK} (ha : RA K t fa) : RE K (tCall (spF K g) [] E t) (eCall g fa) := fun G F env s H d env' k e Q q => by
  unfold eCall at e
  obtain ⟨⟨as, e1⟩, h1, e⟩ := Option.bind_eq_some_iff.mp e
  refine ha G F env s H as e1 k h1 _ fun F1 H1 vs k1 s1 p1 => ?_
  rw [List.append_nil]
  dsimp only at e
  split at e
  · rename_i hrs
    obtain ⟨args, h2, e⟩ := Option.bind_eq_some_iff.mp e
    obtain ⟨⟨d', args'⟩, h3, e⟩ := Option.map_eq_some_iff.mp e
    cases e
    refine ⟨F1, args, d', args', h3, k1.fr, args_ok k1 p1 h2 (by rw [hrs]; intro i hi; cases hi) (by rw [hrs]; intro i hi; cases hi), fun F' H' v po => ?_⟩
    exact q F' H' v (ok_after k1 p1 h2 po rfl (fun j => .inl rfl) (by rw [hrs]; intro i hi; cases hi)) (s1.trans po.grow) po.res
  · rename_i i hrs
    split at e
    · cases e
    · rename_i hc
      obtain ⟨args, h2, e⟩ := Option.bind_eq_some_iff.mp e
      obtain ⟨⟨d', args'⟩, h3, e⟩ := Option.bind_eq_some_iff.mp e
      obtain ⟨env2, h4, e⟩ := Option.map_eq_some_iff.mp e
      cases e
      obtain ⟨j, l, ds, es, g1, g2, g3, g4⟩ := backAr_one hrs h4
      subst g4
      have hil : i < e1.length := (List.getElem?_eq_some_iff.mp g3).1
      refine ⟨F1, args, d', args', h3, k1.fr, args_ok k1 p1 h2 (by rw [hrs]; intro i' hi'; simp at hi'; subst hi'; intro hm; apply hc; simp [hm]) (by rw [hrs]; intro i' hi' j1 j2 q1 q2; simp at hi'; subst hi'; exact rSlots_one hrs j1 j2 q1 q2), fun F' H' v po => ?_⟩
      refine q F' H' v (ok_after k1 p1 h2 po (by simp) (fun j' => ?_) ?_) (s1.trans po.grow) po.res
      · by_cases hj : i = j'
        · subst hj
          exact .inr ⟨j, l, ds, es, g1, g2, g3, by rw [List.getElem?_set_self hil]⟩
        · exact .inl (List.getElem?_set_ne hj)
      · rw [hrs]
        intro i' hi' j' _
        simp at hi'
        subst hi'
        exact ⟨j, l, ds, g2, g1, by rw [List.getElem?_set_self hil]⟩
  · cases e
end
section
variable {X : Cx} {k : Nat} {fx : Addr} {fd : FuncData} {ps : List Str} {x : Str} {p pos : Pos} {e : Expr} {es : List Expr} {fa : Af} {g : Gf}
theorem xe_call (FF : FnOk X.prog X.w X.K X.mg X.base CX0 k fx fd ps (spF X.K g)) (hr : Room k X.A) (hm : X.mg x = some (.ref fx)) (hk : PySem.W.keepIn X.K (.ref fx) = true) (hb : Binds X.K fd ps []) (ha : XA X (e :: es) fa) (hg : Gl X x := by rfl)
    (hdb : (x == ("__debug__" : Str)) = false := by decide) (he : starEach (e :: es) X.env = (false, eval e X.env) :: starEach es X.env := by rfl) (hpl : (backTo pos (starEach es X.env)).any (·.1) = false := by rfl) :
    XE X (.Call (.Name x p) (e :: es) [] pos) (eCall g fa) :=
  let ⟨_, h1, h2⟩ := ha.ex; ⟨_, pe_call FF hr hg hm hk hb .nil pass0 h1 hdb he hpl, re_call h2⟩
/-! ### a built-in of one argument -/
def GC (K : Frg) (r : List V → Hp → VK → Prop) (g : D → Option D) : Prop := ∀ G F env s H x d z, Ok K G F env s H → Dq K F H x d → g d = some z → ∀ Q : VK, (∀ F' H' v, Ok K G F' env s H' → Same F F' → Dt F' v z → Q v H') → r [x] H Q
def GC2 (K : Frg) (r : List V → Hp → VK → Prop) (g : D → D → Option D) : Prop := ∀ G F env s H x y d e z, Ok K G F env s H → Dt F x d → Dt F y e → g d e = some z → ∀ Q : VK, (∀ F' H' v, Ok K G F' env s H' → Same F F' → Dt F' v z → Q v H') → r [x, y] H Q
def lUn (g : D → Option (List D)) (fa : Ef) : Lf := fun env => (fa env).bind fun r => (g r.1).map fun d => (d, r.2)
variable {f fb : Ef} {K : Frg}
theorem re_cb {r : List V → Hp → VK → Prop} {g : D → Option D} {ta : TE} (ho : GC K r g) (ha : RO K ta f) : RE K (tCB r (tCons ta tNil)) (eUn g f) := fun G F env s H d env' k e Q q => by
  obtain ⟨d1, h1, h3⟩ := un_some e
  refine ha G F env s H d1 env' k h1 _ fun F1 H1 v1 k1 s1 p1 => ?_
  exact ho G F1 env' s H1 v1 d1 d k1 p1 h3 Q fun F3 H3 v3 k3 s3 p3 => q F3 H3 v3 k3 (s1.trans s3) p3
theorem re_cb2 {r : List V → Hp → VK → Prop} {g : D → D → Option D} {ta tb : TE} (ho : GC2 K r g) (ha : RE K ta f) (hb : RE K tb fb) : RE K (tCB r (tCons ta (tCons tb tNil))) (eBin g f fb) := fun G F env s H d env' k e Q q => by
  obtain ⟨d1, e1, d2, h1, h2, h3⟩ := bin_some e
  refine ha G F env s H d1 e1 k h1 _ fun F1 H1 v1 k1 s1 p1 => ?_
  refine hb G F1 e1 s H1 d2 env' k1 h2 _ fun F2 H2 v2 k2 s2 p2 => ?_
  exact ho G F2 env' s H2 v1 v2 d1 d2 d k2 (Dt.mono s2 d1 v1 p1) p2 h3 Q fun F3 H3 v3 k3 s3 p3 => q F3 H3 v3 k3 ((s1.trans s2).trans s3) p3
section
variable {id T : String} {r : List V → Hp → VK → Prop}
theorem xe_cbB {g : D → Option D} (hc : CallR X (.builtin id) r) (hv : bootBuiltins x = some (.builtin id)) (ho : GC X.K r g) (hm : X.mg x = none) (ha : XO X e f) (hg : Gl X x := by rfl) (hn : x ≠ "__name__" := by decide) (hdb : (x == ("__debug__" : Str)) = false := by decide)
    (he : starEach [e] X.env = (false, eval e X.env) :: starEach [] X.env := by rfl) (hpl : (backTo pos (starEach [] X.env)).any (·.1) = false := by rfl) : XE X (.Call (.Name x p) [e] [] pos) (eUn g f) :=
  let ⟨_, h1, h2⟩ := ha.ex; ⟨_, pe_callB hc hg hm hv (pa_cons h1 pa_nil he) hn hdb he hpl, re_cb ho h2⟩
theorem xe_cbT {g : D → Option D} (hc : CallR X (.type T) r) (hv : bootBuiltins x = some (.type T)) (ho : GC X.K r g) (hm : X.mg x = none) (ha : XO X e f) (hg : Gl X x := by rfl) (hn : x ≠ "__name__" := by decide) (hdb : (x == ("__debug__" : Str)) = false := by decide)
    (he : starEach [e] X.env = (false, eval e X.env) :: starEach [] X.env := by rfl) (hpl : (backTo pos (starEach [] X.env)).any (·.1) = false := by rfl) : XE X (.Call (.Name x p) [e] [] pos) (eUn g f) :=
  let ⟨_, h1, h2⟩ := ha.ex; ⟨_, pe_callTy hc hg hm hv (pa_cons h1 pa_nil he) hn hdb he hpl, re_cb ho h2⟩
theorem xe_cb2 {e2 : Expr} {g : D → D → Option D} (hc : CallR X (.builtin id) r) (hv : bootBuiltins x = some (.builtin id)) (ho : GC2 X.K r g) (hm : X.mg x = none) (ha : XE X e f) (hb : XE X e2 fb) (hg : Gl X x := by rfl) (hn : x ≠ "__name__" := by decide) (hdb : (x == ("__debug__" : Str)) = false := by decide)
    (he : starEach [e, e2] X.env = (false, eval e X.env) :: starEach [e2] X.env := by rfl) (he2 : starEach [e2] X.env = (false, eval e2 X.env) :: starEach [] X.env := by rfl) (hpl : (backTo pos (starEach [e2] X.env)).any (·.1) = false := by rfl) : XE X (.Call (.Name x p) [e, e2] [] pos) (eBin g f fb) :=
  let ⟨_, h1, h2⟩ := ha.ex; let ⟨_, h3, h4⟩ := hb.ex; ⟨_, pe_callB hc hg hm hv (pa_cons h1 (pa_cons h3 pa_nil he2) he) hn hdb he hpl, re_cb2 ho h2 h4⟩
end
end
end M

namespace M
open PySem PySem.Spec PyProof.Rows L2

inductive Out where
  | nx (env : En) | rt (d : D) (env : En) | rn (ds : List D) (env : En) | rp (as ds : List D) (env : En)
/-- a new tuple that ends in a new list, both nobody's yet -/
structure NewT (G : Gm) (F H : Hp) (env : En) (s : L2.St) (t p : Addr) (vs us : List V) (as ds : List D) : Prop where
  ht : H t = some (.tup (vs ++ [.ref p]))
  ft : F t = none
  t0 : G.H0 t = none
  tP : G.P t = none
  hp : H p = some (.lst us)
  fp : F p = none
  p0 : G.H0 p = none
  pP : G.P p = none
  pn : ∀ (j : Nat) l es, env[j]? = some (.own l es) → s[j]? ≠ some (some (.ref p))
  da : Da F vs as
  du : Da F us ds
/-- both frozen -/
theorem NewT.frz {K : Frg} {G : Gm} {F H : Hp} {env : En} {s : L2.St} {t p : Addr} {vs us : List V} {as ds : List D} (n : NewT G F H env s t p vs us as ds) (k : Ok K G F env s H) : ∃ F', Ok K G F' env s H ∧ Same F F' ∧ Dt F' (.ref t) (.tuple (as ++ [.list ds])) ∧ F' t = some (.tup (vs ++ [.ref p])) ∧ F' p = some (.lst us) := by
  have k1 := k.freeze n.hp n.fp n.p0 n.pn (k.notdctL n.hp)
  have ne : t ≠ p := fun e => by have := n.ht; rw [e, n.hp] at this; cases this
  have f1 : upd F p (.lst us) t = none := by rw [upd_ne ne]; exact n.ft
  have k2 := k1.freeze n.ht f1 n.t0 (fun j l es e z => by
    obtain ⟨a, ws, h1, h2, _⟩ := k.own j l es e
    rw [z] at h1; cases h1
    rw [n.ht] at h2; cases h2) (k1.notdctT n.ht)
  have s1 : Same F (upd F p (.lst us)) := same_upd n.fp
  have s2 : Same (upd F p (.lst us)) (upd (upd F p (.lst us)) t (.tup (vs ++ [.ref p]))) := same_upd f1
  exact ⟨_, k2, s1.trans s2, .tup upd_same ((Da.mono (s1.trans s2) _ _ n.da).append (.cons (.lst (s2 _ _ upd_same) (Da.mono (s1.trans s2) _ _ n.du)) .nil)), upd_same, s2 _ _ upd_same⟩
abbrev Sf := En → Option Out
def RSx (K : Frg) (G : Gm) (F : Hp) (E : Ends) : Out → Prop
  | .nx env => ∀ F' s' H', Ok K G F' env s' H' → Same F F' → E.nx s' H'
  | .rt d env => ∀ F' s' H' v, Ok K G F' env s' H' → Same F F' → Dt F' v d → E.rt v H'
  | .rn ds env => ∀ F' s' H' p vs, Ok K G F' env s' H' → Same F F' → H' p = some (.lst vs) → F' p = none → G.H0 p = none → G.P p = none → (∀ (j : Nat) l es, env[j]? = some (.own l es) → s'[j]? ≠ some (some (.ref p))) → Da F' vs ds → E.rt (.ref p) H'
  | .rp as ds env => ∀ F' s' H' t p vs us, Ok K G F' env s' H' → Same F F' → NewT G F' H' env s' t p vs us as ds → E.rt (.ref t) H'
def RS (K : Frg) (t : TS) (f : Sf) : Prop := ∀ G F env s H o, Ok K G F env s H → f env = some o → ∀ E : Ends, RSx K G F E o → t E s H
structure XS (X : Cx) (st : Stmt) (f : Sf) : Prop where
  ex : ∃ t, PS X st t ∧ RS X.K t f
structure XSs (X : Cx) (sts : List Stmt) (f : Sf) : Prop where
  ex : ∃ t, PSs X sts t ∧ RS X.K t f
theorem RSx.up {K : Frg} {G : Gm} {F F' : Hp} {E : Ends} {o : Out} (s : Same F F') (h : RSx K G F E o) : RSx K G F' E o := by
  cases o with
  | nx env => exact fun F2 s2 H2 k e => h F2 s2 H2 k (s.trans e)
  | rt d env => exact fun F2 s2 H2 v k e p => h F2 s2 H2 v k (s.trans e) p
  | rn ds env => exact fun F2 s2 H2 p vs k e h1 h2 h3 h4 h5 h6 => h F2 s2 H2 p vs k (s.trans e) h1 h2 h3 h4 h5 h6
  | rp as ds env => exact fun F2 s2 H2 t p vs us k e n => h F2 s2 H2 t p vs us k (s.trans e) n
/-- what isn't the next statement hangs on the return alone -/
theorem RSx.same_rt {K : Frg} {G : Gm} {F : Hp} {E E' : Ends} {o : Out} (he : E'.rt = E.rt) (ho : ∀ env, o ≠ .nx env) (h : RSx K G F E o) : RSx K G F E' o := by
  cases o with
  | nx env => exact absurd rfl (ho env)
  | rt d env => exact fun F2 s2 H2 v k e p => by rw [he]; exact h F2 s2 H2 v k e p
  | rn ds env => exact fun F2 s2 H2 p vs k e h1 h2 h3 h4 h5 h6 => by rw [he]; exact h F2 s2 H2 p vs k e h1 h2 h3 h4 h5 h6
  | rp as ds env => exact fun F2 s2 H2 t p vs us k e n => by rw [he]; exact h F2 s2 H2 t p vs us k e n
def sNil : Sf := fun env => some (.nx env)
def sSeq (f g : Sf) : Sf := fun env => (f env).bind fun o => match o with
  | .nx env1 => g env1
  | o => some o
section
variable {X : Cx} {K : Frg} {st : Stmt} {rest : List Stmt} {e a b : Expr} {f g : Sf} {fe fa fb : Ef} {pos : Pos}
theorem rs_seq {t u : TS} (h1 : RS K t f) (h2 : RS K u g) : RS K (tSeq t u) (sSeq f g) := fun G F env s H o k e E q => by
  unfold sSeq at e
  obtain ⟨o1, h3, e⟩ := Option.bind_eq_some_iff.mp e
  cases o1 with
  | nx env1 =>
    refine h1 G F env s H _ k h3 _ ?_
    exact fun F1 s1 H1 k1 e1 => h2 G F1 env1 s1 H1 o k1 e E (q.up e1)
  | rt d env1 =>
    cases e
    exact h1 G F env s H _ k h3 _ q
  | rn ds env1 =>
    cases e
    exact h1 G F env s H _ k h3 _ q
  | rp as ds env1 =>
    cases e
    exact h1 G F env s H _ k h3 _ q
theorem xss_nil : XSs X [] sNil := ⟨_, pss_nil, fun G F env s H o k e E q => by cases e; exact q F s H k (Same.refl F)⟩
theorem xss_cons (h1 : XS X st f) (h2 : XSs X rest g) : XSs X (st :: rest) (sSeq f g) :=
  let ⟨_, p1, q1⟩ := h1.ex; let ⟨_, p2, q2⟩ := h2.ex; ⟨_, pss_cons p1 p2, rs_seq q1 q2⟩
theorem xss_one (h1 : XS X st f) : XSs X [st] f := let ⟨_, p1, q1⟩ := h1.ex; ⟨_, pss_one p1, q1⟩
def sNo : Sf := fun _ => none
theorem xs_never : XS X st sNo := ⟨_, ps_never, fun G F env s H o k e E q => by cases e⟩
def sExpr (f : Ef) : Sf := fun env => (f env).map fun r => .nx r.2
theorem xs_expr (he : XE X e fe) (hs : swapsWith e none pos.line X.env = pure false := by rfl) : XS X (.Expr e pos) (sExpr fe) := by
  obtain ⟨t, h1, h2⟩ := he.ex
  refine ⟨_, ps_expr h1 hs, fun G F env s H o k e E q => ?_⟩
  unfold sExpr at e
  obtain ⟨⟨d, e1⟩, h3, e⟩ := Option.map_eq_some_iff.mp e
  cases e
  exact h2 G F env s H d e1 k h3 _ fun F1 H1 v k1 s1 p1 => q F1 s H1 k1 s1
def sRet (f : Ef) : Sf := fun env => (f env).map fun r => .rt r.1 r.2
theorem xs_ret (he : XE X e fe) : XS X (.Return (some e) pos) (sRet fe) := by
  obtain ⟨t, h1, h2⟩ := he.ex
  refine ⟨_, ps_ret h1, fun G F env s H o k e E q => ?_⟩
  unfold sRet at e
  obtain ⟨⟨d, e1⟩, h3, e⟩ := Option.map_eq_some_iff.mp e
  cases e
  exact h2 G F env s H d e1 k h3 _ fun F1 H1 v k1 s1 p1 => q F1 s H1 v k1 s1 p1
/-- a new list is handed back -/
def sRetL (f : Lf) : Sf := fun env => (f env).map fun r => .rn r.1 r.2
def sRetN : Sf := fun env => some (.rt .none env)
/-- a list that the def made, frozen -/
def frz (i : Nat) : En → Option En := fun env => match env[i]? with
  | some (.own true ds) => some (env.set i (.val (.list ds)))
  | some (.val d) => some env
  | _ => none
theorem set_get {α : Type} {l : List α} {i j : Nat} {x y : α} (h : (l.set i x)[j]? = some y) : (i = j ∧ i < l.length ∧ x = y) ∨ (i ≠ j ∧ l[j]? = some y) := by
  by_cases hj : i = j
  · subst hj
    have hl : i < l.length := by have := (List.getElem?_eq_some_iff.mp h).1; simpa using this
    rw [List.getElem?_set_self hl] at h
    cases h
    exact .inl ⟨rfl, hl, rfl⟩
  · rw [List.getElem?_set_ne hj] at h
    exact .inr ⟨hj, h⟩
/-- a slot's own list becomes a value -/
theorem frz_ok {G : Gm} {F : Hp} {env env' : En} {s : L2.St} {H : Hp} {i : Nat} (k : Ok K G F env s H) (e : frz i env = some env') : ∃ F', Ok K G F' env' s H ∧ Same F F' := by
  unfold frz at e
  split at e
  · rename_i ds h
    cases e
    obtain ⟨a, vs, h1, h2, h3, h4, h5, h6, _⟩ := k.own i true ds h
    have hi : i < env.length := (List.getElem?_eq_some_iff.mp h).1
    have k0 : Ok K G F (env.set i .no) s H := by
      refine ⟨by rw [k.len]; simp, k.fr, fun j d e => ?_, fun j l es e => ?_, fun j es e => ?_, fun j j' l es m fs e1 e2 e3 => ?_, k.pin, k.dom, k.grow, k.new, k.rin, k.dct.slots fun j w kvs e => ?_⟩
      · rcases set_get e with ⟨_, _, z⟩ | ⟨_, z⟩
        · cases z
        · exact k.val j d z
      · rcases set_get e with ⟨_, _, z⟩ | ⟨_, z⟩
        · cases z
        · exact k.own j l es z
      · rcases set_get e with ⟨_, _, z⟩ | ⟨_, z⟩
        · cases z
        · exact k.ro j es z
      · rcases set_get e1 with ⟨_, _, z⟩ | ⟨_, z⟩
        · cases z
        · rcases set_get e2 with ⟨_, _, z2⟩ | ⟨_, z2⟩
          · cases z2
          · exact k.sep j j' _ _ _ _ z z2 e3
      · rcases set_get e with ⟨_, _, z⟩ | ⟨_, z⟩
        · cases z
        · exact ⟨z, rfl⟩
    have k1 := k0.freeze h2 h3 (h6 rfl) (fun j l es e z => by
      rcases set_get e with ⟨_, _, z2⟩ | ⟨hj, z2⟩
      · cases z2
      · exact hj (k.sep i j _ _ _ _ h z2 (h1.trans z.symm))) (k0.notdctL h2)
    refine ⟨_, ⟨by rw [k.len]; simp, k1.fr, fun j d e => ?_, fun j l es e => ?_, fun j es e => ?_, fun j j' l es m fs e1 e2 e3 => ?_, k1.pin, k1.dom, k1.grow, k1.new, k1.rin, k1.dct.slots fun j w kvs e => ?_⟩, same_upd h3⟩
    · rcases set_get e with ⟨rfl, _, z⟩ | ⟨hj, z⟩
      · cases z
        exact ⟨_, h1, .lst upd_same (Da.mono (same_upd h3) _ _ h5)⟩
      · exact k1.val j d (by rw [List.getElem?_set_ne hj]; exact z)
    · rcases set_get e with ⟨rfl, _, z⟩ | ⟨hj, z⟩
      · cases z
      · exact k1.own j l es (by rw [List.getElem?_set_ne hj]; exact z)
    · rcases set_get e with ⟨rfl, _, z⟩ | ⟨hj, z⟩
      · cases z
      · exact k1.ro j es (by rw [List.getElem?_set_ne hj]; exact z)
    · rcases set_get e1 with ⟨_, _, z⟩ | ⟨hj1, z⟩
      · cases z
      · rcases set_get e2 with ⟨_, _, z2⟩ | ⟨hj2, z2⟩
        · cases z2
        · exact k1.sep j j' _ _ _ _ (by rw [List.getElem?_set_ne hj1]; exact z) (by rw [List.getElem?_set_ne hj2]; exact z2) e3
    · rcases set_get e with ⟨rfl, _, z⟩ | ⟨hj, z⟩
      · cases z
      · exact ⟨by rw [List.getElem?_set_ne hj]; exact z, rfl⟩
  · cases e
    exact ⟨F, k, Same.refl F⟩
  · cases e
theorem ok_drop {G : Gm} {F : Hp} {env : En} {s : L2.St} {H : Hp} (i : Nat) (k : Ok K G F env s H) : Ok K G F (env.set i .no) s H := by
  refine ⟨by rw [k.len]; simp, k.fr, fun j d e => ?_, fun j l es e => ?_, fun j es e => ?_, fun j j' l es m fs e1 e2 e3 => ?_, k.pin, k.dom, k.grow, k.new, k.rin, k.dct.slots fun j w kvs e => ?_⟩
  · rcases set_get e with ⟨_, _, z⟩ | ⟨_, z⟩
    · cases z
    · exact k.val j d z
  · rcases set_get e with ⟨_, _, z⟩ | ⟨_, z⟩
    · cases z
    · exact k.own j l es z
  · rcases set_get e with ⟨_, _, z⟩ | ⟨_, z⟩
    · cases z
    · exact k.ro j es z
  · rcases set_get e1 with ⟨_, _, z⟩ | ⟨_, z⟩
    · cases z
    · rcases set_get e2 with ⟨_, _, z2⟩ | ⟨_, z2⟩
      · cases z2
      · exact k.sep j j' _ _ _ _ z z2 e3
  · rcases set_get e with ⟨_, _, z⟩ | ⟨hj, z⟩
    · cases z
    · exact ⟨z, rfl⟩
/-- the def's own list is handed back -/
def sRetO (i : Nat) : Sf := fun env => match env[i]? with
  | some (.own true ds) => some (.rn ds (env.set i .no))
  | _ => none
theorem xs_retO (i : Nat) {x : Str} {p2 : Pos} (hN : X.N[i]? = some x := by rfl) (hv : Vis X.env.scope x := by first | exact Or.inl rfl | exact Or.inr (Or.inl rfl) | exact Or.inr (Or.inr rfl)) (hd : (x == ("__debug__" : Str)) = false := by decide)
    (hcd : (x == ("__classdict__" : Str)) = false := by decide) : XS X (.Return (some (.Name x p2)) pos) (sRetO i) := by
  refine ⟨_, ps_ret (pe_var hN hv hd hcd), fun G F env s H o k e E q => ?_⟩
  unfold sRetO at e
  split at e
  · rename_i ds h
    cases e
    obtain ⟨a, vs, h1, h2, h3, h4, h5, h6, _⟩ := k.own i true ds h
    refine ⟨_, h1, q F s H a vs (ok_drop i k) (Same.refl F) h2 h3 (h6 rfl) h4 (fun j l es e z => ?_) h5⟩
    rcases set_get e with ⟨_, _, z2⟩ | ⟨hj, z2⟩
    · cases z2
    · exact hj (k.sep i j _ _ _ _ h z2 (h1.trans z.symm))
  · cases e
def sFrz (i : Nat) (f : Sf) : Sf := fun env => (frz i env).bind f
theorem rs_frz {t : TS} (i : Nat) (h : RS K t f) : RS K t (sFrz i f) := fun G F env s H o k e E q => by
  unfold sFrz at e
  obtain ⟨env1, h1, e⟩ := Option.bind_eq_some_iff.mp e
  obtain ⟨F1, k1, s1⟩ := frz_ok k h1
  exact h G F1 env1 s H o k1 e E (q.up s1)
/-- ahead of a statement a list is frozen -/
theorem xs_frz (i : Nat) (h : XS X st f) : XS X st (sFrz i f) := let ⟨_, p, q⟩ := h.ex; ⟨_, p, rs_frz i q⟩
def sIf (c : Bf) (f g : Sf) : Sf := fun env => (c env).bind fun r => if r.1 then f r.2 else g r.2
theorem xs_if {c : Expr} {p1 p2 : List Stmt} {gc : Bf} (hc : XB X c gc) (ha : XSs X p1 f) (hb : XSs X p2 g) : XS X (.If c p1 p2 pos) (sIf gc f g) := by
  obtain ⟨t, h1, h2⟩ := hc.ex
  obtain ⟨ta, h3, h4⟩ := ha.ex
  obtain ⟨tb, h5, h6⟩ := hb.ex
  refine ⟨_, ps_if h1 h3 h5, fun G F env s H o k e E q => ?_⟩
  unfold sIf at e
  obtain ⟨⟨c, e1⟩, h7, e⟩ := Option.bind_eq_some_iff.mp e
  refine h2 G F env s H c e1 k h7 _ fun F1 H1 k1 s1 => ?_
  cases c with
  | true =>
    rw [if_pos rfl] at e ⊢
    exact h4 G F1 e1 s H1 o k1 e E (q.up s1)
  | false =>
    rw [if_neg Bool.false_ne_true] at e ⊢
    exact h6 G F1 e1 s H1 o k1 e E (q.up s1)

/-! ### assignment -/
theorem ok_set {G : Gm} {F : Hp} {env : En} {s : L2.St} {H : Hp} {i : Nat} {d : D} {v : V} (k : Ok K G F env s H) (p : Dt F v d) : Ok K G F (env.set i (.val d)) (s.set i (some v)) H := by
  refine ⟨by simp [k.len], k.fr, fun j d' e => ?_, fun j l es e => ?_, fun j es e => ?_, fun j j' l es m fs e1 e2 e3 => ?_, k.pin, k.dom, k.grow, k.new, k.rin, k.dct.slots fun j w kvs e => ?_⟩
  · rcases set_get e with ⟨rfl, hl, z⟩ | ⟨hj, z⟩
    · cases z
      exact ⟨v, by rw [List.getElem?_set_self (by rw [k.len]; exact hl)], p⟩
    · rw [List.getElem?_set_ne hj]
      exact k.val j d' z
  · rcases set_get e with ⟨rfl, hl, z⟩ | ⟨hj, z⟩
    · cases z
    · rw [List.getElem?_set_ne hj]
      exact k.own j l es z
  · rcases set_get e with ⟨rfl, hl, z⟩ | ⟨hj, z⟩
    · cases z
    · rw [List.getElem?_set_ne hj]
      exact k.ro j es z
  · rcases set_get e1 with ⟨rfl, hl, z⟩ | ⟨hj, z⟩
    · cases z
    · rcases set_get e2 with ⟨rfl, hl, z2⟩ | ⟨hj2, z2⟩
      · cases z2
      · rw [List.getElem?_set_ne hj, List.getElem?_set_ne hj2] at e3
        exact k.sep j j' _ _ _ _ z z2 e3
  · rcases set_get e with ⟨_, _, z⟩ | ⟨hj, z⟩
    · cases z
    · exact ⟨z, List.getElem?_set_ne hj⟩
theorem ok_setO {G : Gm} {F : Hp} {env : En} {s : L2.St} {H : Hp} {i : Nat} {ds : List D} {p : Addr} {vs : List V} (k : Ok K G F env s H) (h1 : H p = some (.lst vs)) (h2 : F p = none) (h3 : G.H0 p = none) (h4 : G.P p = none)
    (h5 : ∀ (j : Nat) l es, env[j]? = some (.own l es) → s[j]? ≠ some (some (.ref p))) (h6 : Da F vs ds) : Ok K G F (env.set i (.own true ds)) (s.set i (some (.ref p))) H := by
  refine ⟨by simp [k.len], k.fr, fun j d' e => ?_, fun j l es e => ?_, fun j es e => ?_, fun j j' l es m fs e1 e2 e3 => ?_, k.pin, k.dom, k.grow, k.new, k.rin, k.dct.slots fun j w kvs e => ?_⟩
  · rcases set_get e with ⟨rfl, hl, z⟩ | ⟨hj, z⟩
    · cases z
    · rw [List.getElem?_set_ne hj]
      exact k.val j d' z
  · rcases set_get e with ⟨rfl, hl, z⟩ | ⟨hj, z⟩
    · cases z
      exact ⟨p, vs, by rw [List.getElem?_set_self (by rw [k.len]; exact hl)], h1, h2, h4, h6, fun _ => h3, fun z => by cases z⟩
    · rw [List.getElem?_set_ne hj]
      exact k.own j l es z
  · rcases set_get e with ⟨rfl, hl, z⟩ | ⟨hj, z⟩
    · cases z
    · rw [List.getElem?_set_ne hj]
      exact k.ro j es z
  · rcases set_get e1 with ⟨rfl, hl, z⟩ | ⟨hj, z⟩
    · rcases set_get e2 with ⟨rfl, hl2, z2⟩ | ⟨hj2, z2⟩
      · rfl
      · rw [List.getElem?_set_self (by rw [k.len]; exact hl), List.getElem?_set_ne hj2] at e3
        exact absurd e3.symm (h5 j' _ _ z2)
    · rcases set_get e2 with ⟨rfl, hl, z2⟩ | ⟨hj2, z2⟩
      · rw [List.getElem?_set_self (by rw [k.len]; exact hl), List.getElem?_set_ne hj] at e3
        exact absurd e3 (h5 j _ _ z)
      · rw [List.getElem?_set_ne hj, List.getElem?_set_ne hj2] at e3
        exact k.sep j j' _ _ _ _ z z2 e3
  · rcases set_get e with ⟨_, _, z⟩ | ⟨hj, z⟩
    · cases z
    · exact ⟨z, List.getElem?_set_ne hj⟩
def sSet (i : Nat) (f : Ef) : Sf := fun env => (f env).map fun r => .nx (r.2.set i (.val r.1))
def sSetO (i : Nat) (f : Lf) : Sf := fun env => (f env).map fun r => .nx (r.2.set i (.own true r.1))
theorem rs_set {t : TE} (i : Nat) (h2 : RE K t fe) : RS K (tAsg t (gName i)) (sSet i fe) := fun G F env s H o k e E q => by
  unfold sSet at e
  obtain ⟨⟨d, e1⟩, h3, e⟩ := Option.map_eq_some_iff.mp e
  cases e
  exact h2 G F env s H d e1 k h3 _ fun F1 H1 v k1 s1 p1 => q F1 _ H1 (ok_set k1 p1) s1
theorem rs_setO {t : TE} {fl : Lf} (i : Nat) (h2 : RN K t fl) : RS K (tAsg t (gName i)) (sSetO i fl) := fun G F env s H o k e E q => by
  unfold sSetO at e
  obtain ⟨⟨d, e1⟩, h3, e⟩ := Option.map_eq_some_iff.mp e
  cases e
  exact h2 G F env s H d e1 k h3 _ fun F1 H1 p vs k1 s1 h1 h2 h3 h4 h5 h6 => q F1 _ H1 (ok_setO k1 h1 h2 h3 h4 h5 h6) s1
theorem xs_set (i : Nat) {x : Str} {pos' : Pos} (he : XE X e fe) (hN : X.N.Nodup) (hi : X.N[i]? = some x := by rfl) (hx : Loc X.env.scope x := by first | exact Or.inl rfl | exact Or.inr rfl) (hs : swapsWith e (some (.Name x pos')) pos.line X.env = pure false := by rfl)
    (hf : X.fn x = true ∨ X.env.scope.names.lookup x = some .local := by first | exact .inl rfl | exact .inr rfl | assumption) : XS X (.Assign [.Name x pos'] e pos) (sSet i fe) :=
  let ⟨_, h1, h2⟩ := he.ex; ⟨_, ps_set hN hi hx h1 hs hf, rs_set i h2⟩
theorem xs_setO (i : Nat) {x : Str} {pos' : Pos} {fl : Lf} (he : XN X e fl) (hN : X.N.Nodup) (hi : X.N[i]? = some x := by rfl) (hx : Loc X.env.scope x := by first | exact Or.inl rfl | exact Or.inr rfl) (hs : swapsWith e (some (.Name x pos')) pos.line X.env = pure false := by rfl)
    (hf : X.fn x = true ∨ X.env.scope.names.lookup x = some .local := by first | exact .inl rfl | exact .inr rfl | assumption) : XS X (.Assign [.Name x pos'] e pos) (sSetO i fl) :=
  let ⟨_, h1, h2⟩ := he.ex; ⟨_, ps_set hN hi hx h1 hs hf, rs_setO i h2⟩

/-! ### targets -/
abbrev Tf := D → En → Option En
def RG (K : Frg) (t : TG) (g : Tf) (sl : List Nat) : Prop := ∀ G F env s H v d env', Ok K G F env s H → Dt F v d → g d env = some env' → ∀ Q : L2.St → Hp → Prop,
  (∀ s', Ok K G F env' s' H → (∀ vs : List Nat, (∀ i ∈ sl, i ∈ vs) → wipe s' vs = wipe s vs) → Q s' H) → t v s H Q
def RGs (K : Frg) (t : TGs) (g : List D → En → Option En) (sl : List Nat) : Prop := ∀ G F env s H vs ds env', Ok K G F env s H → Da F vs ds → g ds env = some env' → ∀ Q : L2.St → Hp → Prop,
  (∀ s', Ok K G F env' s' H → (∀ vs : List Nat, (∀ i ∈ sl, i ∈ vs) → wipe s' vs = wipe s vs) → Q s' H) → t vs s H Q
structure XG (X : Cx) (tg : Expr) (g : Tf) (sl : List Nat) : Prop where
  ex : ∃ t, PG X tg t ∧ RG X.K t g sl
structure XGs (X : Cx) (tgs : List Expr) (g : List D → En → Option En) (sl : List Nat) : Prop where
  ex : ∃ t, PGs X tgs t ∧ RGs X.K t g sl
theorem wipe_get (s : L2.St) : ∀ (vs : List Nat) (j : Nat), (wipe s vs)[j]? = if j ∈ vs ∧ j < s.length then some none else s[j]?
  | [], j => by simp [wipe]
  | v :: vs, j => by
    unfold wipe
    by_cases hj : v = j
    · subst hj
      by_cases hl : v < s.length
      · rw [List.getElem?_set_self (by rw [wipe_length]; exact hl)]
        simp [hl]
      · rw [List.getElem?_eq_none (by rw [List.length_set, wipe_length]; omega), List.getElem?_eq_none (by omega)]
        simp [hl]
    · rw [List.getElem?_set_ne hj, wipe_get s vs j]
      have : ¬ j = v := fun e => hj e.symm
      simp [this]
theorem wipe_set {s : L2.St} {i : Nat} {x : Option V} {vs : List Nat} (h : i ∈ vs) : wipe (s.set i x) vs = wipe s vs := by
  refine List.ext_getElem? fun j => ?_
  rw [wipe_get, wipe_get, List.length_set]
  by_cases hj : j ∈ vs ∧ j < s.length
  · rw [if_pos hj, if_pos hj]
  · rw [if_neg hj, if_neg hj]
    by_cases hi : i = j
    · subst hi
      have : ¬ i < s.length := fun z => hj ⟨h, z⟩
      rw [List.getElem?_eq_none (by simp; omega), List.getElem?_eq_none (by omega)]
    · rw [List.getElem?_set_ne hi]
def tN (i : Nat) : Tf := fun d env => some (env.set i (.val d))
theorem xg_name (i : Nat) {x : Str} (hN : X.N.Nodup) (hi : X.N[i]? = some x := by rfl) (hx : Loc X.env.scope x := by first | exact Or.inl rfl | exact Or.inr rfl) (hf : X.fn x = true ∨ X.env.scope.names.lookup x = some .local := by first | exact .inl rfl | exact .inr rfl | assumption) : XG X (.Name x pos) (tN i) [i] :=
  ⟨_, pg_name hN hi hx hf, fun G F env s H v d env' k p e Q q => by
    cases e
    exact q _ (ok_set k p) fun vs h => wipe_set (h i (by simp))⟩
def gsN : List D → En → Option En := fun ds env => match ds with
  | [] => some env
  | _ => none
def gsC (g : Tf) (r : List D → En → Option En) : List D → En → Option En := fun ds env => match ds with
  | d :: ds => (g d env).bind (r ds)
  | [] => none
theorem xgs_nil : XGs X [] gsN [] := ⟨_, pgs_nil, fun G F env s H vs ds env' k p e Q q => by
  unfold gsN at e
  split at e
  · cases p; cases e; exact ⟨rfl, q s k fun _ _ => rfl⟩
  · cases e⟩
theorem xgs_cons {es : List Expr} {g : Tf} {r : List D → En → Option En} {s1 s2 : List Nat} (h1 : XG X e g s1) (h2 : XGs X es r s2) (hs : (assignEach (e :: es) X.env).map (·.2) = assign e X.env :: (assignEach es X.env).map (·.2) := by rfl) : XGs X (e :: es) (gsC g r) (s1 ++ s2) := by
  obtain ⟨t, p1, q1⟩ := h1.ex
  obtain ⟨u, p2, q2⟩ := h2.ex
  refine ⟨_, pgs_cons p1 p2 hs, fun G F env s H vs ds env' k p e Q q => ?_⟩
  cases p with
  | nil => cases e
  | cons pa pb =>
    obtain ⟨env1, h3, h4⟩ := Option.bind_eq_some_iff.mp (show (g _ env).bind (r _) = some env' from e)
    refine ⟨_, _, rfl, q1 G F env s H _ _ env1 k pa h3 _ fun s1' k1 w1 => ?_⟩
    exact q2 G F env1 s1' H _ _ env' k1 pb h4 Q fun s2' k2 w2 => q s2' k2 fun vs hv => (w2 vs fun i hi => hv i (List.mem_append_right _ hi)).trans (w1 vs fun i hi => hv i (List.mem_append_left _ hi))
def tT (n : Nat) (r : List D → En → Option En) : Tf := fun d env => match d with
  | .tuple ds => if ds.length = n then r ds env else none
  | _ => none
theorem xg_tup {es : List Expr} {k : Nat} {r : List D → En → Option En} {sl : List Nat} {n : Nat} (h : XGs X es r sl) (hc : X.calm = true := by rfl) (hn : (assignEach es X.env).length = n := by rfl) (hst : (assignEach es X.env).findIdx? (·.1) = none := by rfl) : XG X (.Tuple es k pos) (tT n r) sl := by
  obtain ⟨t, p1, q1⟩ := h.ex
  refine ⟨_, pg_tup hc p1 hn hst, fun G F env s H v d env' k p e Q q => ?_⟩
  cases p with
  | tup a b =>
    unfold tT at e
    dsimp only at e
    split at e
    · rename_i hl
      exact ⟨_, _, rfl, SqT.of (k.fr _ _ a), by rw [b.length]; exact hl, q1 G F env s H _ _ env' k b e Q q⟩
    · cases e
  | _ => cases e
def sAsg (f : Ef) (g : Tf) : Sf := fun env => (f env).bind fun r => (g r.1 r.2).map .nx
theorem xs_asg {tg : Expr} {g : Tf} {sl : List Nat} (he : XE X e fe) (hg : XG X tg g sl) (hs : swapsWithSole [tg] e pos.line X.env = pure false := by rfl) (hw : swappedStores [tg] e X.env = pure none := by rfl)
    (h1 : (assignEach [tg] X.env).map (·.2) = [assign tg X.env] := by rfl) : XS X (.Assign [tg] e pos) (sAsg fe g) := by
  obtain ⟨t, p1, q1⟩ := he.ex
  obtain ⟨u, p2, q2⟩ := hg.ex
  refine ⟨_, ps_asg p1 p2 hs hw h1, fun G F env s H o k e E q => ?_⟩
  unfold sAsg at e
  obtain ⟨⟨d, e1⟩, h3, e⟩ := Option.bind_eq_some_iff.mp e
  obtain ⟨e2, h4, e⟩ := Option.map_eq_some_iff.mp e
  cases e
  refine q1 G F env s H d e1 k h3 _ fun F1 H1 v k1 s1 pd => ?_
  exact q2 G F1 e1 s H1 v d e2 k1 pd h4 _ fun s' k2 _ => q F1 s' H1 k2 s1
/-- a, b = x, y -/
def sPar (i j : Nat) (g : Lf) : Sf := fun env => (g env).bind fun r => match r.1 with
  | [d, e] => some (.nx ((r.2.set i (.val d)).set j (.val e)))
  | _ => none
/-! ### lists that the def owns: changed in place -/
theorem ok_mut {G : Gm} {F : Hp} {env : En} {s : L2.St} {H : Hp} {i : Nat} {l : Bool} {ds es : List D} {a : Addr} {us : List V} (k : Ok K G F env s H) (h : env[i]? = some (.own l ds)) (ha : s[i]? = some (some (.ref a))) (q : Da F us es) :
    Ok K G F (env.set i (.own l es)) s (upd H a (.lst us)) := by
  obtain ⟨b, vs, h1, h2, h3, h4, h5, h6⟩ := k.own i l ds h
  rw [ha] at h1
  cases h1
  have hi : i < env.length := (List.getElem?_eq_some_iff.mp h).1
  have nf : ∀ c o, F c = some o → c ≠ a := fun c o e z => by subst z; rw [h3] at e; cases e
  refine ⟨by simp [k.len], fun c o e => by rw [upd_ne (nf c o e)]; exact k.fr c o e, fun j d e => ?_, fun j m fs e => ?_, fun j fs e => ?_, fun j j' m fs n gs e1 e2 e3 => ?_, fun c o e => ?_, fun c e => ?_, k.grow, k.new, k.rin, k.dct.move (fun _ _ e => e) (fun j w kvs e => ?_) fun c es' g1 g2 g3 g4 _ => ⟨?_, g2, g3, g4⟩⟩
  · rcases set_get e with ⟨_, _, z⟩ | ⟨hj, z⟩
    · cases z
    · exact k.val j d z
  · rcases set_get e with ⟨rfl, _, z⟩ | ⟨hj, z⟩
    · cases z
      exact ⟨a, us, ha, upd_same, h3, h4, q, h6⟩
    · obtain ⟨c, ws, g1, g2, g3⟩ := k.own j m fs z
      have ne : c ≠ a := fun w => by subst w; exact hj (k.sep i j _ _ _ _ h z (ha.trans g1.symm))
      exact ⟨c, ws, g1, by rw [upd_ne ne]; exact g2, g3⟩
  · rcases set_get e with ⟨_, _, z⟩ | ⟨hj, z⟩
    · cases z
    · exact k.ro j fs z
  · have bk : ∀ (j : Nat) m fs, (env.set i (.own l es))[j]? = some (.own m fs) → ∃ gs, env[j]? = some (.own m gs) := fun j m fs e => by
      rcases set_get e with ⟨rfl, _, z⟩ | ⟨hj, z⟩
      · cases z; exact ⟨_, h⟩
      · exact ⟨_, z⟩
    obtain ⟨f1, g1⟩ := bk j m fs e1
    obtain ⟨f2, g2⟩ := bk j' n gs e2
    exact k.sep j j' _ _ _ _ g1 g2 e3
  · have ne : c ≠ a := fun z => by subst z; rw [h4] at e; cases e
    rw [upd_ne ne]; exact k.pin c o e
  · by_cases hc : c = a
    · subst hc; rw [upd_same] at e; cases e
    · rw [upd_ne hc] at e; exact k.dom c e
  · rcases set_get e with ⟨_, _, z⟩ | ⟨hj, z⟩
    · cases z
    · exact ⟨z, rfl⟩
  · have ne : c ≠ a := fun z => by subst z; rw [h2] at g1; cases g1
    rw [upd_ne ne]; exact g1
/-- xs.m(e), xs the def's own list: what it becomes and what is told -/
def isOwn (env : En) (i : Nat) : Bool := match env[i]? with
  | some (.own _ _) => true
  | _ => false
def isDct (env : En) (i : Nat) : Bool := match env[i]? with
  | some (.dct _ _) => true
  | _ => false
theorem isOwn_some {env : En} {i : Nat} (h : isOwn env i = true) : ∃ l ds, env[i]? = some (.own l ds) := by
  unfold isOwn at h
  split at h
  · rename_i l ds e; exact ⟨l, ds, e⟩
  · cases h
def eMut (g : List D → D → Option (List D × D)) (i : Nat) (f : Ef) : Ef := fun env => if isOwn env i then (f env).bind fun r => match r.2[i]? with
  | some (.own l ds) => (g ds r.1).map fun q => (q.2, r.2.set i (.own l q.1))
  | _ => none
  else none
def eMut0 (g : List D → Option (List D × D)) (i : Nat) : Ef := fun env => match env[i]? with
  | some (.own l ds) => (g ds).map fun q => (q.2, env.set i (.own l q.1))
  | _ => none
def GM (r : V → List V → Hp → VK → Prop) (g : List D → D → Option (List D × D)) : Prop := ∀ F a vs ds y d es z H, Same F H → H a = some (.lst vs) → Da F vs ds → Dt F y d → g ds d = some (es, z) → ∀ Q : VK,
  (∀ us v, Da F us es → Dt F v z → Q v (upd H a (.lst us))) → r (.ref a) [y] H Q
def GM0 (r : V → List V → Hp → VK → Prop) (g : List D → Option (List D × D)) : Prop := ∀ F a vs ds es z H, Same F H → H a = some (.lst vs) → Da F vs ds → g ds = some (es, z) → ∀ Q : VK,
  (∀ us v, Da F us es → Dt F v z → Q v (upd H a (.lst us))) → r (.ref a) [] H Q
theorem re_mut {i : Nat} {r : V → List V → Hp → VK → Prop} {g : List D → D → Option (List D × D)} {tb : TE} (hg : GM r g) (h2 : RE K tb fb) : RE K (tBM K "list" r (tVar i) (tCons tb tNil)) (eMut g i fb) := fun G F env s H d env' k e Q q => by
  unfold eMut at e
  split at e
  · rename_i h0
    obtain ⟨l0, ds0, h0⟩ := isOwn_some h0
    obtain ⟨a, vs0, hv, hH, _⟩ := k.own i l0 ds0 h0
    obtain ⟨⟨d1, e1⟩, h1, e⟩ := Option.bind_eq_some_iff.mp e
    dsimp only at e
    split at e
    · rename_i l ds h3
      obtain ⟨⟨es, z⟩, h4, e⟩ := Option.map_eq_some_iff.mp e
      cases e
      refine ⟨_, hv, .inl ⟨rfl, _, SqL.of hH⟩, ?_⟩
      refine h2 G F env s H d1 e1 k h1 _ fun F1 H1 v1 k1 s1 p1 => ?_
      obtain ⟨b, vs, g1, g2, g3, g4, g5, g6⟩ := k1.own i l ds h3
      rw [hv] at g1
      cases g1
      exact hg F1 a vs ds v1 d1 es z H1 k1.fr g2 g5 p1 h4 Q fun us v pu pv => q F1 _ v (ok_mut k1 h3 hv pu) s1 pv
    · cases e
  · cases e
theorem re_mut0 {i : Nat} {r : V → List V → Hp → VK → Prop} {g : List D → Option (List D × D)} (hg : GM0 r g) : RE K (tBM0 K "list" r (tVar i)) (eMut0 g i) := fun G F env s H d env' k e Q q => by
  unfold eMut0 at e
  split at e
  · rename_i l ds h3
    obtain ⟨⟨es, z⟩, h4, e⟩ := Option.map_eq_some_iff.mp e
    cases e
    obtain ⟨a, vs, hv, hH, g3, g4, g5, g6⟩ := k.own i l ds h3
    refine ⟨_, hv, .inl ⟨rfl, _, SqL.of hH⟩, ?_⟩
    exact hg F a vs ds es z H k.fr hH g5 h4 Q fun us v pu pv => q F _ v (ok_mut k h3 hv pu) (Same.refl F) pv
  · cases e
def mAppend : List D → D → Option (List D × D) := fun ds d => if fits (ds.length + 1) then some (ds ++ [d], .none) else none
theorem gm_append : GM rAppend mAppend := fun F a vs ds y d es z H _ h p py e Q q => by
  unfold mAppend at e
  split at e
  · rename_i hf
    cases e
    have := fits_line hf
    exact ⟨a, vs, y, rfl, rfl, h, by rw [p.length]; omega, q _ _ (p.append (.cons py .nil)) .non⟩
  · cases e
def mExtend : List D → D → Option (List D × D) := fun ds d => match d with
  | .list es => if fits (ds.length + es.length) then some (ds ++ es, .none) else none
  | _ => none
def mPop : List D → Option (List D × D) := fun ds => match ds[ds.length - 1]? with
  | some d => some (ds.dropLast, d)
  | none => none
theorem Da.dropLast {F : Hp} {ds : List D} {vs : List V} (h : Da F vs ds) : Da F vs.dropLast ds.dropLast := by
  rw [List.dropLast_eq_take, List.dropLast_eq_take, h.length]
  exact h.take _
theorem gm_pop : GM0 rPop mPop := fun F a vs ds es z H _ h p e Q q => by
  unfold mPop at e
  split at e
  · rename_i d hd
    cases e
    obtain ⟨v, h1, h2⟩ := p.get hd
    exact ⟨a, vs, v, rfl, rfl, h, by rw [p.length]; exact h1, q _ _ p.dropLast h2⟩
  · cases e
def mPopAt : List D → D → Option (List D × D) := fun ds d => match d with
  | .int i => if decide (-(2 ^ 63) ≤ i) && decide (i < 2 ^ 63) then (seqIndex? i ds.length).bind fun k => (ds[k]?).map fun z => (ds.eraseIdx k, z) else none
  | _ => none
theorem gm_popAt : GM rPopAt mPopAt := fun F a vs ds y d es z H _ h p py e Q q => by
  unfold mPopAt at e
  split at e
  · split at e
    · rename_i hf
      simp only [Bool.and_eq_true, decide_eq_true_eq] at hf
      obtain ⟨k, h1, e⟩ := Option.bind_eq_some_iff.mp e
      obtain ⟨w, h2, e⟩ := Option.map_eq_some_iff.mp e
      cases e
      cases py
      obtain ⟨v, h3, h4⟩ := p.get h2
      exact ⟨a, vs, _, k, v, rfl, rfl, h, hf.1, hf.2, by rw [p.length]; exact h1, h3, q _ _ (p.erase k) h4⟩
    · cases e
  · cases e
section
variable {x : Str} {p2 : Pos} {pos apos : Pos} {name : Str} {id : String}
theorem xe_mut (i : Nat) {r : V → List V → Hp → VK → Prop} {g : List D → D → Option (List D × D)} (slot : Slot "list" name id) (hty : typeOf (.builtin id) = pure (.type "method_descriptor")) (hm : MtR X id r) (hg : GM r g) (ha : XE X e fe) (hN : X.N[i]? = some x := by rfl) (hv : Vis X.env.scope x := by first | exact Or.inl rfl | exact Or.inr (Or.inl rfl) | exact Or.inr (Or.inr rfl))
    (hd : (x == ("__debug__" : Str)) = false := by decide) (hcd : (x == ("__classdict__" : Str)) = false := by decide)
    (hbase : attributeBase (.Name x p2) name X.env (eval (.Name x p2) X.env) = eval (.Name x p2) X.env := by rfl)
    (hfew : ((backTo pos (starEach [e] X.env)).all (fun x => !x.1) && (backToKw pos (keywordEach [] X.env)).all (fun x => x.1.isSome)
      && decide (([e] : List Expr).length + ([] : List Keyword).length + (if ([] : List Keyword).isEmpty then 0 else 1) < 30)) = true := by rfl)
    (hline : (apos.endLine == pos.line) = true := by rfl) (hs : starEach [e] X.env = (false, eval e X.env) :: starEach [] X.env := by rfl) (hplain : (backTo pos (starEach [] X.env)).any (·.1) = false := by rfl) :
    XE X (.Call (.Attribute (.Name x p2) name apos) [e] [] pos) (eMut g i fe) :=
  let ⟨_, h1, h2⟩ := ha.ex; ⟨_, pe_bm PySem.F.plainAttrs_list slot hty hm (pe_var hN hv hd hcd) (pa_cons h1 pa_nil hs) hbase hfew hline hs hplain, re_mut hg h2⟩
theorem xe_mut0 (i : Nat) {r : V → List V → Hp → VK → Prop} {g : List D → Option (List D × D)} (slot : Slot "list" name id) (hty : typeOf (.builtin id) = pure (.type "method_descriptor")) (hm : MtR X id r) (hg : GM0 r g) (hN : X.N[i]? = some x := by rfl) (hv : Vis X.env.scope x := by first | exact Or.inl rfl | exact Or.inr (Or.inl rfl) | exact Or.inr (Or.inr rfl))
    (hd : (x == ("__debug__" : Str)) = false := by decide) (hcd : (x == ("__classdict__" : Str)) = false := by decide)
    (hbase : attributeBase (.Name x p2) name X.env (eval (.Name x p2) X.env) = eval (.Name x p2) X.env := by rfl) (hline : (apos.endLine == pos.line) = true := by rfl) :
    XE X (.Call (.Attribute (.Name x p2) name apos) [] [] pos) (eMut0 g i) :=
  ⟨_, pe_bm0 PySem.F.plainAttrs_list slot hty hm (pe_var hN hv hd hcd) hbase hline, re_mut0 hg⟩
end
/-- xs[k] = e -/
def sPut (i : Nat) (fk fe : Ef) : Sf := fun env => (fe env).bind fun r => (fk r.2).bind fun q => match q.1, q.2[i]? with
  | .int k, some (.own l ds) => (ixN ds.length k).map fun j => .nx (q.2.set i (.own l (ds.set j r.1)))
  | _, _ => none
theorem rs_put {i : Nat} {te tk : TE} (h1 : RE K te fe) (h2 : RE K tk fa) : RS K (tAsg te (L2.gSub (tVar i) tk rSetL)) (fun env => if isOwn env i then sPut i fa fe env else none) := fun G F env s H o k e E q => by
  dsimp only at e
  split at e
  · rename_i h0
    obtain ⟨l0, ds0, h0⟩ := isOwn_some h0
    obtain ⟨a, vs0, hv, hH, _⟩ := k.own i l0 ds0 h0
    unfold sPut at e
    obtain ⟨⟨d1, e1⟩, h3, e⟩ := Option.bind_eq_some_iff.mp e
    obtain ⟨⟨d2, e2⟩, h4, e⟩ := Option.bind_eq_some_iff.mp e
    dsimp only at e
    split at e
    · rename_i _ _ kk l ds h5
      obtain ⟨j, h6, e⟩ := Option.map_eq_some_iff.mp e
      cases e
      refine h1 G F env s H d1 e1 k h3 _ fun F1 H1 v1 k1 s1 p1 => ?_
      refine ⟨_, hv, ?_⟩
      refine h2 G F1 e1 s H1 _ e2 k1 h4 _ fun F2 H2 v2 k2 s2 p2 => ?_
      obtain ⟨b, vs, g1, g2, g3, g4, g5, g6⟩ := k2.own i l ds h5
      rw [hv] at g1
      cases g1
      cases p2
      refine ⟨a, vs, kk, j, rfl, rfl, g2, by rw [g5.length]; exact h6, ?_⟩
      exact q F2 s _ (ok_mut k2 h5 hv (g5.set (Dt.mono s2 d1 v1 p1) j)) (s1.trans s2)
    · cases e
  · cases e
def sPutI (i : Nat) (fk fe : Ef) : Sf := fun env => if isOwn env i then sPut i fk fe env else none
theorem xs_put (i : Nat) {x : Str} {p2 p3 : Pos} {ke : Expr} (he : XE X e fe) (hk : XE X ke fa) (hN : X.N[i]? = some x := by rfl) (hv : Vis X.env.scope x := by first | exact Or.inl rfl | exact Or.inr (Or.inl rfl) | exact Or.inr (Or.inr rfl))
    (hd : (x == ("__debug__" : Str)) = false := by decide) (hcd : (x == ("__classdict__" : Str)) = false := by decide) (hs : swapsWithSole [.Subscript (.Name x p2) ke p3] e pos.line X.env = pure false := by rfl) (hw : swappedStores [.Subscript (.Name x p2) ke p3] e X.env = pure none := by rfl)
    (h1 : (assignEach [.Subscript (.Name x p2) ke p3] X.env).map (·.2) = [assign (.Subscript (.Name x p2) ke p3) X.env] := by rfl)
    (ha : ∀ v, assign (.Subscript (.Name x p2) ke p3) X.env v = (do
      let ov ← holding [v] (eval (.Name x p2) X.env)
      let iv ← holding [v, ov] (eval ke X.env)
      standAt p3
      holding [v, ov, iv] (setItem ov iv v)
      release [v, ov, iv] []) := by intro _; rfl) : XS X (.Assign [.Subscript (.Name x p2) ke p3] e pos) (sPutI i fa fe) :=
  let ⟨_, g1, g2⟩ := he.ex; let ⟨_, g3, g4⟩ := hk.ex
  ⟨_, ps_asg g1 (pg_sub (pe_var hN hv hd hcd) g3 set_list ha) hs hw h1, rs_put g2 g4⟩
end
end M

namespace M
open PySem PySem.Spec PyProof.Rows L2

/-! ### what is walked -/
def Wk (K : Frg) (P : Hp) (J : It) (F0 : Hp) (ds : List D) : Prop := ∃ (Gp : Hp → Prop) (Y : Nat → Hp → V → Hp → Prop), Walk J ds.length Gp Y ∧
  (∀ G F env s H, Same P G.R → Ok K G F env s H → Same F0 F → Gp H) ∧
  (∀ i H x H' G F env s, i < ds.length → Same P G.R → Ok K G F env s H → Same F0 F → Y i H x H' → ∃ F', Ok K G F' env s H' ∧ Same F F' ∧ (∀ a o, H a = some o → H' a = some o) ∧ ∃ d, ds[i]? = some d ∧ Dt F' x d)
def RI (K : Frg) (wi : TI) (f : Lf) : Prop := ∀ G F env s H ds env', Ok K G F env s H → f env = some (ds, env') → ∀ R : It → Hp → Prop, (∀ F' H' J, Ok K G F' env' s H' → Same F F' → Wk K G.R J F' ds → R J H') → wi s H R
structure XI (X : Cx) (tg iter : Expr) (f : Lf) : Prop where
  ex : ∃ wi, PI X tg iter wi ∧ RI X.K wi f
theorem wk_list {K : Frg} {P F0 : Hp} {a : Addr} {vs : List V} {ds : List D} (h1 : ∀ G F env s H, Same P G.R → Ok K G F env s H → Same F0 F → SqL K H a vs) (h2 : Da F0 vs ds) : Wk K P (Itl K a) F0 ds :=
  ⟨_, _, by rw [← h2.length]; exact walk_list, h1, fun i H x H' G F env s hi hp k e y => by
    obtain ⟨rfl, hx⟩ := y
    obtain ⟨d, h3, h4⟩ := h2.get' hx
    exact ⟨F, k, Same.refl F, fun _ _ h => h, d, h3, Dt.mono e _ _ h4⟩⟩
theorem wk_tup {K : Frg} {P F0 : Hp} {a : Addr} {vs : List V} {ds : List D} (h1 : F0 a = some (.tup vs)) (h2 : Da F0 vs ds) : Wk K P (Itt K a) F0 ds :=
  ⟨_, _, by rw [← h2.length]; exact walk_tup, fun G F env s H _ k e => SqT.of (k.fr _ _ (e _ _ h1)), fun i H x H' G F env s hi hp k e y => by
    obtain ⟨rfl, hx⟩ := y
    obtain ⟨d, h3, h4⟩ := h2.get' hx
    exact ⟨F, k, Same.refl F, fun _ _ h => h, d, h3, Dt.mono e _ _ h4⟩⟩
def signs (x : Str) : List D := x.cps.toList.map fun c => .str ⟨#[c]⟩
theorem wk_str {K : Frg} {P F0 : Hp} {x : Str} : Wk K P (Its x) F0 (signs x) :=
  ⟨_, _, by
    have : (signs x).length = x.cps.size := by simp [signs]
    rw [this]; exact walk_str, fun _ _ _ _ _ _ _ _ => trivial, fun i H y H' G F env s hi hp k e q => by
    obtain ⟨rfl, c, h1, rfl⟩ := q
    refine ⟨F, k, Same.refl F, fun _ _ h => h, .str ⟨#[c]⟩, ?_, .str _⟩
    unfold signs
    rw [List.getElem?_map, Array.getElem?_toList, h1]
    rfl⟩
def irange (lo : Int) (n : Nat) : List D := (List.range n).map fun (i : Nat) => PyData.int (lo + (i : Int))
theorem wk_range {K : Frg} {P F0 : Hp} {lo : Int} {n : Nat} : Wk K P (Itr lo n) F0 (irange lo n) :=
  ⟨_, _, by
    have : (irange lo n).length = n := by simp [irange]
    rw [this]; exact walk_range, fun _ _ _ _ _ _ _ _ => trivial, fun i H y H' G F env s hi hp k e q => by
    obtain ⟨rfl, rfl⟩ := q
    refine ⟨F, k, Same.refl F, fun _ _ h => h, .int (lo + (i : Int)), ?_, .int _⟩
    have hi' : i < n := by simpa [irange] using hi
    unfold irange
    rw [List.getElem?_map, List.getElem?_range hi']
    rfl⟩
/-- pairs, each a new tuple -/
def pairs (xs ys : List D) : List D := (xs.zip ys).map fun p => .tuple [p.1, p.2]
theorem wk_pair {K : Frg} {P F0 : Hp} {J : It} {n : Nat} {Gp : Hp → Prop} {f g : Nat → Option V} {xs ys : List D} (w : Walk J n Gp (YPair f g)) (hn : n = min xs.length ys.length) (hG : ∀ G F env s H, Same P G.R → Ok K G F env s H → Same F0 F → Gp H)
    (hx : ∀ i v, i < n → f i = some v → ∃ d, xs[i]? = some d ∧ Dt F0 v d) (hy : ∀ i v, i < n → g i = some v → ∃ d, ys[i]? = some d ∧ Dt F0 v d) : Wk K P J F0 (pairs xs ys) :=
  ⟨_, _, by
    have : (pairs xs ys).length = n := by simp [pairs, hn]
    rw [this]; exact w, hG, fun i H v H' G F env s hi hp k e q => by
    have hi' : i < n := by simp [pairs] at hi; omega
    obtain ⟨T, x, y, rfl, hT, rfl, h1, h2⟩ := q
    obtain ⟨d1, h3, h4⟩ := hx i x hi' h1
    obtain ⟨d2, h5, h6⟩ := hy i y hi' h2
    have se : Same F (upd F T (.tup [x, y])) := same_upd (k.fr.free hT)
    refine ⟨_, k.alloc hT, se, fun a o h => same_upd hT a o h, .tuple [d1, d2], ?_, .tup upd_same (.cons (Dt.mono (e.trans se) _ _ h4) (.cons (Dt.mono (e.trans se) _ _ h6) .nil))⟩
    unfold pairs
    rw [List.getElem?_map, (List.getElem?_zip_eq_some (z := (d1, d2))).mpr ⟨h3, h5⟩]
    rfl⟩
section
variable {X : Cx} {tg e a b : Expr} {fe fa fb : Ef} {f g : Sf} {pos : Pos} {K : Frg}
/-- a list, a tuple, a text -/
def iSeq (K : Frg) (tl : TE) : TI := fun s H R => tl s H fun x H1 => (∃ a, x = .ref a ∧ (∃ xs, SqL K H1 a xs) ∧ R (Itl K a) H1) ∨ (∃ a, x = .ref a ∧ (∃ xs, SqT K H1 a xs) ∧ R (Itt K a) H1) ∨ ∃ z, x = .str z ∧ R (Its z) H1
theorem pi_seq {l : Expr} {tl : TE} (hl : PE X l tl) : PI X tg l (iSeq X.K tl) := by
  refine ⟨fun pins s σ H R I h => ?_⟩
  refine thn (hl.run pins s σ H _ I h) fun v s1 ⟨x, H1, I1, r1, q1⟩ => ?_
  rcases q1 with ⟨a, e, ⟨xs, hq⟩, q⟩ | ⟨a, e, ⟨xs, hq⟩, q⟩ | ⟨z, e, q⟩
  · subst e
    cases r1
    obtain ⟨its, rv, p, hz⟩ := I1.list hq
    refine wpAny_pyIter_list p.isList ?_
    refine ⟨s1.heap.objs.size, [s1.heap.objs.size], _, _, H1, rfl, I1.kept (t' := s1.toks) fun b o e => Heap.get?_push_of_some _ e, turn_list a _, ⟨_, Heap.get?_push_size _ rfl, rfl, rfl⟩, fun b hb => ?_, q⟩
    have e : b = s1.heap.objs.size := by simpa using hb
    subst e
    exact I1.fpOk (Nat.le_refl _) (I1.hok.fresh (Nat.le_refl _))
  · subst e
    cases r1
    obtain ⟨its, rv, p, hz⟩ := I1.tuple hq
    refine wpAny_pyIter_tuple (show s1.heap.IsTuple a its.toArray from p) ?_
    refine ⟨s1.heap.objs.size, [s1.heap.objs.size], _, _, H1, rfl, I1.kept (t' := s1.toks) fun b o e => Heap.get?_push_of_some _ e, turn_tuple a _, ⟨_, Heap.get?_push_size _ rfl, rfl, rfl⟩, fun b hb => ?_, q⟩
    have e : b = s1.heap.objs.size := by simpa using hb
    subst e
    exact I1.fpOk (Nat.le_refl _) (I1.hok.fresh (Nat.le_refl _))
  · subst e
    obtain ⟨t, rfl⟩ := r1
    cases ha : z.cps.all (· < 128)
    · exact wpAny_pyIter_wide ha (pi_one (tk := s1.toks) I1 _ (turn_str _ z t "str_iterator" (.inr rfl)) ⟨_, Heap.get?_push_size _ rfl, rfl, rfl⟩ q)
    · exact wpAny_pyIter_ascii ha (pi_one (tk := s1.toks) I1 _ (turn_str _ z t "str_ascii_iterator" (.inl rfl)) ⟨_, Heap.get?_push_size _ rfl, rfl, rfl⟩ q)
def lIt (f : Ef) : Lf := fun env => (f env).bind fun r => match r.1 with
  | .list ds => some (ds, r.2)
  | .tuple ds => some (ds, r.2)
  | .str x => some (signs x, r.2)
  | _ => none
theorem xi_seq (ha : XE X e fe) : XI X tg e (lIt fe) := by
  obtain ⟨t, h1, h2⟩ := ha.ex
  refine ⟨_, pi_seq h1, fun G F env s H ds env' k e R q => ?_⟩
  unfold lIt at e
  obtain ⟨⟨d, e1⟩, h3, e⟩ := Option.bind_eq_some_iff.mp e
  refine h2 G F env s H d e1 k h3 _ fun F1 H1 v k1 s1 p1 => ?_
  cases p1 with
  | lst a1 b1 =>
    cases e
    exact .inl ⟨_, rfl, ⟨_, SqL.of (k1.fr _ _ a1)⟩, q F1 H1 _ k1 s1 (wk_list (fun G F env s H _ k e => SqL.of (k.fr _ _ (e _ _ a1))) b1)⟩
  | tup a1 b1 =>
    cases e
    exact .inr (.inl ⟨_, rfl, ⟨_, SqT.of (k1.fr _ _ a1)⟩, q F1 H1 _ k1 s1 (wk_tup a1 b1)⟩)
  | str x =>
    cases e
    exact .inr (.inr ⟨_, rfl, q F1 H1 _ k1 s1 wk_str⟩)
  | _ => cases e
def smallI (i : Int) : Bool := decide (-1000000000 ≤ i) && decide (i ≤ 1000000000)
def lRng1 (f : Ef) : Lf := fun env => (f env).bind fun r => match r.1 with
  | .int n => if smallI n then some (irange 0 n.toNat, r.2) else none
  | _ => none
def lRng2 (f g : Ef) : Lf := fun env => (f env).bind fun r => (g r.2).bind fun q => match r.1, q.1 with
  | .int m, .int n => if smallI m && smallI n then some (irange m (n - m).toNat, q.2) else none
  | _, _ => none
theorem xi_rng1 {p : Pos} (ha : XE X a fa) (hm : X.mg "range" = none) (hg : Gl X "range" := by rfl) (hs : starEach [a] X.env = [(false, eval a X.env)] := by rfl) : XI X tg (.Call (.Name "range" p) [a] [] pos) (lRng1 fa) := by
  obtain ⟨t, h1, h2⟩ := ha.ex
  refine ⟨_, pi_range1 hg hm (pa_cons h1 pa_nil (by rw [hs]; rfl)) hs, fun G F env s H ds env' k e R q => ?_⟩
  unfold lRng1 at e
  obtain ⟨⟨d, e1⟩, h3, e⟩ := Option.bind_eq_some_iff.mp e
  refine h2 G F env s H d e1 k h3 _ fun F1 H1 v k1 s1 p1 => ?_
  cases p1 with
  | int n =>
    dsimp only at e
    split at e
    · rename_i hf
      cases e
      unfold smallI at hf
      simp only [Bool.and_eq_true, decide_eq_true_eq] at hf
      exact ⟨n, rfl, by omega, by omega, q F1 H1 _ k1 s1 wk_range⟩
    · cases e
  | _ => cases e
theorem xi_rng2 {p : Pos} (ha : XE X a fa) (hb : XE X b fb) (hm : X.mg "range" = none) (hg : Gl X "range" := by rfl) (hs : starEach [a, b] X.env = [(false, eval a X.env), (false, eval b X.env)] := by rfl) (hs2 : starEach [b] X.env = [(false, eval b X.env)] := by rfl) : XI X tg (.Call (.Name "range" p) [a, b] [] pos) (lRng2 fa fb) := by
  obtain ⟨t, h1, h2⟩ := ha.ex
  obtain ⟨u, h3, h4⟩ := hb.ex
  refine ⟨_, pi_range2 hg hm (pa_cons h1 (pa_cons h3 pa_nil (by rw [hs2]; rfl)) (by rw [hs, hs2])) hs hs2, fun G F env s H ds env' k e R q => ?_⟩
  unfold lRng2 at e
  obtain ⟨⟨d, e1⟩, h5, e⟩ := Option.bind_eq_some_iff.mp e
  obtain ⟨⟨d2, e2⟩, h6, e⟩ := Option.bind_eq_some_iff.mp e
  refine h2 G F env s H d e1 k h5 _ fun F1 H1 v k1 s1 p1 => ?_
  refine h4 G F1 e1 s H1 d2 e2 k1 h6 _ fun F2 H2 v2 k2 s2 p2 => ?_
  cases p1 with
  | int m =>
    cases p2 with
    | int n =>
      dsimp only at e
      split at e
      · rename_i hf
        cases e
        unfold smallI at hf
        simp only [Bool.and_eq_true, decide_eq_true_eq] at hf
        exact ⟨m, n, rfl, by omega, q F2 H2 _ k2 (s1.trans s2) wk_range⟩
      · cases e
    | _ => cases e
  | _ => cases e
def lEnum (f : Ef) : Lf := fun env => (f env).bind fun r => match r.1 with
  | .list ds => some (pairs (irange 0 ds.length) ds, r.2)
  | _ => none
theorem xi_enum {p tpos : Pos} {elts : List Expr} {kk : Nat} (ha : XE X a fa) (hm : X.mg "enumerate" = none) (hg : Gl X "enumerate" := by rfl) (hs : starEach [a] X.env = [(false, eval a X.env)] := by rfl) : XI X (.Tuple elts kk tpos) (.Call (.Name "enumerate" p) [a] [] pos) (lEnum fa) := by
  obtain ⟨t, h1, h2⟩ := ha.ex
  refine ⟨_, pi_enum hg hm (pa_cons h1 pa_nil (by rw [hs]; rfl)) hs, fun G F env s H ds env' k e R q => ?_⟩
  unfold lEnum at e
  obtain ⟨⟨d, e1⟩, h3, e⟩ := Option.bind_eq_some_iff.mp e
  refine h2 G F env s H d e1 k h3 _ fun F1 H1 v k1 s1 p1 => ?_
  cases p1 with
  | lst a1 b1 =>
    cases e
    refine ⟨_, _, rfl, SqL.of (k1.fr _ _ a1), q F1 H1 _ k1 s1 (wk_pair walk_enum (by simp [irange, b1.length]) (fun G F env s H _ k e => SqL.of (k.fr _ _ (e _ _ a1))) (fun i v hi hv => ?_) fun i v _ hv => b1.get' hv)⟩
    cases hv
    refine ⟨.int (i : Int), ?_, .int _⟩
    unfold irange
    rw [List.getElem?_map, List.getElem?_range (by rw [← b1.length]; exact hi)]
    simp
  | _ => cases e
/-! ### for -/
def forGo (g : Tf) (body : Sf) : List D → En → Option Out
  | [], env => some (.nx env)
  | d :: ds, env => (g d env).bind fun env1 => (body env1).bind fun o => match o with
    | .nx env2 => forGo g body ds env2
    | o => some o
def sFor (src : Lf) (g : Tf) (body : Sf) : Sf := fun env => (src env).bind fun r => forGo g body r.1 r.2
theorem xs_for {iter : Expr} {body : List Stmt} {src : Lf} {gt : Tf} {sl : List Nat} {fb : Sf} (hp : PassesOwn (model X.prog X.w) X.A X.env X.xe) (hi : XI X tg iter src) (hg : XG X tg gt sl) (hb : XSs X body fb) (hc : X.calm = true := by rfl)
    (hs : ∀ x, foldedSetIterable iter X.env x = pure x := by intro _; rfl) : XS X (.For tg iter body [] pos) (sFor src gt fb) := by
  obtain ⟨wi, p1, q1⟩ := hi.ex
  obtain ⟨tg', p2, q2⟩ := hg.ex
  obtain ⟨tb, p3, q3⟩ := hb.ex
  refine ⟨_, ps_for hp hc p1 p2 p3 hs, fun G F env s H o k e E q => ?_⟩
  unfold sFor at e
  obtain ⟨⟨ds, e1⟩, h1, e⟩ := Option.bind_eq_some_iff.mp e
  refine q1 G F env s H ds e1 k h1 _ fun F1 H1 J k1 s1 w => ?_
  obtain ⟨Gp, Y, w1, w2, w3⟩ := w
  refine for_it w1 (fun i s' H' => ∃ F' env', Ok X.K G F' env' s' H' ∧ Same F1 F' ∧ forGo gt fb (ds.drop i) env' = some o) ⟨F1, e1, k1, Same.refl F1, e⟩ (fun i s' H' hi ⟨F', env', k', s'', _⟩ => w2 G F' env' s' H' (Same.refl _) k' s'') (fun i x s' H' H'' hi ⟨F', env', k', s'', e'⟩ y => ?_) fun s' H' ⟨F', env', k', s'', e'⟩ => ?_
  · obtain ⟨F2, k2, s2, _, d, hd, pd⟩ := w3 i H' x H'' G F' env' s' hi (Same.refl _) k' s'' y
    have hdr : ds.drop i = d :: ds.drop (i + 1) := by
      obtain ⟨hl, hx⟩ := List.getElem?_eq_some_iff.mp hd
      rw [List.drop_eq_getElem_cons hl, hx]
    rw [hdr] at e'
    unfold forGo at e'
    obtain ⟨env2, h2, e'⟩ := Option.bind_eq_some_iff.mp e'
    obtain ⟨o2, h3, e'⟩ := Option.bind_eq_some_iff.mp e'
    refine q2 G F2 env' s' H'' x d env2 k2 pd h2 _ fun s3 k3 _ => ?_
    refine q3 G F2 env2 s3 H'' o2 k3 h3 _ ?_
    cases o2 with
    | nx env3 => exact fun F4 s4 H4 k4 s5 => ⟨F4, env3, k4, (s''.trans s2).trans s5, e'⟩
    | rt v ee =>
      cases e'
      exact (q.up (s1.trans (s''.trans s2))).same_rt rfl (by simp)
    | rn v ee =>
      cases e'
      exact (q.up (s1.trans (s''.trans s2))).same_rt rfl (by simp)
    | rp v w ee =>
      cases e'
      exact (q.up (s1.trans (s''.trans s2))).same_rt rfl (by simp)
  · rw [List.drop_length] at e'
    cases e'
    exact q F' s' H' k' (s1.trans s'')

/-! ### while -/
/-! ### list comprehensions -/
def wipeE (env : En) : List Nat → En
  | [] => env
  | v :: vs => (wipeE env vs).set v .no
def backE (old env : En) : List Nat → En
  | [] => env
  | v :: vs => match old[v]? with
    | some x => (backE old env vs).set v x
    | none => backE old env vs
def noOwn (env : En) : List Nat → Bool
  | [] => true
  | v :: vs => (!isOwn env v && !isDct env v) && noOwn env vs
def lcGo (vs : List Nat) (g : Tf) (c : Bf) (f : Ef) : List D → En → Option (List D × En)
  | [], env => some ([], env)
  | d :: ds, env => (g d env).bind fun env1 => (c env1).bind fun r => if r.1 then (f r.2).bind fun q => (lcGo vs g c f ds (wipeE q.2 vs)).map fun w => (q.1 :: w.1, w.2)
    else lcGo vs g c f ds (wipeE r.2 vs)
def lComp (src : Lf) (vs : List Nat) (g : Tf) (c : Bf) (f : Ef) : Lf := fun env => (src env).bind fun r => if noOwn r.2 vs && fits r.1.length then (lcGo vs g c f r.1 (wipeE r.2 vs)).map fun w => (w.1, backE r.2 w.2 vs) else none
theorem wipeE_length (env : En) : ∀ vs : List Nat, (wipeE env vs).length = env.length
  | [] => rfl
  | v :: vs => by unfold wipeE; rw [List.length_set, wipeE_length env vs]
theorem wipeE_get (env : En) : ∀ (vs : List Nat) (j : Nat), (wipeE env vs)[j]? = if j ∈ vs ∧ j < env.length then some .no else env[j]?
  | [], j => by simp [wipeE]
  | v :: vs, j => by
    unfold wipeE
    by_cases hj : v = j
    · subst hj
      by_cases hl : v < env.length
      · rw [List.getElem?_set_self (by rw [wipeE_length]; exact hl)]
        simp [hl]
      · rw [List.getElem?_eq_none (by rw [List.length_set, wipeE_length]; omega), List.getElem?_eq_none (by omega)]
        simp [hl]
    · rw [List.getElem?_set_ne hj, wipeE_get env vs j]
      have : ¬ j = v := fun e => hj e.symm
      simp [this]
theorem backE_length (old env : En) : ∀ vs : List Nat, (backE old env vs).length = env.length
  | [] => rfl
  | v :: vs => by
    unfold backE
    split
    · rw [List.length_set, backE_length old env vs]
    · exact backE_length old env vs
theorem backE_get (old env : En) (hl : old.length = env.length) : ∀ (vs : List Nat) (j : Nat), (backE old env vs)[j]? = if j ∈ vs then old[j]? else env[j]?
  | [], j => by simp [backE]
  | v :: vs, j => by
    unfold backE
    by_cases hj : v = j
    · subst hj
      cases hx : old[v]? with
      | some x =>
        have hv : v < old.length := (List.getElem?_eq_some_iff.mp hx).1
        simp only
        rw [List.getElem?_set_self (by rw [backE_length, ← hl]; exact hv)]
        simp
      | none =>
        simp only
        rw [backE_get old env hl vs v, hx]
        have : env[v]? = none := by rw [List.getElem?_eq_none_iff] at hx ⊢; omega
        simp [this]
    · have hn : ¬ j = v := fun e => hj e.symm
      cases hx : old[v]? with
      | some x => simp only; rw [List.getElem?_set_ne hj, backE_get old env hl vs j]; simp [hn]
      | none => simp only; rw [backE_get old env hl vs j]; simp [hn]
theorem noOwn_get {env : En} : ∀ {vs : List Nat} {j : Nat}, noOwn env vs = true → j ∈ vs → ∀ l ds, env[j]? ≠ some (.own l ds)
  | v :: vs, j, h, hj, l, ds => fun e => by
    unfold noOwn at h
    simp only [Bool.and_eq_true, Bool.not_eq_true'] at h
    rcases List.mem_cons.mp hj with rfl | hj
    · have := h.1.1
      unfold isOwn at this
      rw [e] at this; cases this
    · exact noOwn_get h.2 hj l ds e
theorem noOwn_dct {env : En} : ∀ {vs : List Nat} {j : Nat}, noOwn env vs = true → j ∈ vs → ∀ w kvs, env[j]? ≠ some (.dct w kvs)
  | v :: vs, j, h, hj, w, kvs => fun e => by
    unfold noOwn at h
    simp only [Bool.and_eq_true, Bool.not_eq_true'] at h
    rcases List.mem_cons.mp hj with rfl | hj
    · have := h.1.2
      unfold isDct at this
      rw [e] at this; cases this
    · exact noOwn_dct h.2 hj w kvs e
theorem ok_wipe {G : Gm} {F : Hp} {env : En} {s : L2.St} {H : Hp} (vs : List Nat) (k : Ok K G F env s H) : Ok K G F (wipeE env vs) (wipe s vs) H := by
  have key : ∀ {j : Nat} {x : Sl}, (wipeE env vs)[j]? = some x → x ≠ .no → env[j]? = some x ∧ (wipe s vs)[j]? = s[j]? := fun {j x} e hx => by
    rw [wipeE_get] at e
    rw [wipe_get]
    split at e
    · cases e; exact absurd rfl hx
    · rename_i hn
      exact ⟨e, by rw [k.len]; rw [if_neg hn]⟩
  refine ⟨by rw [wipe_length, wipeE_length, k.len], k.fr, fun j d e => ?_, fun j l ds e => ?_, fun j ds e => ?_, fun i j l ds m es e1 e2 e3 => ?_, k.pin, k.dom, k.grow, k.new, k.rin, k.dct.slots fun j w kvs e => key e (by simp)⟩
  · obtain ⟨h1, h2⟩ := key e (by simp)
    rw [h2]; exact k.val j d h1
  · obtain ⟨h1, h2⟩ := key e (by simp)
    rw [h2]; exact k.own j l ds h1
  · obtain ⟨h1, h2⟩ := key e (by simp)
    rw [h2]; exact k.ro j ds h1
  · obtain ⟨h1, h2⟩ := key e1 (by simp)
    obtain ⟨h3, h4⟩ := key e2 (by simp)
    rw [h2, h4] at e3
    exact k.sep i j _ _ _ _ h1 h3 e3
/-- a frame with one more pinned object -/
abbrev Gm.pin (G : Gm) (p : Addr) (o : HO) : Gm := { G with P := upd G.P p o, H0 := upd G.H0 p o }
theorem ok_pin {G : Gm} {F : Hp} {env : En} {s : L2.St} {H : Hp} {p : Addr} {o : HO} (k : Ok K G F env s H) (hp : H p = some o) (hn : ∀ (j : Nat) l es, env[j]? = some (.own l es) → s[j]? ≠ some (some (.ref p))) (hP : G.P p = none) (hF : F p = none) (hD : ∀ (j : Nat) w kvs, env[j]? = some (.dct w kvs) → s[j]? ≠ some (some (.ref p))) : Ok K (G.pin p o) F env s H := by
  refine ⟨k.len, k.fr, k.val, fun j l ds e => ?_, k.ro, k.sep, fun a u e => ?_, fun a e => ?_, k.grow, fun a u e => ?_, k.rin.trans (same_upd hP), k.dct.move (fun _ _ e => e) (fun _ _ _ e => ⟨e, rfl⟩) fun a es g1 g2 g3 g4 ⟨i, w, kvs, g5, g6⟩ => ?_⟩
  · obtain ⟨a, vs, h1, h2, h3, h4, h5, h6, h7⟩ := k.own j l ds e
    have ne : a ≠ p := fun z => by subst z; exact hn j l ds e h1
    exact ⟨a, vs, h1, h2, h3, by show upd G.P p o a = none; rw [upd_ne ne]; exact h4, h5, fun z => by show upd G.H0 p o a = none; rw [upd_ne ne]; exact h6 z, h7⟩
  · have e : upd G.P p o a = some u := e
    by_cases h : a = p
    · subst h; rw [upd_same] at e; rw [hp]; exact e
    · rw [upd_ne h] at e; exact k.pin a u e
  · show upd G.H0 p o a = none
    have ne : a ≠ p := fun z => by subst z; rw [hp] at e; cases e
    rw [upd_ne ne]; exact k.dom a e
  · rcases k.new a u e with z | z
    · exact .inl z
    · have ne : a ≠ p := fun z => by subst z; rw [hF] at e; cases e
      exact .inr (by show upd G.H0 p o a = none; rw [upd_ne ne]; exact z)
  · have ne : a ≠ p := fun z => by subst z; exact hD i w kvs g5 g6
    exact ⟨g1, g2, by show upd G.P p o a = none; rw [upd_ne ne]; exact g3, by show upd G.H0 p o a = none; rw [upd_ne ne]; exact g4⟩
theorem ok_unpin {G : Gm} {F : Hp} {env : En} {s : L2.St} {H : Hp} {p : Addr} {o : HO} (k : Ok K (G.pin p o) F env s H) (hP : G.P p = none) (h0 : G.H0 p = none) (hr : Same G.R G.P) : Ok K G F env s H := by
  have pn : ∀ a, upd G.P p o a = none → G.P a = none ∧ a ≠ p := fun a e => by
    by_cases h : a = p
    · subst h; rw [upd_same] at e; cases e
    · rw [upd_ne h] at e; exact ⟨e, h⟩
  refine ⟨k.len, k.fr, k.val, fun j l ds e => ?_, k.ro, k.sep, fun a u e => k.pin a u (same_upd hP a u e), fun a e => ?_, k.grow, fun a u e => ?_, hr, k.dct.move (fun _ _ e => e) (fun _ _ _ e => ⟨e, rfl⟩) fun a es g1 g2 g3 g4 _ => ?_⟩
  · obtain ⟨a, vs, h1, h2, h3, h4, h5, h6, h7⟩ := k.own j l ds e
    obtain ⟨h8, h9⟩ := pn a h4
    exact ⟨a, vs, h1, h2, h3, h8, h5, fun z => by have q : upd G.H0 p o a = none := h6 z; rw [upd_ne h9] at q; exact q, h7⟩
  · by_cases h : a = p
    · subst h; exact h0
    · have q : upd G.H0 p o a = none := k.dom a e
      rw [upd_ne h] at q; exact q
  · rcases k.new a u e with z | z
    · exact .inl z
    · have z : upd G.H0 p o a = none := z
      by_cases h : a = p
      · subst h; rw [upd_same] at z; cases z
      · rw [upd_ne h] at z; exact .inr z
  · obtain ⟨h8, h9⟩ := pn a g3
    exact ⟨g1, g2, h8, by have q : upd G.H0 p o a = none := g4; rw [upd_ne h9] at q; exact q⟩
/-- a pinned object is never frozen -/
theorem pin_nofrz {G : Gm} {F : Hp} {env : En} {s : L2.St} {H : Hp} {p : Addr} {o : HO} (k : Ok K (G.pin p o) F env s H) (h : G.F0 p = none) : F p = none := by
  cases hx : F p with
  | none => rfl
  | some u =>
    rcases k.new p u hx with z | z
    · have z : G.F0 p = some u := z
      rw [h] at z; cases z
    · have z : upd G.H0 p o p = none := z
      rw [upd_same] at z; cases z
theorem pin_at {G : Gm} {F : Hp} {env : En} {s : L2.St} {H : Hp} {p : Addr} {o : HO} (k : Ok K (G.pin p o) F env s H) : H p = some o := k.pin p o (by show upd G.P p o p = some o; rw [upd_same])
/-- an object that is pinned changes its content -/
theorem ok_repin {G : Gm} {F : Hp} {env : En} {s : L2.St} {H : Hp} {p : Addr} {o o' : HO} (k : Ok K (G.pin p o) F env s H) (hP : G.P p = none) (hF : F p = none) (hr : Same G.R G.P) : Ok K (G.pin p o') F env s (upd H p o') := by
  have pn : ∀ a, upd G.P p o a = none → upd G.P p o' a = none ∧ a ≠ p := fun a e => by
    by_cases h : a = p
    · subst h; rw [upd_same] at e; cases e
    · rw [upd_ne h] at e; exact ⟨by rw [upd_ne h]; exact e, h⟩
  have hn : ∀ a, upd G.H0 p o a = none → upd G.H0 p o' a = none := fun a e => by
    by_cases h : a = p
    · subst h; rw [upd_same] at e; cases e
    · rw [upd_ne h] at e ⊢; exact e
  refine ⟨k.len, fun a u e => ?_, k.val, fun j l ds e => ?_, k.ro, k.sep, fun a u e => ?_, fun a e => ?_, k.grow, fun a u e => ?_, hr.trans (same_upd hP), k.dct.move (fun _ _ e => e) (fun _ _ _ e => ⟨e, rfl⟩) fun a es g1 g2 g3 g4 _ => ?_⟩
  · have ne : a ≠ p := fun z => by subst z; rw [hF] at e; cases e
    rw [upd_ne ne]; exact k.fr a u e
  · obtain ⟨a, vs, h1, h2, h3, h4, h5, h6, h7⟩ := k.own j l ds e
    obtain ⟨h8, h9⟩ := pn a h4
    exact ⟨a, vs, h1, by rw [upd_ne h9]; exact h2, h3, h8, h5, fun z => hn a (h6 z), h7⟩
  · have e : upd G.P p o' a = some u := e
    by_cases h : a = p
    · subst h; rw [upd_same] at e ⊢; exact e
    · rw [upd_ne h] at e ⊢
      exact k.pin a u (by show upd G.P p o a = some u; rw [upd_ne h]; exact e)
  · by_cases h : a = p
    · subst h; rw [upd_same] at e; cases e
    · rw [upd_ne h] at e; exact hn a (k.dom a e)
  · rcases k.new a u e with z | z
    · exact .inl z
    · exact .inr (hn a z)
  · obtain ⟨h8, h9⟩ := pn a g3
    exact ⟨by rw [upd_ne h9]; exact g1, g2, h8, hn a g4⟩
theorem lcGo_some {vs : List Nat} {g : Tf} {c : Bf} {f : Ef} {d : D} {ds : List D} {env env' : En} {zs : List D} (e : lcGo vs g c f (d :: ds) env = some (zs, env')) :
    ∃ env1 env2, g d env = some env1 ∧ ((∃ y env3 ws, c env1 = some (true, env2) ∧ f env2 = some (y, env3) ∧ lcGo vs g c f ds (wipeE env3 vs) = some (ws, env') ∧ zs = y :: ws) ∨ (c env1 = some (false, env2) ∧ lcGo vs g c f ds (wipeE env2 vs) = some (zs, env'))) := by
  unfold lcGo at e
  obtain ⟨env1, h1, e⟩ := Option.bind_eq_some_iff.mp e
  obtain ⟨⟨b, env2⟩, h2, e⟩ := Option.bind_eq_some_iff.mp e
  cases b with
  | true =>
    rw [if_pos rfl] at e
    obtain ⟨⟨y, env3⟩, h3, e⟩ := Option.bind_eq_some_iff.mp e
    obtain ⟨⟨ws, env4⟩, h4, e⟩ := Option.map_eq_some_iff.mp e
    cases e
    exact ⟨env1, env2, h1, .inl ⟨y, env3, ws, h2, h3, h4, rfl⟩⟩
  | false =>
    rw [if_neg Bool.false_ne_true] at e
    exact ⟨env1, env2, h1, .inr ⟨h2, e⟩⟩
theorem rn_comp {wi : TI} {gt : TG} {tt : TT} {te : TE} {src : Lf} {vs : List Nat} {g : Tf} {c : Bf} {f : Ef} {sl : List Nat} (hi : RI K wi src) (hg : RG K gt g sl) (ht : RB K tt c) (he : RE K te f) (hsl : ∀ i ∈ sl, i ∈ vs) :
    RN K (tLc wi gt tt te vs) (lComp src vs g c f) := fun G F env s H zs env' k e Q q => by
  unfold lComp at e
  obtain ⟨⟨ds, e1⟩, h1, e⟩ := Option.bind_eq_some_iff.mp e
  dsimp only at e
  split at e
  · rename_i hno
    rw [Bool.and_eq_true] at hno
    have hfit := fits_line hno.2
    obtain ⟨⟨ws, e2⟩, h2, e⟩ := Option.map_eq_some_iff.mp e
    cases e
    refine hi G F env s H ds e1 k h1 _ fun F1 H1 J k1 s1 w => ?_
    obtain ⟨Gp, Y, w1, w2, w3⟩ := w
    intro L hL
    have n1 : F1 L = none := k1.fr.free hL
    have n2 : G.P L = none := k1.pin.free hL
    have n3 : G.H0 L = none := k1.dom L hL
    have nown : ∀ (j : Nat) l es, e1[j]? = some (.own l es) → s[j]? ≠ some (some (.ref L)) := k1.notown hL
    have kw := ok_wipe vs k1
    have nw : ∀ (j : Nat) l es, (wipeE e1 vs)[j]? = some (.own l es) → (wipe s vs)[j]? ≠ some (some (.ref L)) := kw.notown hL
    have nF0 : G.F0 L = none := k1.grow.free n1
    -- the state at each turn
    refine lc_it w1 (fun i H' => ∃ F' env' accV accD rest, Ok K (G.pin L (.lst accV)) F' env' (wipe s vs) H' ∧ Same F1 F' ∧ Da F' accV accD ∧ accD.length ≤ i ∧ lcGo vs g c f (ds.drop i) env' = some (rest, e2) ∧ ws = accD ++ rest) ?_ ?_ ?_ ?_
    · refine ⟨F1, wipeE e1 vs, [], [], ws, ?_, Same.refl F1, .nil, Nat.zero_le _, h2, rfl⟩
      exact ok_pin (kw.laid hL) upd_same nw n2 n1 (kw.notdctN hL)
    · rintro i H' _ ⟨F', env', accV, accD, rest, k', s', _⟩
      exact w2 (G.pin L (.lst accV)) F' env' _ H' (Same.refl _) k' s'
    · rintro i x H' H'' hin ⟨F', env', accV, accD, rest, k', s', da, hlen, e', hw⟩ y
      obtain ⟨F2, k2, s2, hh, d, hd, pd⟩ := w3 i H' x H'' (G.pin L (.lst accV)) F' env' (wipe s vs) hin (Same.refl _) k' s' y
      have hdr : ds.drop i = d :: ds.drop (i + 1) := by
        obtain ⟨hl, hx⟩ := List.getElem?_eq_some_iff.mp hd
        rw [List.drop_eq_getElem_cons hl, hx]
      rw [hdr] at e'
      obtain ⟨env1, env2, g1, h3⟩ := lcGo_some e'
      refine hg _ F2 env' (wipe s vs) H'' x d env1 k2 pd g1 _ fun s3 k3 w3' => ?_
      have hwp : wipe s3 vs = wipe (wipe s vs) vs := w3' vs hsl
      have hww : wipe (wipe s vs) vs = wipe s vs := by
        refine List.ext_getElem? fun j => ?_
        rw [wipe_get, wipe_get, wipe_length]
        by_cases hj : j ∈ vs ∧ j < s.length
        · rw [if_pos hj, if_pos hj]
        · rw [if_neg hj, if_neg hj]
      refine ⟨by rw [hwp, hww], ?_⟩
      -- a turn's end
      have again : ∀ {F5 : Hp} {env5 : En} {H5 : Hp} {acc : List V}, Ok K (G.pin L (.lst acc)) F5 env5 s3 H5 → Ok K (G.pin L (.lst acc)) F5 (wipeE env5 vs) (wipe s vs) H5 := fun {F5 env5 H5 acc} k5 => by
        have := ok_wipe vs k5
        rw [hwp, hww] at this
        exact this
      rcases h3 with ⟨yv, env3, wr, hc, hf, hr, rfl⟩ | ⟨hc, hr⟩
      · refine ht _ F2 env1 s3 H'' true env2 k3 hc _ fun F3 H3 k4 s4 => ?_
        rw [if_pos rfl]
        refine he _ F3 env2 s3 H3 yv env3 k4 hf _ fun F4 H4 v k5 s5 p5 => ?_
        have ss : Same F1 F4 := ((s'.trans s2).trans s4).trans s5
        have ss' : Same F' F4 := (s2.trans s4).trans s5
        refine ⟨accV, pin_at k5, by rw [da.length]; omega, F4, wipeE env3 vs, accV ++ [v], accD ++ [yv], wr, again (ok_repin k5 n2 (pin_nofrz k5 nF0) k1.rin), ss, (Da.mono ss' _ _ da).append (.cons p5 .nil), by simp; omega, hr, by rw [hw]; simp⟩
      · refine ht _ F2 env1 s3 H'' false env2 k3 hc _ fun F3 H3 k4 s4 => ?_
        rw [if_neg Bool.false_ne_true]
        have ss : Same F1 F3 := (s'.trans s2).trans s4
        exact ⟨F3, wipeE env2 vs, accV, accD, rest, again k4, ss, Da.mono (s2.trans s4) _ _ da, by omega, hr, hw⟩
    · rintro H' ⟨F', env', accV, accD, rest, k', s', da, hlen, e', hw⟩
      rw [List.drop_length] at e'
      cases e'
      rw [List.append_nil] at hw
      subst hw
      have ku := ok_unpin k' n2 n3 k1.rin
      have f' := pin_nofrz k' nF0
      have hLL := pin_at k'
      have hle : e1.length = e2.length := by rw [← k1.len, ← ku.len, wipe_length]
      -- the slots of the comprehension's own names are as they were
      have kb : Ok K G F' (backE e1 e2 vs) s H' := by
        have key : ∀ {j : Nat} {x : Sl}, (backE e1 e2 vs)[j]? = some x → (j ∈ vs ∧ e1[j]? = some x) ∨ (j ∉ vs ∧ e2[j]? = some x ∧ s[j]? = (wipe s vs)[j]?) := fun {j x} e => by
          rw [backE_get e1 e2 hle] at e
          by_cases hj : j ∈ vs
          · rw [if_pos hj] at e; exact .inl ⟨hj, e⟩
          · rw [if_neg hj] at e
            refine .inr ⟨hj, e, ?_⟩
            rw [wipe_get, if_neg (fun z => hj z.1)]
        refine ⟨by rw [backE_length, ← hle]; exact k1.len, ku.fr, fun j d e => ?_, fun j l es e => ?_, fun j es e => ?_, fun j j' l es m fs e1' e2' e3' => ?_, ku.pin, ku.dom, ku.grow, ku.new, ku.rin, ku.dct.slots fun j w kvs e => ?_⟩
        · rcases key e with ⟨_, h⟩ | ⟨_, h, hs⟩
          · obtain ⟨v, q1, q2⟩ := k1.val j d h
            exact ⟨v, q1, Dt.mono s' _ _ q2⟩
          · rw [hs]; exact ku.val j d h
        · rcases key e with ⟨hj, h⟩ | ⟨_, h, hs⟩
          · exact absurd h (noOwn_get hno.1 hj l es)
          · rw [hs]; exact ku.own j l es h
        · rcases key e with ⟨_, h⟩ | ⟨_, h, hs⟩
          · obtain ⟨a, us, q1, q2, q3⟩ := k1.ro j es h
            exact ⟨a, us, q1, q2, Da.mono s' _ _ q3⟩
          · rw [hs]; exact ku.ro j es h
        · rcases key e1' with ⟨hj, h⟩ | ⟨_, h, hs⟩
          · exact absurd h (noOwn_get hno.1 hj l es)
          · rcases key e2' with ⟨hj2, h2⟩ | ⟨_, h2, hs2⟩
            · exact absurd h2 (noOwn_get hno.1 hj2 m fs)
            · rw [hs, hs2] at e3'
              exact ku.sep j j' _ _ _ _ h h2 e3'
        · rcases key e with ⟨hj, h⟩ | ⟨_, h, hs⟩
          · exact absurd h (noOwn_dct hno.1 hj w kvs)
          · exact ⟨h, hs⟩
      refine q F' H' L accV kb (s1.trans s') hLL f' n3 n2 (fun j l es e z => ?_) da
      obtain ⟨a, us, q1, q2, q3, q4, _⟩ := kb.own j l es e
      rw [z] at q1
      cases q1
      -- L is pinned in the frame of the block, so none of its own lists
      rw [backE_get e1 e2 hle] at e
      by_cases hj : j ∈ vs
      · rw [if_pos hj] at e
        exact noOwn_get hno.1 hj l es e
      · rw [if_neg hj] at e
        obtain ⟨b, us', g1, g2, g3, g4, _⟩ := k'.own j l es e
        rw [wipe_get, if_neg (fun w => hj w.1)] at g1
        rw [z] at g1
        cases g1
        have g4 : upd G.P L (.lst accV) L = none := g4
        rw [upd_same] at g4; cases g4
  · cases e
end
end M

namespace M
open PySem PySem.Spec PyProof.Rows L2

/-! ### the reading that hangs on the mirror alone -/
def cE (K : Frg) (f : Ef) : TE := fun s H Q => ∃ G F env d env', Ok K G F env s H ∧ f env = some (d, env') ∧ ∀ F' H' v, Ok K G F' env' s H' → Same F F' → Dt F' v d → Q v H'
def cB (K : Frg) (f : Bf) : TT := fun s H Q => ∃ G F env d env', Ok K G F env s H ∧ f env = some (d, env') ∧ ∀ F' H', Ok K G F' env' s H' → Same F F' → Q d H'
def cG (K : Frg) (g : Tf) (sl : List Nat) : TG := fun v s H Q => ∃ G F env d env', Ok K G F env s H ∧ Dt F v d ∧ g d env = some env' ∧ ∀ s', Ok K G F env' s' H → (∀ vs : List Nat, (∀ i ∈ sl, i ∈ vs) → wipe s' vs = wipe s vs) → Q s' H
structure XTs (X : Cx) (ifs : List Expr) (c : Bf) : Prop where
  ex : ∃ t, PTs X ifs t ∧ RB X.K t c
section
variable {X : Cx} {e tg : Expr} {f : Ef} {c : Bf} {g : Tf} {sl : List Nat} {K : Frg}
theorem XE.can (h : XE X e f) : PE X e (cE X.K f) := by
  obtain ⟨t, h1, h2⟩ := h.ex
  exact ⟨fun pins s σ H Q I ⟨G, F, env, d, env', k, e, q⟩ => h1.run pins s σ H Q I (h2 G F env σ H d env' k e Q q)⟩
theorem re_can : RE K (cE K f) f := fun G F env s H d env' k e Q q => ⟨G, F, env, d, env', k, e, q⟩
def bYes : Bf := fun env => some (true, env)
theorem xts_nil : XTs X [] bYes := ⟨_, pts_nil, fun G F env s H d env' k e Q q => by cases e; exact q F H k (Same.refl F)⟩
theorem XTs.can {ifs : List Expr} (h : XTs X ifs c) : PTs X ifs (cB X.K c) := by
  obtain ⟨t, h1, h2⟩ := h.ex
  exact ⟨fun pins s σ H Q I ⟨G, F, env, d, env', k, e, q⟩ => h1.run pins s σ H Q I (h2 G F env σ H d env' k e Q q)⟩
theorem rb_can : RB K (cB K c) c := fun G F env s H d env' k e Q q => ⟨G, F, env, d, env', k, e, q⟩
theorem XG.can (h : XG X tg g sl) : PG X tg (cG X.K g sl) := by
  obtain ⟨t, h1, h2⟩ := h.ex
  exact ⟨fun pins s σ H v u Q I r ⟨G, F, env, d, env', k, p, e, q⟩ => h1.run pins s σ H v u Q I r (h2 G F env σ H v d env' k p e Q q)⟩
theorem rg_can : RG K (cG K g sl) g sl := fun G F env s H v d env' k p e Q q => ⟨G, F, env, d, env', k, p, e, q⟩

variable {elt iter : Expr} {ifs : List Expr} {scope : Scope} {own : List (Str × Nat)} {pos spos : Pos} {src : Lf}
/-- the context of a comprehension's block -/
abbrev Blk (X : Cx) (scope : Scope) (s : Shared) (H : Hp) (C : Addr) (cl : List (Str × Addr)) (fp : List Addr) : Cx := X.blk s H scope (compEnvC scope cl C X.env) fp
theorem xn_comp (hi : XI X tg iter src) (hN : X.N.Nodup) (ok : BlkOk X.N X.env.scope scope own) (hg : ∀ s H C cl fp, XG (Blk X scope s H C cl fp) tg g sl) (ht : ∀ s H C cl fp, XTs (Blk X scope s H C cl fp) ifs c) (he : ∀ s H C cl fp, XE (Blk X scope s H C cl fp) elt f)
    (hsl : ∀ i ∈ sl, i ∈ own.map (·.2) := by decide) (hc : X.calm = true := by rfl) (hs : ∀ x, foldedSetIterable iter X.env x = pure x := by intro _; rfl) : XN X (.ListComp elt [⟨tg, iter, ifs, 0⟩] scope pos) (lComp src (own.map (·.2)) g c f) := by
  obtain ⟨wi, p1, q1⟩ := hi.ex
  exact ⟨_, pe_lc hc hN p1 ok (fun s H C cl fp => (hg s H C cl fp).can) (fun s H C cl fp => (ht s H C cl fp).can) (fun s H C cl fp => (he s H C cl fp).can) hs, rn_comp q1 rg_can rb_can re_can hsl⟩
theorem xs_setCompO (i : Nat) {y : Str} {py : Pos} (hi : XI X tg iter src) (hN : X.N.Nodup) (ok : BlkOk X.N X.env.scope scope own) (hg : ∀ s H C cl fp, XG (Blk X scope s H C cl fp) tg g sl) (ht : ∀ s H C cl fp, XTs (Blk X scope s H C cl fp) ifs c) (he : ∀ s H C cl fp, XE (Blk X scope s H C cl fp) elt f)
    (hsw : swapsWith (.ListComp elt [⟨tg, iter, ifs, 0⟩] scope pos) (some (.Name y py)) spos.line X.env = pure true) (hy : X.N[i]? = some y := by rfl) (hyl : X.env.scope.names.lookup y = some .local := by rfl)
    (hsl : ∀ i ∈ sl, i ∈ own.map (·.2) := by decide) (hc : X.calm = true := by rfl) (hs : ∀ x, foldedSetIterable iter X.env x = pure x := by intro _; rfl) :
    XS X (.Assign [.Name y py] (.ListComp elt [⟨tg, iter, ifs, 0⟩] scope pos) spos) (sSetO i (lComp src (own.map (·.2)) g c f)) := by
  obtain ⟨wi, p1, q1⟩ := hi.ex
  exact ⟨_, ps_setLc hc hN hy hyl hsw p1 ok (fun s H C cl fp => (hg s H C cl fp).can) (fun s H C cl fp => (ht s H C cl fp).can) (fun s H C cl fp => (he s H C cl fp).can) hs, rs_setO i (rn_comp q1 rg_can rb_can re_can hsl)⟩
end

/-! ### a def -/
def fnRun (n np : Nat) (f : Sf) : Gf := fun args => if args.length = np then match f (args ++ List.replicate (n - np) .no) with
  | some (.nx env) => some (.none, env.take np)
  | some (.rt d env) => some (d, env.take np)
  | some (.rn ds env) => some (.list ds, env.take np)
  | some (.rp as ds env) => some (.tuple (as ++ [.list ds]), env.take np)
  | none => none
  else none
abbrev Hf := List Sl → Option (List D × List Sl)
/-- a def that hands back a new list -/
def fnNew (n np : Nat) (f : Sf) : Hf := fun args => if args.length = np then match f (args ++ List.replicate (n - np) .no) with
  | some (.rn ds env) => some (ds, env.take np)
  | _ => none
  else none
structure PostN (F H F' H' : Hp) (args args' : List Sl) (vs : List V) (p : Addr) (us : List V) (ds : List D) : Prop where
  keep : Same (minus H args vs) H'
  dom : ∀ a, H' a = none → H a = none
  grow : Same F F'
  fr : Same F' H'
  new : ∀ a o, F' a = some o → F a = some o ∨ H a = none
  at_ : H' p = some (.lst us)
  nf : F' p = none
  fresh : H p = none
  res : Da F' us ds
  own : ∀ (i : Nat) l ds, args[i]? = some (.own l ds) → ∀ ds', args'[i]? = some (.own false ds') → ∀ a, vs[i]? = some (.ref a) → ∃ us, H' a = some (.lst us) ∧ F' a = none ∧ Da F' us ds'
def spN (K : Frg) (g : Hf) : Sp := fun vs H Q _ => ∃ F args ds args', g args = some (ds, args') ∧ Same F H ∧ ArgsOk K F H args vs ∧ ∀ F' H' p us, PostN F H F' H' args args' vs p us ds → Q (.ref p) H'
def lCall (g : Hf) (fa : Af) : Lf := fun env => (fa env).bind fun r =>
  match rSlots r.1 with
  | [] => (resArs r.2 r.1).bind fun args => (g args).map fun q => (q.1, r.2)
  | [i] => if (oSlots r.1).contains i then none else (resArs r.2 r.1).bind fun args => (g args).bind fun q => (backAr r.2 r.1 q.2).map fun env' => (q.1, env')
  | _ => none
theorem rn_call {K : Frg} {g : Hf} {fa : Af} {t : TA} {E : XK} (ha : RA K t fa) : RN K (tCall (spN K g) [] E t) (lCall g fa) := fun G F env s H d env' k e Q q => by
  unfold lCall at e
  obtain ⟨⟨as, e1⟩, h1, e⟩ := Option.bind_eq_some_iff.mp e
  refine ha G F env s H as e1 k h1 _ fun F1 H1 vs k1 s1 p1 => ?_
  rw [List.append_nil]
  dsimp only at e
  -- the post in the other one's words, the list left out
  have po0 : ∀ {args args' : List Sl} {F' H' : Hp} {p : Addr} {us : List V} {ds : List D}, PostN F1 H1 F' H' args args' vs p us ds → Post F1 H1 F' H' args args' vs .non .none := fun po => ⟨po.keep, po.dom, po.grow, po.fr, po.new, .non, po.own⟩
  have noP : ∀ {args args' : List Sl} {F' H' : Hp} {p : Addr} {us : List V} {ds : List D}, PostN F1 H1 F' H' args args' vs p us ds → G.H0 p = none ∧ G.P p = none := fun po => ⟨k1.dom _ po.fresh, k1.pin.free po.fresh⟩
  -- none of the caller's own lists
  have no : ∀ {args args' : List Sl} {F' H' : Hp} {p : Addr} {us : List V} {ds : List D} {env2 : En}, PostN F1 H1 F' H' args args' vs p us ds → (∀ (j : Nat) l es, env2[j]? = some (.own l es) → ∃ fs, e1[j]? = some (.own l fs)) → ∀ (j : Nat) l es, env2[j]? = some (.own l es) → s[j]? ≠ some (some (.ref p)) := fun po bk j l es e z => by
    obtain ⟨fs, e2⟩ := bk j l es e
    exact k1.notown po.fresh j l fs e2 z
  split at e
  · rename_i hrs
    obtain ⟨args, h2, e⟩ := Option.bind_eq_some_iff.mp e
    obtain ⟨⟨d', args'⟩, h3, e⟩ := Option.map_eq_some_iff.mp e
    cases e
    refine ⟨F1, args, d', args', h3, k1.fr, args_ok k1 p1 h2 (by rw [hrs]; intro i hi; cases hi) (by rw [hrs]; intro i hi; cases hi), fun F' H' p us po => ?_⟩
    exact q F' H' p us (ok_after k1 p1 h2 (po0 po) rfl (fun j => .inl rfl) (by rw [hrs]; intro i hi; cases hi)) (s1.trans po.grow) po.at_ po.nf (noP po).1 (noP po).2 (no po fun j l es e => ⟨es, e⟩) po.res
  · rename_i i hrs
    split at e
    · cases e
    · rename_i hc
      obtain ⟨args, h2, e⟩ := Option.bind_eq_some_iff.mp e
      obtain ⟨⟨d', args'⟩, h3, e⟩ := Option.bind_eq_some_iff.mp e
      obtain ⟨env2, h4, e⟩ := Option.map_eq_some_iff.mp e
      cases e
      obtain ⟨j, l, ds, es, g1, g2, g3, g4⟩ := backAr_one hrs h4
      subst g4
      have hil : i < e1.length := (List.getElem?_eq_some_iff.mp g3).1
      refine ⟨F1, args, d', args', h3, k1.fr, args_ok k1 p1 h2 (by rw [hrs]; intro i' hi'; simp at hi'; subst hi'; intro hm; apply hc; simp [hm]) (by rw [hrs]; intro i' hi' j1 j2 q1 q2; simp at hi'; subst hi'; exact rSlots_one hrs j1 j2 q1 q2), fun F' H' p us po => ?_⟩
      refine q F' H' p us (ok_after k1 p1 h2 (po0 po) (by simp) (fun j' => ?_) ?_) (s1.trans po.grow) po.at_ po.nf (noP po).1 (noP po).2 (no po fun j' l' es' e' => ?_) po.res
      · by_cases hj : i = j'
        · subst hj
          exact .inr ⟨j, l, ds, es, g1, g2, g3, by rw [List.getElem?_set_self hil]⟩
        · exact .inl (List.getElem?_set_ne hj)
      · rw [hrs]
        intro i' hi' j' _
        simp at hi'
        subst hi'
        exact ⟨j, l, ds, g2, g1, by rw [List.getElem?_set_self hil]⟩
      · rcases set_get e' with ⟨rfl, _, z⟩ | ⟨_, z⟩
        · cases z; exact ⟨_, g3⟩
        · exact ⟨_, z⟩
  · cases e
section
variable {X : Cx} {k : Nat} {fx : Addr} {fd : FuncData} {ps : List Str} {x : Str} {p pos : Pos} {e : Expr} {es : List Expr} {fa : Af} {g : Hf}
theorem xn_call (FF : FnOk X.prog X.w X.K X.mg X.base CX0 k fx fd ps (spN X.K g)) (hr : Room k X.A) (hm : X.mg x = some (.ref fx)) (hk : PySem.W.keepIn X.K (.ref fx) = true) (hb : Binds X.K fd ps []) (ha : XA X (e :: es) fa) (hg : Gl X x := by rfl)
    (hdb : (x == ("__debug__" : Str)) = false := by decide) (he : starEach (e :: es) X.env = (false, eval e X.env) :: starEach es X.env := by rfl) (hpl : (backTo pos (starEach es X.env)).any (·.1) = false := by rfl) :
    XN X (.Call (.Name x p) (e :: es) [] pos) (lCall g fa) :=
  let ⟨_, h1, h2⟩ := ha.ex; ⟨_, pe_call FF hr hg hm hk hb .nil pass0 h1 hdb he hpl, rn_call h2⟩
end
theorem start_get {N : List Str} {vs : List V} {i : Nat} {v : V} (h : vs[i]? = some v) : (L2.start N vs)[i]? = some (some v) := by
  have hi : i < vs.length := (List.getElem?_eq_some_iff.mp h).1
  unfold L2.start
  rw [List.getElem?_append_left (by simpa using hi), List.getElem?_map, h]
  rfl
theorem app_get {args : List Sl} {m : Nat} {i : Nat} {x : Sl} (h : (args ++ List.replicate m .no)[i]? = some x) (hx : x ≠ .no) : args[i]? = some x := by
  by_cases hi : i < args.length
  · rw [List.getElem?_append_left hi] at h; exact h
  · rw [List.getElem?_append_right (by omega), List.getElem?_replicate] at h
    split at h
    · cases h; exact absurd rfl hx
    · cases h
theorem ok_start {K : Frg} {F H : Hp} {args : List Sl} {vs : List V} {N ps : List Str} (hl : ps.length = args.length) (hN : ps.length ≤ N.length) (fr : Same F H) (a : ArgsOk K F H args vs) :
    Ok K ⟨F, H, minus H args vs, minus H args vs, L2.start N vs⟩ F (args ++ List.replicate (N.length - ps.length) .no) (L2.start N vs) H where
  len := by unfold L2.start; simp only [List.length_append, List.length_map, List.length_replicate]; have := a.len; omega
  fr := fr
  val := fun i d e => by
    obtain ⟨v, h1, h2⟩ := a.val i d (app_get e (by simp))
    exact ⟨v, start_get h1, h2⟩
  own := fun i l ds e => by
    have e' := app_get e (by simp)
    obtain ⟨rfl, p, us, h1, h2, h3, h4⟩ := a.own i l ds e'
    refine ⟨p, us, start_get h1, h2, h3, ?_, h4, fun z => (by cases z), fun _ => start_get h1⟩
    show minus H args vs p = none
    unfold minus
    exact if_pos ⟨i, _, _, e', h1⟩
  ro := fun i ds e => by
    obtain ⟨p, us, h1, h2, h3⟩ := a.ro i ds (app_get e (by simp))
    exact ⟨p, us, start_get h1, h2, h3⟩
  sep := fun i j l ds m es e1 e2 e3 => by
    have e1' := app_get e1 (by simp)
    have e2' := app_get e2 (by simp)
    obtain ⟨_, p, us, h1, _⟩ := a.own i l ds e1'
    obtain ⟨_, q, us', h2, _⟩ := a.own j m es e2'
    rw [start_get h1, start_get h2] at e3
    exact a.sep i j _ _ _ _ e1' e2' (by rw [h1, h2]; exact Option.some.inj e3)
  pin := fun x o e => (minus_of e).1
  dom := fun x e => e
  grow := Same.refl F
  new := fun x o e => .inl e
  rin := Same.refl _
  dct := ⟨fun i w kvs e => absurd (app_get e (by simp)) (a.dct i w kvs), fun i j w kvs w' kvs' e _ _ => absurd (app_get e (by simp)) (a.dct i w kvs)⟩
theorem post_of {K : Frg} {F F' H H' : Hp} {args : List Sl} {vs : List V} {N : List Str} {env : En} {s : L2.St} {v : V} {d : D} {np : Nat} (a : ArgsOk K F H args vs) (hl : np = args.length) (k : Ok K ⟨F, H, minus H args vs, minus H args vs, L2.start N vs⟩ F' env s H') (p : Dt F' v d) : Post F H F' H' args (env.take np) vs v d where
  keep := k.pin
  dom := k.dom
  grow := k.grow
  fr := k.fr
  new := k.new
  res := p
  own := fun i l ds e ds' e' q hq => by
    have e2 : env[i]? = some (.own false ds') := by
      rw [List.getElem?_take] at e'
      split at e'
      · exact e'
      · cases e'
    obtain ⟨b, us, h1, h2, h3, _, h4, _, h5⟩ := k.own i false ds' e2
    have h6 : (L2.start N vs)[i]? = some (some (.ref b)) := h5 rfl
    rw [start_get hq] at h6
    cases h6
    exact ⟨us, h2, h3, h4⟩
section
variable {P : Program} {w : World} {K : Frg} {mg : Str → Option Value} {base : Heap}
theorem fn_ok {x qual : Str} {st : Stmt} {f : Addr} {fd : FuncData} {N ps : List Str} {k : Nat} {fb : Sf} (F : Fun K x qual st f fd) (S : FnScope N ps (defScope st))
    (hbody : ∀ (cdv : Value) (A : Around) (outer : List Env) (s : Shared) (H : Hp) (E : XK), Room k (A.deeper (envOfC qual (defScope st) s.heap.objs.size f cdv)) →
      XSs (cxOf CX0 P w K mg base N qual (defScope st) f cdv A outer s H E).nox (defBody st) fb) : FnOk P w K mg base CX0 (k + 1) f fd ps (spF K (fnRun N.length ps.length fb)) := by
  refine F.ok S (fun vs H Q E h => ?_) (fun cdv A outer s H vs Q E hr h => ?_)
  · obtain ⟨Fz, args, d, args', hg, fr, a, _⟩ := h
    unfold fnRun at hg
    split at hg
    · rename_i hl
      rw [a.len, hl]
    · cases hg
  · obtain ⟨Fz, args, d, args', hg, fr, a, q⟩ := h
    obtain ⟨t, h1, h2⟩ := (hbody cdv A outer s H E hr).ex
    refine ⟨t, h1, ?_⟩
    have hpl : ps.length ≤ N.length := by have := congrArg List.length S.pre; rw [List.length_take] at this; omega
    unfold fnRun at hg
    split at hg
    · rename_i hl
      have k0 := ok_start hl.symm hpl fr a
      split at hg
      · rename_i env he
        cases hg
        refine h2 _ Fz _ _ H _ k0 he _ ?_
        exact fun F' s' H' k' s1 => q F' H' .non (post_of a hl.symm k' .non)
      · rename_i d' env he
        cases hg
        refine h2 _ Fz _ _ H _ k0 he _ ?_
        exact fun F' s' H' v k' s1 p => q F' H' v (post_of a hl.symm k' p)
      · rename_i ds env he
        cases hg
        refine h2 _ Fz _ _ H _ k0 he _ ?_
        intro F' s' H' p us k' s1 g1 g2 g3 g4 g5 g6
        exact q _ H' (.ref p) (post_of a hl.symm (k'.freeze g1 g2 g3 g5 (k'.notdctL g1)) (.lst upd_same (Da.mono (same_upd g2) _ _ g6)))
      · rename_i as ds env he
        cases hg
        refine h2 _ Fz _ _ H _ k0 he _ ?_
        intro F' s' H' t p ws us k' s1 n
        obtain ⟨F2, k2, s2, pd, _⟩ := n.frz k'
        exact q F2 H' (.ref t) (post_of a hl.symm k2 pd)
      · cases hg
    · cases hg
theorem fn_new {x qual : Str} {st : Stmt} {f : Addr} {fd : FuncData} {N ps : List Str} {k : Nat} {fb : Sf} (F : Fun K x qual st f fd) (S : FnScope N ps (defScope st))
    (hbody : ∀ (cdv : Value) (A : Around) (outer : List Env) (s : Shared) (H : Hp) (E : XK), Room k (A.deeper (envOfC qual (defScope st) s.heap.objs.size f cdv)) →
      XSs (cxOf CX0 P w K mg base N qual (defScope st) f cdv A outer s H E).nox (defBody st) fb) : FnOk P w K mg base CX0 (k + 1) f fd ps (spN K (fnNew N.length ps.length fb)) := by
  refine F.ok S (fun vs H Q E h => ?_) (fun cdv A outer s H vs Q E hr h => ?_)
  · obtain ⟨Fz, args, d, args', hg, fr, a, _⟩ := h
    unfold fnNew at hg
    split at hg
    · rename_i hl
      rw [a.len, hl]
    · cases hg
  · obtain ⟨Fz, args, d, args', hg, fr, a, q⟩ := h
    obtain ⟨t, h1, h2⟩ := (hbody cdv A outer s H E hr).ex
    refine ⟨t, h1, ?_⟩
    have hpl : ps.length ≤ N.length := by have := congrArg List.length S.pre; rw [List.length_take] at this; omega
    unfold fnNew at hg
    split at hg
    · rename_i hl
      have k0 := ok_start hl.symm hpl fr a
      split at hg
      · rename_i ds env he
        cases hg
        refine h2 _ Fz _ _ H _ k0 he _ ?_
        intro F' s' H' p us k' s1 g1 g2 g3 g4 g5 g6
        have po := post_of (v := .non) (d := .none) a hl.symm k' .non
        exact q F' H' p us ⟨po.keep, po.dom, po.grow, po.fr, po.new, g1, g2, g3, g6, po.own⟩
      · cases hg
    · cases hg
end
end M

namespace M
open PySem PySem.Spec PyProof.Rows L2
section
variable {X : Cx} {e a b : Expr} {f fa fb : Ef} {p pos : Pos} {K : Frg}

/-! ### built-ins of one argument -/
def gLen : D → Option D
  | .list ds => some (.int (ds.length : Int))
  | .tuple ds => some (.int (ds.length : Int))
  | .str x => if fits x.length then some (.int (x.length : Int)) else none
  | _ => none
def rLen (K : Frg) : List V → Hp → VK → Prop := fun xs H Q => ∃ x n, xs = [x] ∧ LenV K x H n ∧ Q (.int n) H
theorem gc_len : GC K (rLen K) gLen := by
  intro G F env s H x d z k h1 h3 Q q
  unfold gLen at h3
  split at h3
  · cases h3
    obtain ⟨p, vs, rfl, h4, h5⟩ := h1.list k.fr
    refine ⟨_, vs.length, rfl, .inl ⟨vs, h4, rfl⟩, ?_⟩
    rw [h5.length]
    exact q F H _ k (Same.refl F) (.int _)
  · cases h3
    obtain ⟨p, vs, rfl, h4, _, h5⟩ := h1.tup k.fr
    refine ⟨_, vs.length, rfl, .inr ⟨vs, SqT.of h4, rfl⟩, ?_⟩
    rw [h5.length]
    exact q F H _ k (Same.refl F) (.int _)
  · split at h3
    · rename_i hf
      cases h3
      cases h1.str
      exact ⟨_, _, rfl, ⟨fits_line hf, rfl⟩, q F H _ k (Same.refl F) (.int _)⟩
    · cases h3
  · cases h3
theorem xe_len (hm : X.mg "len" = none) (ha : XO X e f) (hg : Gl X "len" := by rfl) (he : starEach [e] X.env = (false, eval e X.env) :: starEach [] X.env := by rfl) (hpl : (backTo pos (starEach [] X.env)).any (·.1) = false := by rfl) : XE X (.Call (.Name "len" p) [e] [] pos) (eUn gLen f) :=
  xe_cbB call_len PySem.boot_len gc_len hm ha hg (by decide) (by decide) he hpl
def gAbs : D → Option D
  | .int i => some (.int (if i < 0 then -i else i))
  | _ => none
def gInt : D → Option D
  | .int i => some (.int i)
  | .bool k => some (.int (if k then 1 else 0))
  | _ => none
theorem gc_int : GC K (fun xs H Q => (∃ i, xs = [.int i] ∧ Q (.int i) H) ∨ ∃ k, xs = [.bl k] ∧ Q (.int (if k then 1 else 0)) H) gInt := by
  intro G F env s H x d z k h1 h3 Q q
  unfold gInt at h3
  split at h3
  · cases h3; cases h1.int
    exact .inl ⟨_, rfl, q F H _ k (Same.refl F) (.int _)⟩
  · cases h3; cases h1.bl
    exact .inr ⟨_, rfl, q F H _ k (Same.refl F) (.int _)⟩
  · cases h3
theorem xe_int1 (hm : X.mg "int" = none) (ha : XO X e f) (hg : Gl X "int" := by rfl) (he : starEach [e] X.env = (false, eval e X.env) :: starEach [] X.env := by rfl) (hpl : (backTo pos (starEach [] X.env)).any (·.1) = false := by rfl) : XE X (.Call (.Name "int" p) [e] [] pos) (eUn gInt f) :=
  xe_cbT call_int1 boot_int gc_int hm ha hg (by decide) (by decide) he hpl
def gStr : D → Option D
  | .int i => if decide (i.natAbs < 10 ^ 200) then some (.str (toString i)) else none
  | _ => none
theorem gc_str : GC K (fun xs H Q => ∃ i, xs = [.int i] ∧ i.natAbs.log2 < 1920 ∧ Q (.str (toString i)) H) gStr := by
  intro G F env s H x d z k h1 h3 Q q
  unfold gStr at h3
  split at h3
  · split at h3
    · rename_i hf
      cases h3; cases h1.int
      have h8 : (10 ^ 200 : Nat) ≤ 2 ^ 700 := by decide +kernel
      have h9 := PySem.Flt.log2_lt_of (by decide) (Nat.lt_of_lt_of_le (of_decide_eq_true hf) h8)
      exact ⟨_, rfl, by omega, q F H _ k (Same.refl F) (.str _)⟩
    · cases h3
  · cases h3
theorem xe_str1 (hm : X.mg "str" = none) (ha : XO X e f) (hg : Gl X "str" := by rfl) (he : starEach [e] X.env = (false, eval e X.env) :: starEach [] X.env := by rfl) (hpl : (backTo pos (starEach [] X.env)).any (·.1) = false := by rfl) : XE X (.Call (.Name "str" p) [e] [] pos) (eUn gStr f) :=
  xe_cbT call_str_int boot_str gc_str hm ha hg (by decide) (by decide) he hpl
def gList : D → Option (List D)
  | .list ds => some ds
  | .tuple ds => some ds
  | _ => none
def gTuple : D → Option D
  | .list ds => some (.tuple ds)
  | .tuple ds => some (.tuple ds)
  | _ => none
theorem gc_tuple : GC K (fun xs H Q => ∃ p ys, xs = [.ref p] ∧ ((SqL K H p ys ∧ ∀ l, H l = none → Q (.ref l) (upd H l (.tup ys))) ∨ (SqT K H p ys ∧ Q (.ref p) H))) gTuple := by
  intro G F env s H x d z k h1 h3 Q q
  unfold gTuple at h3
  split at h3
  · cases h3
    obtain ⟨p, vs, rfl, h4, h5⟩ := h1.list k.fr
    exact ⟨p, vs, rfl, .inl ⟨h4, fun l hl => q _ _ _ (k.alloc hl) (same_upd (k.fr.free hl)) (.tup upd_same (Da.mono (same_upd (k.fr.free hl)) _ _ h5))⟩⟩
  · cases h3
    obtain ⟨p, vs, rfl, h4, h6, h5⟩ := h1.tup k.fr
    exact ⟨p, vs, rfl, .inr ⟨SqT.of h4, q F H _ k (Same.refl F) (.tup h6 h5)⟩⟩
  · cases h3
theorem xe_tuple (hm : X.mg "tuple" = none) (ha : XO X e f) (hg : Gl X "tuple" := by rfl) (he : starEach [e] X.env = (false, eval e X.env) :: starEach [] X.env := by rfl) (hpl : (backTo pos (starEach [] X.env)).any (·.1) = false := by rfl) : XE X (.Call (.Name "tuple" p) [e] [] pos) (eUn gTuple f) :=
  xe_cbT call_tuple_of boot_tuple gc_tuple hm ha hg (by decide) (by decide) he hpl
/-! whole numbers, truths in a list -/
def blsOf : List D → Option (List Bool)
  | [] => some []
  | .bool i :: ds => (blsOf ds).map fun r => i :: r
  | _ :: _ => none
theorem blsOf_some : ∀ {ds : List D} {ns : List Bool}, blsOf ds = some ns → ds = ns.map .bool
  | [], _, h => by cases h; rfl
  | .bool i :: ds, ns, h => by
    unfold blsOf at h
    obtain ⟨r, h1, h⟩ := Option.map_eq_some_iff.mp h
    subst h
    rw [blsOf_some h1]; rfl
  | .none :: _, _, h => by cases h
  | .int _ :: _, _, h => by cases h
  | .str _ :: _, _, h => by cases h
  | .list _ :: _, _, h => by cases h
  | .tuple _ :: _, _, h => by cases h
  | .dict _ :: _, _, h => by cases h
theorem blsOf_map : ∀ ns : List Bool, blsOf (ns.map .bool) = some ns
  | [] => rfl
  | n :: ns => by show (blsOf (ns.map .bool)).map _ = _; rw [blsOf_map ns]; rfl
theorem Da.bls {F : Hp} : ∀ {ns : List Bool} {vs : List V}, Da F vs (ns.map .bool) → vs = ns.map V.bl
  | [], _, r => by cases r; rfl
  | n :: ns, _, r => by
    cases r with
    | cons a b => cases a; rw [Da.bls b]; rfl
def gAll : D → Option D
  | .list ds => (blsOf ds).map fun ns => .bool (ns.all id)
  | _ => none
def gAny : D → Option D
  | .list ds => (blsOf ds).map fun ns => .bool (ns.any id)
  | _ => none
theorem gc_all : GC K (rAll K) gAll := by
  intro G F env s H x d z k h1 h3 Q q
  unfold gAll at h3
  split at h3
  · obtain ⟨ns, h4, h5⟩ := Option.map_eq_some_iff.mp h3
    cases h5
    obtain ⟨p, vs, rfl, h6, h7⟩ := h1.list k.fr
    rw [blsOf_some h4] at h7
    rw [h7.bls] at h6
    exact ⟨p, ns, rfl, h6, q F H _ k (Same.refl F) (.bl _)⟩
  · cases h3
theorem xe_all (hm : X.mg "all" = none) (ha : XO X e f) (hc : X.calm = true := by rfl) (hg : Gl X "all" := by rfl) (he : starEach [e] X.env = (false, eval e X.env) :: starEach [] X.env := by rfl) (hpl : (backTo pos (starEach [] X.env)).any (·.1) = false := by rfl) : XE X (.Call (.Name "all" p) [e] [] pos) (eUn gAll f) :=
  xe_cbB (cr_all hc) boot_all gc_all hm ha hg (by decide) (by decide) he hpl
/-! of two -/
def gMax2 : D → D → Option D
  | .int i, .int j => some (.int (if j > i then j else i))
  | _, _ => none
def gMin2 : D → D → Option D
  | .int i, .int j => some (.int (if j < i then j else i))
  | _, _ => none
theorem gc_min2 : GC2 K (fun xs H Q => ∃ i j, xs = [.int i, .int j] ∧ Q (.int (if j < i then j else i)) H) gMin2 := by
  intro G F env s H x y d e z k h1 h2 h3 Q q
  unfold gMin2 at h3
  split at h3
  · cases h3; cases h1; cases h2
    exact ⟨_, _, rfl, q F H _ k (Same.refl F) (.int _)⟩
  · cases h3
theorem xe_min2 (hm : X.mg "min" = none) (ha : XE X a fa) (hb : XE X b fb) (hc : X.calm = true := by rfl) (hg : Gl X "min" := by rfl) (he : starEach [a, b] X.env = (false, eval a X.env) :: starEach [b] X.env := by rfl) (he2 : starEach [b] X.env = (false, eval b X.env) :: starEach [] X.env := by rfl) (hpl : (backTo pos (starEach [b] X.env)).any (·.1) = false := by rfl) : XE X (.Call (.Name "min" p) [a, b] [] pos) (eBin gMin2 fa fb) :=
  xe_cb2 (call_min2 hc) boot_min gc_min2 hm ha hb hg (by decide) (by decide) he he2 hpl
/-! isinstance -/
inductive Ty where
  | int | bool | str | lst | tup
def Ty.nm : Ty → String
  | .int => "int" | .bool => "bool" | .str => "str" | .lst => "list" | .tup => "tuple"
def isi : Ty → D → Option Bool
  | _, .dict _ => none
  | .int, .int _ => some true
  | .int, .bool _ => some true
  | .int, _ => some false
  | .bool, .bool _ => some true
  | .bool, _ => some false
  | .str, .str _ => some true
  | .str, _ => some false
  | .lst, .list _ => some true
  | .lst, _ => some false
  | .tup, .tuple _ => some true
  | .tup, _ => some false
def tyD : D → String
  | .none => "NoneType" | .bool _ => "bool" | .int _ => "int" | .str _ => "str" | .list _ => "list" | .tuple _ => "tuple" | .dict _ => "dict"
theorem isi_kit {T : Ty} {d : D} {b : Bool} (h : isi T d = some b) : kitB (tyD d) T.nm = some b := by
  cases T <;> cases d <;> cases h <;> simp only [tyD, Ty.nm] <;> decide +kernel
theorem ty_of {G : Gm} {F : Hp} {env : En} {s : L2.St} {H : Hp} {d : D} {v : V} (k : Ok K G F env s H) (h : Dt F v d) (n : ∀ x, d ≠ .dict x) : TyX K H v (.type (tyD d)) := by
  cases h with
  | xc _ => exact absurd rfl (n _)
  | xf _ _ => exact absurd rfl (n _)
  | dic _ _ _ => exact absurd rfl (n _)
  | non => exact .base .non
  | bl b => exact .base (.bl b)
  | int i => exact .base (.int i)
  | str x => exact .base (.str x)
  | lst a b => exact .base (.lst (k.fr _ _ a))
  | tup a b => exact .base (.tup (k.fr _ _ a))
def gIsi (T : Ty) (d : D) : Option D := (isi T d).map .bool
theorem xe_isi {p2 : Pos} (T : Ty) {y : Str} (hv : bootBuiltins y = some (.type T.nm)) (hm : X.mg "isinstance" = none) (hmy : X.mg y = none) (ha : XE X e f) (hgy : Gl X y := by rfl) (hg : Gl X "isinstance" := by rfl) (hn : y ≠ "__name__" := by decide) (hdb : (y == ("__debug__" : Str)) = false := by decide)
    (he : starEach [e, .Name y p2] X.env = (false, eval e X.env) :: starEach [.Name y p2] X.env := by rfl) (he2 : starEach [.Name y p2] X.env = (false, eval (.Name y p2) X.env) :: starEach [] X.env := by rfl) (hpl : (backTo pos (starEach [.Name y p2] X.env)).any (·.1) = false := by rfl) :
    XE X (.Call (.Name "isinstance" p) [e, .Name y p2] [] pos) (eUn (gIsi T) f) := by
  obtain ⟨t, h1, h2⟩ := ha.ex
  refine ⟨_, pe_callB call_isi hg hm boot_isinstance (pa_cons h1 (pa_cons (pe_bltn (v := .ty T.nm) hgy hmy hv rfl hn hdb) pa_nil he2) he) (by decide) (by decide) he hpl, fun G F env s H d env' k e Q q => ?_⟩
  obtain ⟨d1, h3, h4⟩ := un_some e
  unfold gIsi at h4
  obtain ⟨b, h5, h6⟩ := Option.map_eq_some_iff.mp h4
  cases h6
  refine h2 G F env s H d1 env' k h3 _ fun F1 H1 v1 k1 s1 p1 => ?_
  exact ⟨v1, .ty T.nm, _, _, b, rfl, .ty _, ty_of k1 p1 (fun x z => by subst z; cases T <;> cases h5), kit_ty (isi_kit h5), q F1 H1 _ k1 s1 (.bl _)⟩

/-! ### in, not in -/
def flatD : D → Bool
  | .none => true
  | .bool _ => true
  | .int _ => true
  | .str _ => true
  | _ => false
def isIn (d e : D) : Option Bool := match d, e with
  | .str x, .str y => some (!(Builtin.Str.occurrences y x 0 y.length 1).isEmpty)
  | d, .list ds => if shp d && shp (.list ds) then some (ds.any fun e => PyData.eqv e d) else none
  | d, .tuple ds => if flatD d && ds.all flatD then some (ds.any fun e => PyData.eqv e d) else none
  | _, _ => none
def gIs (d e : D) : Option D := (isIn d e).map .bool
def rInA (K : Frg) : R2 := fun x y H Q => (∃ i j, x = .str i ∧ y = .str j ∧ Q (.bl (!(Builtin.Str.occurrences j i 0 j.length 1).isEmpty)) H) ∨ rInD K x y H Q ∨ rIn K false x y H Q
theorem op_inA (hu : X.A.units + 65 < cLine) : OpR X (compareOp .In) (rInA X.K) := op_in_str.or ((op_inD hu).or op_in_seq)
theorem flat_v {F : Hp} {v : V} {d : D} (h : Dt F v d) (f : flatD d = true) : flatV v = true := by
  cases h <;> first | rfl | (exact absurd f Bool.false_ne_true)
theorem eq_flat {F : Hp} {v u : V} {d e : D} (h : Dt F v d) (g : Dt F u e) (f : flatD d = true) (f' : flatD e = true) : eqV v u = PyData.eqv d e := by
  cases h <;> cases g <;> first | (exact absurd f Bool.false_ne_true) | (exact absurd f' Bool.false_ne_true) | simp [eqV, PyData.eqv]
theorem any_flat {F : Hp} {u : V} {e : D} (g : Dt F u e) (f' : flatD e = true) : ∀ {ds : List D} {vs : List V}, Da F vs ds → ds.all flatD = true → vs.all flatV = true ∧ (vs.any fun y => eqV y u) = ds.any fun y => PyData.eqv y e
  | [], _, h, _ => by cases h; exact ⟨rfl, rfl⟩
  | d :: ds, _, h, f => by
    cases h with
    | cons h1 h2 =>
      rw [List.all_cons, Bool.and_eq_true] at f
      obtain ⟨q1, q2⟩ := any_flat g f' h2 f.2
      refine ⟨by rw [List.all_cons, flat_v h1 f.1, q1]; rfl, ?_⟩
      rw [List.any_cons, List.any_cons, eq_flat h1 g f.1 f', q2]
theorem in_cases {G : Gm} {F : Hp} {env : En} {s : L2.St} {H : Hp} {x y : V} {d e : D} {b : Bool} (k : Ok K G F env s H) (h1 : Dt F x d) (h2 : Dq K F H y e) (h : isIn d e = some b) :
    (∃ i j, x = .str i ∧ y = .str j ∧ b = !(Builtin.Str.occurrences j i 0 j.length 1).isEmpty) ∨ (∃ ds, Dp K H x d ∧ Dp K H y (.list ds) ∧ SeqAt.shaped d = true ∧ SeqAt.shaped (.list ds) = true ∧ b = ds.any fun e => PyData.eqv e d) ∨
      ∃ p xs, y = .ref p ∧ (SqL K H p xs ∨ SqT K H p xs) ∧ flatV x = true ∧ xs.all flatV = true ∧ b = inV x xs := by
  unfold isIn at h
  split at h
  · cases h; cases h1
    exact .inl ⟨_, _, rfl, h2.str, rfl⟩
  · split at h
    · rename_i hf
      cases h
      rw [Bool.and_eq_true] at hf
      exact .inr (.inl ⟨_, (Dq.dp k.fr (nd_sh hf.1) (.inl h1)), h2.dp k.fr (nd_sh hf.2), hf.1, hf.2, rfl⟩)
    · cases h
  · split at h
    · rename_i hf
      cases h
      rw [Bool.and_eq_true] at hf
      obtain ⟨p, vs, rfl, h3, _, h4⟩ := h2.tup k.fr
      obtain ⟨q1, q2⟩ := any_flat h1 hf.1 h4 hf.2
      exact .inr (.inr ⟨p, vs, rfl, .inr (SqT.of h3), flat_v h1 hf.1, q1, q2.symm⟩)
    · cases h
  · cases h
theorem re_in {ta tb : TE} (h1 : RE K ta fa) (h2 : RO K tb fb) : RE K (tOp (rInA K) ta tb) (eBin gIs fa fb) := fun G F env s H d env' k e Q q => by
  obtain ⟨d1, e1, d2, h3, h4, h5⟩ := bin_some e
  unfold gIs at h5
  obtain ⟨b, h6, h7⟩ := Option.map_eq_some_iff.mp h5
  cases h7
  refine h1 G F env s H d1 e1 k h3 _ fun F1 H1 v1 k1 s1 p1 => ?_
  refine h2 G F1 e1 s H1 d2 env' k1 h4 _ fun F2 H2 v2 k2 s2 p2 => ?_
  have fin := q F2 H2 (.bl b) k2 (s1.trans s2) (.bl b)
  rcases in_cases k2 (Dt.mono s2 _ _ p1) p2 h6 with ⟨i, j, rfl, rfl, rfl⟩ | ⟨ds, g1, g2, g3, g4, rfl⟩ | ⟨p, xs, rfl, g1, g2, g3, rfl⟩
  · exact .inl ⟨_, _, rfl, rfl, fin⟩
  · exact .inr (.inl ⟨_, _, g1, g2, g3, g4, fin⟩)
  · exact .inr (.inr ⟨_, _, rfl, g1, g2, g3, fin⟩)
theorem xe_in (hu : X.A.units + 65 < cLine) (ha : XE X a fa) (hb : XO X b fb) (hm : behindInMarks .In b = false := by rfl) : XE X (.Compare a [.In] [b] pos) (eBin gIs fa fb) :=
  let ⟨_, h1, h2⟩ := ha.ex; let ⟨_, h3, h4⟩ := hb.ex; ⟨_, pe_cmpR (op_inA hu) h1 h3 hm, re_in h2 h4⟩
end
/-! ### is None -/
def isNone : D → Bool
  | .none => true
  | _ => false
def gIsN : D → D → Option D
  | d, .none => some (.bool (isNone d))
  | _, _ => none
def gNtN : D → D → Option D
  | d, .none => some (.bool (!isNone d))
  | _, _ => none
end M

namespace M
open PySem PySem.Spec PyProof.Rows L2
theorem hu65 {k : Nat} {A : Around} (hr : Room k A) : A.units + 65 < cLine := by have := hr.un; omega
theorem da_irs {F : Hp} : ∀ ns : List Int, Da F (ns.map V.int) (ns.map .int)
  | [] => .nil
  | n :: ns => .cons (.int n) (da_irs ns)
theorem law_sp {K : Frg} {H : Hp} {a : Addr} {ns : List Int} {g : Gf} (hS : SqL K H a (ns.map V.int)) (h : ∃ args', g [.ro (ns.map .int)] = some (.bool true, args')) :
    spF K g [.ref a] H (fun v _ => v = .bl true) fun _ _ _ => False := by
  obtain ⟨args', h⟩ := h
  have hm : minus H [.ro (ns.map .int)] [.ref a] = H := by
    funext b
    unfold minus
    rw [if_neg]
    rintro ⟨j, l, es, h1, _⟩
    cases j with
    | zero => cases h1
    | succ j => simp at h1
  refine ⟨fun _ => none, _, _, args', h, fun b o e => (by cases e), ⟨rfl, fun i d e => ?_, fun i l ds e => ?_, fun i ds e => ?_, fun i j l ds m es e1 e2 e3 => ?_, fun i w kvs e => ?_⟩, fun F' H' v po => ?_⟩
  · cases i with
    | zero => cases e
    | succ j => simp at e
  · cases i with
    | zero => cases e
    | succ j => simp at e
  · cases i with
    | zero =>
      cases e
      exact ⟨a, _, rfl, by rw [hm]; exact hS, da_irs ns⟩
    | succ j => simp at e
  · cases i with
    | zero => cases e1
    | succ j => simp at e1
  · cases i with
    | zero => cases e
    | succ j => simp at e
  · have := po.res
    cases this
    rfl
theorem fn_okE {P : Program} {w : World} {K : Frg} {mg : Str → Option Value} {base : Heap} {x qual : Str} {st : Stmt} {f : Addr} {fd : FuncData} {N ps : List Str} {k : Nat} {g : Gf} (fb : Sf) (n np : Nat) (F : Fun K x qual st f fd) (S : FnScope N ps (defScope st))
    (hn : N.length = n) (hp : ps.length = np) (hg : g = fnRun n np fb)
    (hbody : ∀ (cdv : Value) (A : Around) (outer : List Env) (s : Shared) (H : Hp) (E : XK), Room k (A.deeper (envOfC qual (defScope st) s.heap.objs.size f cdv)) →
      XSs (cxOf CX0 P w K mg base N qual (defScope st) f cdv A outer s H E).nox (defBody st) fb) : FnOk P w K mg base CX0 (k + 1) f fd ps (spF K g) := by
  subst hn hp hg
  exact fn_ok F S hbody
theorem fn_newE {P : Program} {w : World} {K : Frg} {mg : Str → Option Value} {base : Heap} {x qual : Str} {st : Stmt} {f : Addr} {fd : FuncData} {N ps : List Str} {k : Nat} {g : Hf} (fb : Sf) (n np : Nat) (F : Fun K x qual st f fd) (S : FnScope N ps (defScope st))
    (hn : N.length = n) (hp : ps.length = np) (hg : g = fnNew n np fb)
    (hbody : ∀ (cdv : Value) (A : Around) (outer : List Env) (s : Shared) (H : Hp) (E : XK), Room k (A.deeper (envOfC qual (defScope st) s.heap.objs.size f cdv)) →
      XSs (cxOf CX0 P w K mg base N qual (defScope st) f cdv A outer s H E).nox (defBody st) fb) : FnOk P w K mg base CX0 (k + 1) f fd ps (spN K g) := by
  subst hn hp hg
  exact fn_new F S hbody
end M

/-! the least that must hold ahead: rules to reason about the mirrors, no program in sight -/
namespace M
open PySem PySem.Spec PyProof.Rows L2
def WO {α : Type} (o : Option α) (Q : α → Prop) : Prop := ∃ x, o = some x ∧ Q x
def WE (f : Ef) (env : En) (Q : D → En → Prop) : Prop := ∃ d e, f env = some (d, e) ∧ Q d e
def WL (f : Lf) (env : En) (Q : List D → En → Prop) : Prop := ∃ d e, f env = some (d, e) ∧ Q d e
def WB (f : Bf) (env : En) (Q : Bool → En → Prop) : Prop := ∃ d e, f env = some (d, e) ∧ Q d e
def WA (f : Af) (env : En) (Q : List Ar → En → Prop) : Prop := ∃ d e, f env = some (d, e) ∧ Q d e
def WP (f : Pf) (env : En) (Q : Option Int → En → Prop) : Prop := ∃ d e, f env = some (d, e) ∧ Q d e
def WT (g : Tf) (d : D) (env : En) (Q : En → Prop) : Prop := ∃ e, g d env = some e ∧ Q e
def WTs (g : List D → En → Option En) (d : List D) (env : En) (Q : En → Prop) : Prop := ∃ e, g d env = some e ∧ Q e
def WG (g : Gf) (args : List Sl) (Q : D → List Sl → Prop) : Prop := ∃ d e, g args = some (d, e) ∧ Q d e
def WH (g : Hf) (args : List Sl) (Q : List D → List Sl → Prop) : Prop := ∃ d e, g args = some (d, e) ∧ Q d e
/-- what a statement leaves -/
structure Po where
  n : En → Prop
  r : D → En → Prop
  l : List D → En → Prop
def Po.at (Q : Po) : Out → Prop
  | .nx e => Q.n e
  | .rt d e => Q.r d e
  | .rn ds e => Q.l ds e
  | .rp as ds e => Q.r (.tuple (as ++ [.list ds])) e
def WS (f : Sf) (env : En) (Q : Po) : Prop := ∃ o, f env = some o ∧ Q.at o
/-- slots to be worked out first -/
def Nrm (e : En) (Q : En → Prop) : Prop := Q e
def IfB (b : Bool) (A B : Prop) : Prop := if b then A else B
def IsB (d : D) (Q : Bool → Prop) : Prop := match d with
  | .bool b => Q b
  | _ => False
def IsL (d : D) (Q : List D → Prop) : Prop := match d with
  | .list b => Q b
  | _ => False
def IsS (d : D) (Q : List D → Prop) : Prop := match d with
  | .list b => Q b
  | .tuple b => Q b
  | _ => False
def Fit (n : Nat) (Q : Prop) : Prop := fits n = true ∧ Q
def Sml (n : Int) (Q : Prop) : Prop := smallI n = true ∧ Q
def Own (s : Option Sl) (Q : Bool → List D → Prop) : Prop := ∃ b ds, s = some (.own b ds) ∧ Q b ds
def Any (s : Option Sl) (Q : List D → Prop) : Prop := ∃ b ds, (s = some (.own b ds) ∨ s = some (.ro ds)) ∧ Q ds
def CallG (g : Gf) (as : List Ar) (e : En) (Q : D → En → Prop) : Prop :=
  (rSlots as = [] ∧ WO (resArs e as) fun args => WG g args fun d _ => Q d e) ∨ (∃ i, rSlots as = [i] ∧ (oSlots as).contains i = false ∧ WO (resArs e as) fun args => WG g args fun d a' => WO (backAr e as a') fun e' => Q d e')
def CallH (g : Hf) (as : List Ar) (e : En) (Q : List D → En → Prop) : Prop :=
  (rSlots as = [] ∧ WO (resArs e as) fun args => WH g args fun d _ => Q d e) ∨ (∃ i, rSlots as = [i] ∧ (oSlots as).contains i = false ∧ WO (resArs e as) fun args => WH g args fun d a' => WO (backAr e as a') fun e' => Q d e')
def Two (ds : List D) (Q : D → D → Prop) : Prop := match ds with
  | [x, y] => Q x y
  | _ => False
def WC (vs : List Nat) (g : Tf) (c : Bf) (f : Ef) (ds : List D) (env : En) (Q : List D → En → Prop) : Prop := ∃ xs e, lcGo vs g c f ds env = some (xs, e) ∧ Q xs e
def IsI (d : D) (Q : Int → Prop) : Prop := match d with
  | .int b => Q b
  | _ => False
section
variable {env : En} {d e : D} {f fa fb fc : Ef} {p q c : Bf} {l : Lf} {i j : Nat} {g : D → D → Option D}
theorem ifb_dec {P : Prop} [Decidable P] {A B : Prop} (h1 : P → A) (h2 : ¬ P → B) : IfB (decide P) A B := by
  unfold IfB
  by_cases h : P
  · simp [h, h1 h]
  · simp [h, h2 h]
theorem ifb_decT {P : Prop} [Decidable P] {A B : Prop} (h : P) (a : A) : IfB (decide P) A B := ifb_dec (fun _ => a) fun n => absurd h n
theorem ifb_decF {P : Prop} [Decidable P] {A B : Prop} (h : ¬ P) (b : B) : IfB (decide P) A B := ifb_dec (fun p => absurd p h) fun _ => b
theorem ifb_not {b : Bool} {A B : Prop} (h : IfB b B A) : IfB (!b) A B := by cases b <;> exact h
theorem ifb_t {A B : Prop} (h : A) : IfB true A B := h
theorem ifb_f {A B : Prop} (h : B) : IfB false A B := h
theorem ifb_eT {b : Bool} {A B : Prop} (h : b = true) (a : A) : IfB b A B := by subst h; exact a
theorem ifb_eF {b : Bool} {A B : Prop} (h : b = false) (a : B) : IfB b A B := by subst h; exact a
theorem isb {b : Bool} {Q : Bool → Prop} (h : Q b) : IsB (.bool b) Q := h
theorem isi_ {b : Int} {Q : Int → Prop} (h : Q b) : IsI (.int b) Q := h

theorem isl {b : List D} {Q : List D → Prop} (h : Q b) : IsL (.list b) Q := h
theorem iss_l {b : List D} {Q : List D → Prop} (h : Q b) : IsS (.list b) Q := h
theorem iss_t {b : List D} {Q : List D → Prop} (h : Q b) : IsS (.tuple b) Q := h
theorem nrm_ {e e' : En} {Q : En → Prop} (h : e = e') (q : Q e') : Nrm e Q := by subst h; exact q
theorem two_ {x y : D} {Q : D → D → Prop} (h : Q x y) : Two [x, y] Q := h
theorem fit_ {n : Nat} {Q : Prop} (h : fits n = true) (q : Q) : Fit n Q := ⟨h, q⟩
theorem sml_ {n : Int} {Q : Prop} (h1 : -1000000000 ≤ n) (h2 : n ≤ 1000000000) (q : Q) : Sml n Q := ⟨by unfold smallI; rw [decide_eq_true h1, decide_eq_true h2]; rfl, q⟩
theorem own_ {s : Option Sl} {b : Bool} {ds : List D} {Q : Bool → List D → Prop} (h : s = some (.own b ds)) (q : Q b ds) : Own s Q := ⟨b, ds, h, q⟩
theorem any_o {s : Option Sl} {b : Bool} {ds : List D} {Q : List D → Prop} (h : s = some (.own b ds)) (q : Q ds) : Any s Q := ⟨b, ds, .inl h, q⟩
theorem any_r {s : Option Sl} {ds : List D} {Q : List D → Prop} (h : s = some (.ro ds)) (q : Q ds) : Any s Q := ⟨true, ds, .inr h, q⟩
theorem WO.mono {α : Type} {o : Option α} {Q Q' : α → Prop} (h : WO o Q) (m : ∀ x, Q x → Q' x) : WO o Q' := let ⟨x, e, q⟩ := h; ⟨x, e, m x q⟩
theorem WE.mono {Q Q' : D → En → Prop} (h : WE f env Q) (m : ∀ x e, Q x e → Q' x e) : WE f env Q' := let ⟨x, y, e, q⟩ := h; ⟨x, y, e, m x y q⟩
theorem WB.mono {Q Q' : Bool → En → Prop} (h : WB p env Q) (m : ∀ x e, Q x e → Q' x e) : WB p env Q' := let ⟨x, y, e, q⟩ := h; ⟨x, y, e, m x y q⟩
theorem WL.mono {Q Q' : List D → En → Prop} (h : WL l env Q) (m : ∀ x e, Q x e → Q' x e) : WL l env Q' := let ⟨x, y, e, q⟩ := h; ⟨x, y, e, m x y q⟩
theorem WG.mono {g : Gf} {as : List Sl} {Q Q' : D → List Sl → Prop} (h : WG g as Q) (m : ∀ x e, Q x e → Q' x e) : WG g as Q' := let ⟨x, y, e, q⟩ := h; ⟨x, y, e, m x y q⟩
theorem WH.mono {g : Hf} {as : List Sl} {Q Q' : List D → List Sl → Prop} (h : WH g as Q) (m : ∀ x e, Q x e → Q' x e) : WH g as Q' := let ⟨x, y, e, q⟩ := h; ⟨x, y, e, m x y q⟩
theorem WS.mono {f : Sf} {Q Q' : Po} (h : WS f env Q) (m1 : ∀ e, Q.n e → Q'.n e) (m2 : ∀ d e, Q.r d e → Q'.r d e) (m3 : ∀ d e, Q.l d e → Q'.l d e) : WS f env Q' := by
  obtain ⟨o, e, q⟩ := h
  refine ⟨o, e, ?_⟩
  cases o with
  | nx e => exact m1 _ q
  | rt d e => exact m2 _ _ q
  | rn d e => exact m3 _ _ q
  | rp as ds e => exact m2 _ _ q
/-! expressions -/
theorem we_v {Q : D → En → Prop} (h : env[i]? = some (.val d)) (q : Q d env) : WE (eV i) env Q := ⟨d, env, by unfold eV; rw [h], q⟩
theorem we_oV {Q : D → En → Prop} (h : env[i]? = some (.val d)) (q : Q d env) : WE (eO i) env Q := ⟨d, env, by unfold eO; rw [h], q⟩
theorem we_oW {Q : D → En → Prop} {b : Bool} {ds : List D} (h : env[i]? = some (.own b ds)) (q : Q (.list ds) env) : WE (eO i) env Q := ⟨_, env, by unfold eO; rw [h], q⟩
theorem we_oR {Q : D → En → Prop} {ds : List D} (h : env[i]? = some (.ro ds)) (q : Q (.list ds) env) : WE (eO i) env Q := ⟨_, env, by unfold eO; rw [h], q⟩
theorem we_c {Q : D → En → Prop} (q : Q d env) : WE (eC d) env Q := ⟨_, _, rfl, q⟩
theorem we_un {g : D → Option D} {Q : D → En → Prop} (h : WE fa env fun x e => WO (g x) fun z => Q z e) : WE (eUn g fa) env Q := by
  obtain ⟨x, e, h1, z, h2, q⟩ := h
  exact ⟨z, e, by unfold eUn; rw [h1]; simp [h2], q⟩
theorem we_bin {Q : D → En → Prop} (h : WE fa env fun x e => WE fb e fun y e' => WO (g x y) fun z => Q z e') : WE (eBin g fa fb) env Q := by
  obtain ⟨x, e, h1, y, e', h2, z, h3, q⟩ := h
  exact ⟨z, e', by unfold eBin; simp [h1, h2, h3], q⟩
theorem we_bV {Q : D → En → Prop} {ds : List D} {b : Bool} (h0 : env[i]? = some (.own b ds)) (h : WE fb env fun y e' => WE (eO i) e' fun x _ => WO (g x y) fun z => Q z e') : WE (eBinV g i fb) env Q := by
  obtain ⟨y, e', h2, x, e2, h1, z, h3, q⟩ := h
  exact ⟨z, e', by unfold eBinV; rw [show eO i env = _ from by unfold eO; rw [h0]]; simp only [Option.bind_some, h2, h1, h3, Option.map_some], q⟩
theorem we_bVr {Q : D → En → Prop} {ds : List D} (h0 : env[i]? = some (.ro ds)) (h : WE fb env fun y e' => WE (eO i) e' fun x _ => WO (g x y) fun z => Q z e') : WE (eBinV g i fb) env Q := by
  obtain ⟨y, e', h2, x, e2, h1, z, h3, q⟩ := h
  exact ⟨z, e', by unfold eBinV; rw [show eO i env = _ from by unfold eO; rw [h0]]; simp only [Option.bind_some, h2, h1, h3, Option.map_some], q⟩
theorem we_bVv {Q : D → En → Prop} (h0 : env[i]? = some (.val d)) (h : WE fb env fun y e' => WE (eO i) e' fun x _ => WO (g x y) fun z => Q z e') : WE (eBinV g i fb) env Q := by
  obtain ⟨y, e', h2, x, e2, h1, z, h3, q⟩ := h
  exact ⟨z, e', by unfold eBinV; rw [show eO i env = _ from by unfold eO; rw [h0]]; simp only [Option.bind_some, h2, h1, h3, Option.map_some], q⟩
theorem we_chain {g g' : D → D → Option D} {Q : D → En → Prop} (h : WE fa env fun x e => WE fb e fun y e' => WO (g x y) fun z => IsB z fun b => IfB b (WE fc e' fun w e2 => WO (g' y w) fun z => Q z e2) (Q (.bool false) e')) : WE (eChain g g' fa fb fc) env Q := by
  obtain ⟨x, e, h1, y, e', h2, z, h3, h⟩ := h
  cases z with
  | bool b =>
    cases b with
    | true =>
      obtain ⟨w, e2, h4, z, h5, q⟩ : WE fc e' fun w e2 => WO (g' y w) fun z => Q z e2 := h
      exact ⟨z, e2, by unfold eChain; simp [h1, h2, h3, h4, h5], q⟩
    | false => exact ⟨_, e', by unfold eChain; simp [h1, h2, h3]; (try rfl), h⟩
  | _ => cases h
theorem we_and {Q : D → En → Prop} (h : WE fa env fun x e => IsB x fun b => IfB b (WE fb e Q) (Q (.bool false) e)) : WE (eAnd fa fb) env Q := by
  obtain ⟨x, e, h1, h⟩ := h
  cases x with
  | bool b =>
    cases b with
    | true =>
      obtain ⟨w, e2, h4, q⟩ : WE fb e Q := h
      exact ⟨w, e2, by unfold eAnd; simp [h1, h4], q⟩
    | false => exact ⟨_, e, by unfold eAnd; simp [h1]; (try rfl), h⟩
  | _ => cases h
theorem we_or {Q : D → En → Prop} (h : WE fa env fun x e => IsB x fun b => IfB b (Q (.bool true) e) (WE fb e Q)) : WE (eOr fa fb) env Q := by
  obtain ⟨x, e, h1, h⟩ := h
  cases x with
  | bool b =>
    cases b with
    | false =>
      obtain ⟨w, e2, h4, q⟩ : WE fb e Q := h
      exact ⟨w, e2, by unfold eOr; simp [h1, h4], q⟩
    | true => exact ⟨_, e, by unfold eOr; simp [h1]; (try rfl), h⟩
  | _ => cases h
theorem we_not {Q : D → En → Prop} (h : WE fa env fun x e => IsB x fun b => Q (.bool !b) e) : WE (eNot fa) env Q := by
  obtain ⟨x, e, h1, h⟩ := h
  cases x with
  | bool b => exact ⟨_, e, by unfold eNot; simp [h1]; (try rfl), h⟩
  | _ => cases h
theorem we_if {Q : D → En → Prop} (h : WB p env fun b e => IfB b (WE fa e Q) (WE fb e Q)) : WE (eIf p fa fb) env Q := by
  obtain ⟨b, e, h1, h⟩ := h
  cases b with
  | true => obtain ⟨w, e2, h2, q⟩ : WE fa e Q := h; exact ⟨w, e2, by unfold eIf; simp [h1, h2], q⟩
  | false => obtain ⟨w, e2, h2, q⟩ : WE fb e Q := h; exact ⟨w, e2, by unfold eIf; simp [h1, h2], q⟩
theorem we_fz {Q : D → En → Prop} (h : WL l env fun ds e => Q (.list ds) e) : WE (eFz l) env Q := by
  obtain ⟨x, e, h1, h⟩ := h
  exact ⟨_, e, by unfold eFz; rw [h1]; (try rfl), h⟩
theorem we_tup {Q : D → En → Prop} (h : WL l env fun ds e => Fit ds.length (Q (.tuple ds) e)) : WE (eTup l) env Q := by
  obtain ⟨x, e, h1, h2, h⟩ := h
  exact ⟨_, e, by unfold eTup; simp [h1, h2]; (try rfl), h⟩
def cutOf (x : D) (a b : Option Int) : Option D := match x with
  | .list ds => some (.list (cutD ds a b))
  | .tuple ds => some (.tuple (cutD ds a b))
  | _ => none
theorem wo_cutL {ds : List D} {a b : Option Int} {Q : D → Prop} (q : Q (.list (cutD ds a b))) : WO (cutOf (.list ds) a b) Q := ⟨_, rfl, q⟩
theorem wo_cutT {ds : List D} {a b : Option Int} {Q : D → Prop} (q : Q (.tuple (cutD ds a b))) : WO (cutOf (.tuple ds) a b) Q := ⟨_, rfl, q⟩
theorem we_sl {lo hi : Pf} {Q : D → En → Prop} (h : WE fa env fun x e => WP lo e fun a e1 => WP hi e1 fun b e2 => WO (cutOf x a b) fun z => Q z e2) : WE (eSl fa lo hi) env Q := by
  obtain ⟨x, e, h1, a, e1, h2, b, e2, h3, z, h4, h⟩ := h
  unfold cutOf at h4
  split at h4 <;> cases h4
  · exact ⟨_, e2, by unfold eSl; simp [h1, h2, h3]; (try rfl), h⟩
  · exact ⟨_, e2, by unfold eSl; simp [h1, h2, h3]; (try rfl), h⟩
theorem wp_no {Q : Option Int → En → Prop} (q : Q none env) : WP pNo env Q := ⟨_, _, rfl, q⟩
theorem wp_e {Q : Option Int → En → Prop} (h : WE f env fun x e => IsI x fun n => Q (some n) e) : WP (pE f) env Q := by
  obtain ⟨x, e, h1, h⟩ := h
  cases x with
  | int n => exact ⟨_, e, by unfold pE; rw [h1]; (try rfl), h⟩
  | _ => cases h

/-! lists -/
theorem wl_nil {Q : List D → En → Prop} (q : Q [] env) : WL lNil env Q := ⟨_, _, rfl, q⟩
theorem wl_cons {Q : List D → En → Prop} (h : WE f env fun x e => WL l e fun xs e' => Q (x :: xs) e') : WL (lCons f l) env Q := by
  obtain ⟨x, e, h1, xs, e', h2, q⟩ := h
  exact ⟨_, e', by unfold lCons; simp [h1, h2]; (try rfl), q⟩
theorem wl_lst {Q : List D → En → Prop} (h : WL l env fun ds e => Fit ds.length (Q ds e)) : WL (lLst l) env Q := by
  obtain ⟨x, e, h1, h2, q⟩ := h
  exact ⟨_, e, by unfold lLst; simp [h1, h2]; (try rfl), q⟩
theorem wl_un {g : D → Option (List D)} {Q : List D → En → Prop} (h : WE fa env fun x e => WO (g x) fun z => Q z e) : WL (lUn g fa) env Q := by
  obtain ⟨x, e, h1, z, h2, q⟩ := h
  exact ⟨z, e, by unfold lUn; rw [h1]; simp [h2], q⟩
theorem wl_slV {lo hi : Pf} {Q : List D → En → Prop} {b : Bool} {ds0 : List D} (h0 : env[i]? = some (.own b ds0) ∨ env[i]? = some (.ro ds0)) (h : WP lo env fun a e1 => WP hi e1 fun b e2 => Any e2[i]? fun ds => Q (cutD ds a b) e2) : WL (lSlV i lo hi) env Q := by
  obtain ⟨a, e1, h2, b, e2, h3, c, ds, h4, q⟩ := h
  refine ⟨_, e2, ?_, q⟩
  unfold lSlV
  rcases h0 with h0 | h0 <;> rcases h4 with h4 | h4 <;> · simp [eO, h0, h2, h3]; simp [h4]
theorem wl_slO {lo hi : Pf} {Q : List D → En → Prop} {b : Bool} {ds0 : List D} (h0 : env[i]? = some (.own b ds0)) (h : WP lo env fun a e1 => WP hi e1 fun b e2 => Any e2[i]? fun ds => Q (cutD ds a b) e2) : WL (lSlV i lo hi) env Q := wl_slV (.inl h0) h
theorem wl_slR {lo hi : Pf} {Q : List D → En → Prop} {ds0 : List D} (h0 : env[i]? = some (.ro ds0)) (h : WP lo env fun a e1 => WP hi e1 fun b e2 => Any e2[i]? fun ds => Q (cutD ds a b) e2) : WL (lSlV i lo hi) env Q := wl_slV (b := true) (.inr h0) h
theorem wl_it {Q : List D → En → Prop} (h : WE f env fun x e => IsS x fun ds => Q ds e) : WL (lIt f) env Q := by
  obtain ⟨x, e, h1, h⟩ := h
  cases x with
  | list ds => exact ⟨_, e, by unfold lIt; rw [h1]; rfl, h⟩
  | tuple ds => exact ⟨_, e, by unfold lIt; rw [h1]; rfl, h⟩
  | _ => cases h
theorem wl_rng1 {Q : List D → En → Prop} (h : WE f env fun x e => IsI x fun n => Sml n (Q (irange 0 n.toNat) e)) : WL (lRng1 f) env Q := by
  obtain ⟨x, e, h1, h⟩ := h
  cases x with
  | int n => exact ⟨_, e, by unfold lRng1; rw [h1]; show (if _ then _ else _) = _; rw [if_pos h.1], h.2⟩
  | _ => cases h
theorem wl_rng2 {f' : Ef} {Q : List D → En → Prop} (h : WE f env fun x e => WE f' e fun y e' => IsI x fun m => IsI y fun n => Sml m (Sml n (Q (irange m (n - m).toNat) e'))) : WL (lRng2 f f') env Q := by
  obtain ⟨x, e, h1, y, e', h2, h⟩ := h
  cases x with
  | int m => cases y with
    | int n => exact ⟨_, e', by unfold lRng2; simp [h1, h2, h.1, h.2.1]; (try rfl), h.2.2⟩
    | _ => cases h
  | _ => cases h
theorem wl_enum {Q : List D → En → Prop} (h : WE f env fun x e => IsL x fun ds => Q (pairs (irange 0 ds.length) ds) e) : WL (lEnum f) env Q := by
  obtain ⟨x, e, h1, h⟩ := h
  cases x with
  | list ds => exact ⟨_, e, by unfold lEnum; rw [h1]; rfl, h⟩
  | _ => cases h
/-- a comprehension, by what has been gathered -/
theorem lc_inv {vs : List Nat} {g : Tf} {c : Bf} {f : Ef} (I : List D → List D → En → Prop) : ∀ (ds acc : List D) (env : En), I ds acc env →
    (∀ d ds acc env, I (d :: ds) acc env → WT g d env fun e1 => WB c e1 fun b e2 => IfB b (WE f e2 fun x e3 => I ds (acc ++ [x]) (wipeE e3 vs)) (I ds acc (wipeE e2 vs))) →
    ∃ xs e, lcGo vs g c f ds env = some (xs, e) ∧ I [] (acc ++ xs) e
  | [], acc, env, h, _ => ⟨[], env, rfl, by rw [List.append_nil]; exact h⟩
  | d :: ds, acc, env, h, s => by
    obtain ⟨e1, h1, b, e2, h2, h3⟩ := s d ds acc env h
    cases b with
    | true =>
      obtain ⟨x, e3, h4, h5⟩ : WE f e2 fun x e3 => I ds (acc ++ [x]) (wipeE e3 vs) := h3
      obtain ⟨xs, e4, h6, h7⟩ := lc_inv I ds (acc ++ [x]) _ h5 s
      exact ⟨x :: xs, e4, by unfold lcGo; simp [h1, h2, h4, h6], by rw [List.append_assoc] at h7; exact h7⟩
    | false =>
      obtain ⟨xs, e4, h6, h7⟩ := lc_inv I ds acc _ (show I ds acc (wipeE e2 vs) from h3) s
      exact ⟨xs, e4, by unfold lcGo; simp [h1, h2, h6], h7⟩
theorem wl_comp {vs : List Nat} {g : Tf} {c : Bf} {f : Ef} {Q : List D → En → Prop} (I : List D → List D → List D → En → En → Prop)
    (h : WL l env fun ds e => noOwn e vs = true ∧ fits ds.length = true ∧ I ds ds [] (wipeE e vs) e ∧
      (∀ d rs acc e', I ds (d :: rs) acc e' e → WT g d e' fun e1 => WB c e1 fun b e2 => IfB b (WE f e2 fun x e3 => I ds rs (acc ++ [x]) (wipeE e3 vs) e) (I ds rs acc (wipeE e2 vs) e)) ∧
      ∀ xs e', I ds [] xs e' e → Q xs (backE e e' vs)) : WL (lComp l vs g c f) env Q := by
  obtain ⟨ds, e, h1, h2, h3, h4, h5, h6⟩ := h
  obtain ⟨xs, e', h7, h8⟩ := lc_inv (fun rs acc e' => I ds rs acc e' e) ds [] (wipeE e vs) h4 h5
  exact ⟨xs, backE e e' vs, by unfold lComp; simp [h1, h2, h3, h7], h6 xs e' h8⟩
theorem lc_pure {vs : List Nat} {g : Tf} {c : Bf} {f : Ef} {P : D → Bool} {F : D → D} {env : En} : ∀ (ds : List D),
    (∀ d ∈ ds, WT g d env fun e1 => WB c e1 fun b e2 => b = P d ∧ IfB b (WE f e2 fun x e3 => x = F d ∧ wipeE e3 vs = env) (wipeE e2 vs = env)) →
    lcGo vs g c f ds env = some ((ds.filter P).map F, env)
  | [], _ => rfl
  | d :: ds, s => by
    have ih := lc_pure (vs := vs) (g := g) (c := c) (f := f) (P := P) (F := F) (env := env) ds fun d hd => s d (List.mem_cons_of_mem _ hd)
    obtain ⟨e1, h1, b, e2, h2, h3, h4⟩ := s d List.mem_cons_self
    cases b with
    | true =>
      obtain ⟨x, e3, h4, h5, h6⟩ : WE f e2 fun x e3 => x = F d ∧ wipeE e3 vs = env := h4
      unfold lcGo; simp [h1, h2, h4, h5, h6, ih, ← h3]
    | false =>
      have h6 : wipeE e2 vs = env := h4
      unfold lcGo; simp [h1, h2, h6, ih, ← h3]
/-- a comprehension that touches no slot -/
theorem wl_compP {vs : List Nat} {g : Tf} {c : Bf} {f : Ef} {Q : List D → En → Prop} (P : List D → D → Bool) (F : List D → D → D)
    (h : WL l env fun ds e => noOwn e vs = true ∧ fits ds.length = true ∧
      (∀ d ∈ ds, WT g d (wipeE e vs) fun e1 => WB c e1 fun b e2 => b = P ds d ∧ IfB b (WE f e2 fun x e3 => x = F ds d ∧ wipeE e3 vs = wipeE e vs) (wipeE e2 vs = wipeE e vs)) ∧
      Q ((ds.filter (P ds)).map (F ds)) (backE e (wipeE e vs) vs)) : WL (lComp l vs g c f) env Q := by
  obtain ⟨ds, e, h1, h2, h3, h4, q⟩ := h
  exact ⟨_, _, by unfold lComp; simp [h1, h2, h3, lc_pure ds h4], q⟩

theorem wc_nil {vs : List Nat} {g : Tf} {c : Bf} {f : Ef} {Q : List D → En → Prop} (q : Q [] env) : WC vs g c f [] env Q := ⟨[], env, rfl, q⟩
theorem wc_cons {vs : List Nat} {g : Tf} {c : Bf} {f : Ef} {ds : List D} {Q : List D → En → Prop} (h : WT g d env fun e1 => WB c e1 fun b e2 => IfB b (WE f e2 fun x e3 => Nrm (wipeE e3 vs) fun e4 => WC vs g c f ds e4 fun xs e => Q (x :: xs) e) (Nrm (wipeE e2 vs) fun e4 => WC vs g c f ds e4 Q)) : WC vs g c f (d :: ds) env Q := by
  obtain ⟨e1, h1, b, e2, h2, h3⟩ := h
  cases b with
  | true =>
    obtain ⟨x, e3, h4, xs, e, h5, q⟩ : WE f e2 fun x e3 => WC vs g c f ds (wipeE e3 vs) fun xs e => Q (x :: xs) e := h3
    exact ⟨x :: xs, e, by unfold lcGo; simp [h1, h2, h4, h5], q⟩
  | false =>
    obtain ⟨xs, e, h5, q⟩ : WC vs g c f ds (wipeE e2 vs) Q := h3
    exact ⟨xs, e, by unfold lcGo; simp [h1, h2, h5], q⟩
/-! tests -/
theorem wb_v {Q : Bool → En → Prop} (h : WE f env fun x e => IsB x fun b => Q b e) : WB (bV f) env Q := by
  obtain ⟨x, e, h1, h⟩ := h
  cases x with
  | bool b => exact ⟨_, e, by unfold bV; rw [h1]; (try rfl), h⟩
  | _ => cases h
theorem wb_and {Q : Bool → En → Prop} (h : WB p env fun b e => IfB b (WB q e Q) (Q false e)) : WB (bAnd p q) env Q := by
  obtain ⟨b, e, h1, h⟩ := h
  cases b with
  | true => obtain ⟨b, e', h2, q⟩ : WB q e Q := h; exact ⟨b, e', by unfold bAnd; simp [h1, h2], q⟩
  | false => exact ⟨_, e, by unfold bAnd; simp [h1]; (try rfl), h⟩
theorem wb_or {Q : Bool → En → Prop} (h : WB p env fun b e => IfB b (Q true e) (WB q e Q)) : WB (bOr p q) env Q := by
  obtain ⟨b, e, h1, h⟩ := h
  cases b with
  | false => obtain ⟨b, e', h2, q⟩ : WB q e Q := h; exact ⟨b, e', by unfold bOr; simp [h1, h2], q⟩
  | true => exact ⟨_, e, by unfold bOr; simp [h1]; (try rfl), h⟩
theorem wb_not {Q : Bool → En → Prop} (h : WB p env fun b e => Q (!b) e) : WB (bNot p) env Q := by
  obtain ⟨b, e, h1, h⟩ := h
  exact ⟨_, e, by unfold bNot; rw [h1]; (try rfl), h⟩
theorem wb_yes {Q : Bool → En → Prop} (q : Q true env) : WB bYes env Q := ⟨_, _, rfl, q⟩

/-! targets -/
theorem wt_n {Q : En → Prop} (q : Nrm (env.set i (.val d)) Q) : WT (tN i) d env Q := ⟨_, rfl, q⟩
theorem wt_t {n : Nat} {r : List D → En → Option En} {ds : List D} {Q : En → Prop} (hl : ds.length = n) (h : WTs r ds env Q) : WT (tT n r) (.tuple ds) env Q := by
  obtain ⟨e, h, q⟩ := h
  exact ⟨e, by unfold tT; simp [hl, h], q⟩
theorem wts_nil {Q : En → Prop} (q : Q env) : WTs gsN [] env Q := ⟨_, rfl, q⟩
theorem wts_cons {g : Tf} {r : List D → En → Option En} {ds : List D} {Q : En → Prop} (h : WT g d env fun e => WTs r ds e Q) : WTs (gsC g r) (d :: ds) env Q := by
  obtain ⟨e, h1, e', h2, q⟩ := h
  exact ⟨e', by unfold gsC; simp [h1, h2], q⟩

/-! calls -/
theorem wa_nil {Q : List Ar → En → Prop} (q : Q [] env) : WA aNil env Q := ⟨_, _, rfl, q⟩
theorem wa_v {a : Af} {Q : List Ar → En → Prop} (h : WE f env fun x e => WA a e fun xs e' => Q (.v x :: xs) e') : WA (aV f a) env Q := by
  obtain ⟨x, e, h1, xs, e', h2, q⟩ := h
  exact ⟨_, e', by unfold aV; simp [h1, h2]; (try rfl), q⟩
theorem wa_r {a : Af} {Q : List Ar → En → Prop} {b : Bool} {ds : List D} (h0 : env[i]? = some (.own b ds)) (h : WA a env fun xs e' => Q (.r i :: xs) e') : WA (aR i a) env Q := by
  obtain ⟨xs, e', h2, q⟩ := h
  exact ⟨_, e', by unfold aR; simp [eO, h0, h2]; (try rfl), q⟩
theorem wa_o {a : Af} {Q : List Ar → En → Prop} (h0 : ∃ d, eO i env = some (d, env)) (h : WA a env fun xs e' => Q (.o i :: xs) e') : WA (aO i a) env Q := by
  obtain ⟨_, h0⟩ := h0
  obtain ⟨xs, e', h2, q⟩ := h
  exact ⟨_, e', by unfold aO; simp [h0, h2]; (try rfl), q⟩
theorem wa_oR {a : Af} {Q : List Ar → En → Prop} {ds : List D} (h0 : env[i]? = some (.ro ds)) (h : WA a env fun xs e' => Q (.o i :: xs) e') : WA (aO i a) env Q := wa_o ⟨_, by unfold eO; rw [h0]⟩ h
theorem wa_oO {a : Af} {Q : List Ar → En → Prop} {b : Bool} {ds : List D} (h0 : env[i]? = some (.own b ds)) (h : WA a env fun xs e' => Q (.o i :: xs) e') : WA (aO i a) env Q := wa_o ⟨_, by unfold eO; rw [h0]⟩ h
theorem wa_oV {a : Af} {Q : List Ar → En → Prop} (h0 : env[i]? = some (.val d)) (h : WA a env fun xs e' => Q (.o i :: xs) e') : WA (aO i a) env Q := wa_o ⟨_, by unfold eO; rw [h0]⟩ h
theorem we_call {g : Gf} {fa : Af} {Q : D → En → Prop} (h : WA fa env fun as e => CallG g as e Q) : WE (eCall g fa) env Q := by
  obtain ⟨as, e, h1, h⟩ := h
  rcases h with ⟨h3, args, h2, d, a', h4, q⟩ | ⟨i, h3, h4, args, h2, d, a', h5, e', h6, q⟩
  · exact ⟨d, e, by unfold eCall; simp [h1, h2, h3, h4], q⟩
  · exact ⟨d, e', by unfold eCall; simp only [h1, Option.bind_some, h3]; simp [show i ∉ oSlots as from fun z => by simp [z] at h4, h2, h5, h6], q⟩
theorem wl_call {g : Hf} {fa : Af} {Q : List D → En → Prop} (h : WA fa env fun as e => CallH g as e Q) : WL (lCall g fa) env Q := by
  obtain ⟨as, e, h1, h⟩ := h
  rcases h with ⟨h3, args, h2, d, a', h4, q⟩ | ⟨i, h3, h4, args, h2, d, a', h5, e', h6, q⟩
  · exact ⟨d, e, by unfold lCall; simp [h1, h2, h3, h4], q⟩
  · exact ⟨d, e', by unfold lCall; simp only [h1, Option.bind_some, h3]; simp [show i ∉ oSlots as from fun z => by simp [z] at h4, h2, h5, h6], q⟩
theorem cg0 {g : Gf} {as : List Ar} {Q : D → En → Prop} (h : rSlots as = []) (q : WO (resArs env as) fun args => WG g args fun d _ => Q d env) : CallG g as env Q := .inl ⟨h, q⟩
theorem cg1 {g : Gf} {as : List Ar} {Q : D → En → Prop} (h : rSlots as = [i]) (h2 : (oSlots as).contains i = false) (q : WO (resArs env as) fun args => WG g args fun d a' => WO (backAr env as a') fun e' => Q d e') : CallG g as env Q := .inr ⟨i, h, h2, q⟩
theorem ch0 {g : Hf} {as : List Ar} {Q : List D → En → Prop} (h : rSlots as = []) (q : WO (resArs env as) fun args => WH g args fun d _ => Q d env) : CallH g as env Q := .inl ⟨h, q⟩
theorem ch1 {g : Hf} {as : List Ar} {Q : List D → En → Prop} (h : rSlots as = [i]) (h2 : (oSlots as).contains i = false) (q : WO (resArs env as) fun args => WH g args fun d a' => WO (backAr env as a') fun e' => Q d e') : CallH g as env Q := .inr ⟨i, h, h2, q⟩
theorem res_nil {Q : List Sl → Prop} (q : Q []) : WO (resArs env []) Q := ⟨_, rfl, q⟩
theorem res_cons {a : Ar} {as : List Ar} {x : Sl} {Q : List Sl → Prop} (h : resAr env a = some x) (q : WO (resArs env as) fun xs => Q (x :: xs)) : WO (resArs env (a :: as)) Q := by
  obtain ⟨xs, h2, q⟩ := q
  exact ⟨_, by unfold resArs; simp [h, h2], q⟩
theorem res_v {as : List Ar} {Q : List Sl → Prop} (q : WO (resArs env as) fun xs => Q (.val d :: xs)) : WO (resArs env (.v d :: as)) Q := res_cons rfl q
theorem res_r {as : List Ar} {b : Bool} {ds : List D} {Q : List Sl → Prop} (h : env[i]? = some (.own b ds)) (q : WO (resArs env as) fun xs => Q (.own false ds :: xs)) : WO (resArs env (.r i :: as)) Q := res_cons (by unfold resAr; dsimp only; rw [h]) q
theorem res_oO {as : List Ar} {b : Bool} {ds : List D} {Q : List Sl → Prop} (h : env[i]? = some (.own b ds)) (q : WO (resArs env as) fun xs => Q (.ro ds :: xs)) : WO (resArs env (.o i :: as)) Q := res_cons (by unfold resAr; dsimp only; rw [h]) q
theorem res_oR {as : List Ar} {ds : List D} {Q : List Sl → Prop} (h : env[i]? = some (.ro ds)) (q : WO (resArs env as) fun xs => Q (.ro ds :: xs)) : WO (resArs env (.o i :: as)) Q := res_cons (by unfold resAr; dsimp only; rw [h]) q
theorem res_oV {as : List Ar} {ds : List D} {Q : List Sl → Prop} (h : env[i]? = some (.val (.list ds))) (q : WO (resArs env as) fun xs => Q (.ro ds :: xs)) : WO (resArs env (.o i :: as)) Q := res_cons (by unfold resAr; dsimp only; rw [h]) q
theorem back_nil {xs : List Sl} {Q : En → Prop} (q : Q env) : WO (backAr env [] xs) Q := ⟨_, by unfold backAr; (try rfl), q⟩
theorem back_v {as : List Ar} {x : Sl} {xs : List Sl} {Q : En → Prop} (q : WO (backAr env as xs) Q) : WO (backAr env (.v d :: as) (x :: xs)) Q := q
theorem back_o {as : List Ar} {x : Sl} {xs : List Sl} {Q : En → Prop} (q : WO (backAr env as xs) Q) : WO (backAr env (.o i :: as) (x :: xs)) Q := q
theorem back_r {as : List Ar} {ds ds0 : List D} {b : Bool} {xs : List Sl} {Q : En → Prop} (h : env[i]? = some (.own b ds0)) (q : Nrm (env.set i (.own b ds)) fun e => WO (backAr e as xs) Q) : WO (backAr env (.r i :: as) (.own false ds :: xs)) Q := by
  obtain ⟨e, h1, q⟩ := q
  exact ⟨e, by unfold backAr; rw [h]; exact h1, q⟩

/-! methods -/
theorem we_mut {g : List D → D → Option (List D × D)} {Q : D → En → Prop} {b : Bool} {ds0 : List D} (h0 : env[i]? = some (.own b ds0)) (h : WE f env fun x e => Own e[i]? fun l ds => WO (g ds x) fun r => Nrm (e.set i (.own l r.1)) (Q r.2)) : WE (eMut g i f) env Q := by
  obtain ⟨x, e, h1, l, ds, h2, r, h3, q⟩ := h
  exact ⟨_, _, by unfold eMut isOwn; rw [h0]; simp only [if_true, h1, Option.bind_some, h2, h3]; (try rfl), q⟩
theorem we_mut0 {g : List D → Option (List D × D)} {Q : D → En → Prop} {b : Bool} {ds : List D} (h0 : env[i]? = some (.own b ds)) (h : WO (g ds) fun r => Nrm (env.set i (.own b r.1)) (Q r.2)) : WE (eMut0 g i) env Q := by
  obtain ⟨r, h3, q⟩ := h
  exact ⟨_, _, by unfold eMut0; rw [h0]; simp only [h3]; (try rfl), q⟩

/-! statements -/
theorem ws_nil {N : En → Prop} {R : D → En → Prop} {L : List D → En → Prop} (q : N env) : WS sNil env ⟨N, R, L⟩ := ⟨.nx env, rfl, q⟩
theorem ws_seq {f g : Sf} {N : En → Prop} {R : D → En → Prop} {L : List D → En → Prop} (h : WS f env ⟨fun e => WS g e ⟨N, R, L⟩, R, L⟩) : WS (sSeq f g) env ⟨N, R, L⟩ := by
  obtain ⟨o, h1, h⟩ := h
  cases o with
  | nx e =>
    obtain ⟨o, h2, q⟩ : WS g e ⟨N, R, L⟩ := h
    exact ⟨o, by unfold sSeq; simp [h1, h2], q⟩
  | rt d e => exact ⟨.rt d e, by unfold sSeq; simp [h1]; (try rfl), h⟩
  | rn d e => exact ⟨.rn d e, by unfold sSeq; simp [h1]; (try rfl), h⟩
  | rp d d2 e => exact ⟨.rp d d2 e, by unfold sSeq; simp [h1]; (try rfl), h⟩
theorem ws_cut {f : Sf} {N : En → Prop} {R : D → En → Prop} {L : List D → En → Prop} (I : En → Prop) (h : WS f env ⟨I, R, L⟩) (h2 : ∀ e, I e → N e) : WS f env ⟨N, R, L⟩ := h.mono (fun e q => h2 e q) (fun _ _ q => q) fun _ _ q => q
/-- with a resting place between the two -/
theorem ws_mid {f g : Sf} {N : En → Prop} {R : D → En → Prop} {L : List D → En → Prop} (I : En → Prop) (h : WS f env ⟨I, R, L⟩) (h2 : ∀ e, I e → WS g e ⟨N, R, L⟩) : WS (sSeq f g) env ⟨N, R, L⟩ := ws_seq (h.mono (fun e q => h2 e q) (fun _ _ q => q) fun _ _ q => q)
theorem ws_expr {N : En → Prop} {R : D → En → Prop} {L : List D → En → Prop} (h : WE f env fun _ e => N e) : WS (sExpr f) env ⟨N, R, L⟩ := by
  obtain ⟨x, e, h1, q⟩ := h
  exact ⟨.nx e, by unfold sExpr; rw [h1]; (try rfl), q⟩
theorem ws_ret {N : En → Prop} {R : D → En → Prop} {L : List D → En → Prop} (h : WE f env R) : WS (sRet f) env ⟨N, R, L⟩ := by
  obtain ⟨x, e, h1, q⟩ := h
  exact ⟨.rt x e, by unfold sRet; rw [h1]; (try rfl), q⟩
theorem ws_retL {N : En → Prop} {R : D → En → Prop} {L : List D → En → Prop} (h : WL l env L) : WS (sRetL l) env ⟨N, R, L⟩ := by
  obtain ⟨x, e, h1, q⟩ := h
  exact ⟨.rn x e, by unfold sRetL; rw [h1]; (try rfl), q⟩
theorem ws_retN {N : En → Prop} {R : D → En → Prop} {L : List D → En → Prop} (q : R .none env) : WS sRetN env ⟨N, R, L⟩ := ⟨.rt .none env, rfl, q⟩
theorem ws_retO {N : En → Prop} {R : D → En → Prop} {L : List D → En → Prop} {ds : List D} (h : env[i]? = some (.own true ds)) (q : Nrm (env.set i .no) (L ds)) : WS (sRetO i) env ⟨N, R, L⟩ := ⟨.rn ds _, by unfold sRetO; rw [h], q⟩
theorem ws_frz {f : Sf} {N : En → Prop} {R : D → En → Prop} {L : List D → En → Prop} {ds : List D} (h : env[i]? = some (.own true ds)) (q : Nrm (env.set i (.val (.list ds))) fun e => WS f e ⟨N, R, L⟩) : WS (sFrz i f) env ⟨N, R, L⟩ := by
  obtain ⟨o, h1, q⟩ := q
  exact ⟨o, by unfold sFrz frz; rw [h]; exact h1, q⟩
theorem ws_frzV {f : Sf} {N : En → Prop} {R : D → En → Prop} {L : List D → En → Prop} (h : env[i]? = some (.val d)) (q : WS f env ⟨N, R, L⟩) : WS (sFrz i f) env ⟨N, R, L⟩ := by
  obtain ⟨o, h1, q⟩ := q
  exact ⟨o, by unfold sFrz frz; rw [h]; exact h1, q⟩
theorem ws_if {f g : Sf} {N : En → Prop} {R : D → En → Prop} {L : List D → En → Prop} (h : WB c env fun b e => IfB b (WS f e ⟨N, R, L⟩) (WS g e ⟨N, R, L⟩)) : WS (sIf c f g) env ⟨N, R, L⟩ := by
  obtain ⟨b, e, h1, h⟩ := h
  cases b with
  | true => obtain ⟨o, h2, q⟩ : WS f e ⟨N, R, L⟩ := h; exact ⟨o, by unfold sIf; simp [h1, h2], q⟩
  | false => obtain ⟨o, h2, q⟩ : WS g e ⟨N, R, L⟩ := h; exact ⟨o, by unfold sIf; simp [h1, h2], q⟩
theorem ws_set {N : En → Prop} {R : D → En → Prop} {L : List D → En → Prop} (h : WE f env fun x e => Nrm (e.set i (.val x)) N) : WS (sSet i f) env ⟨N, R, L⟩ := by
  obtain ⟨x, e, h1, q⟩ := h
  exact ⟨.nx _, by unfold sSet; rw [h1]; (try rfl), q⟩
theorem ws_setO {N : En → Prop} {R : D → En → Prop} {L : List D → En → Prop} (h : WL l env fun x e => Nrm (e.set i (.own true x)) N) : WS (sSetO i l) env ⟨N, R, L⟩ := by
  obtain ⟨x, e, h1, q⟩ := h
  exact ⟨.nx _, by unfold sSetO; rw [h1]; (try rfl), q⟩
theorem ws_asg {g : Tf} {N : En → Prop} {R : D → En → Prop} {L : List D → En → Prop} (h : WE f env fun x e => WT g x e N) : WS (sAsg f g) env ⟨N, R, L⟩ := by
  obtain ⟨x, e, h1, e', h2, q⟩ := h
  exact ⟨.nx _, by unfold sAsg; simp [h1, h2]; (try rfl), q⟩
theorem ws_par {N : En → Prop} {R : D → En → Prop} {L : List D → En → Prop} (h : WL l env fun ds e => Two ds fun x y => Nrm ((e.set i (.val x)).set j (.val y)) N) : WS (sPar i j l) env ⟨N, R, L⟩ := by
  obtain ⟨x, e, h1, h⟩ := h
  unfold Two at h
  split at h
  case h_2 => cases h
  have q := h
  exact ⟨.nx _, by unfold sPar; rw [h1]; (try rfl), q⟩
theorem ws_putI {fk fe : Ef} {N : En → Prop} {R : D → En → Prop} {L : List D → En → Prop} {b : Bool} {ds0 : List D} (h0 : env[i]? = some (.own b ds0)) (h : WE fe env fun x e => WE fk e fun y e' => IsI y fun k => Own e'[i]? fun l ds => WO (ixN ds.length k) fun j => Nrm (e'.set i (.own l (ds.set j x))) N) : WS (sPutI i fk fe) env ⟨N, R, L⟩ := by
  obtain ⟨x, e, h1, y, e', h2, h⟩ := h
  cases y with
  | int k =>
    obtain ⟨l, ds, h3, j, h4, q⟩ := h
    exact ⟨.nx _, by unfold sPutI isOwn; rw [h0]; simp only [if_true]; unfold sPut; simp only [h1, h2, Option.bind_some, h3, h4]; (try rfl), q⟩
  | _ => cases h
/-- for: by what is still to be walked -/
theorem for_go {g : Tf} {body : Sf} {N : En → Prop} {R : D → En → Prop} {L : List D → En → Prop} (I : List D → En → Prop) : ∀ (ds : List D) (env : En), I ds env →
    (∀ d rs e, I (d :: rs) e → WT g d e fun e1 => WS body e1 ⟨I rs, R, L⟩) → (∀ e, I [] e → N e) → WS (forGo g body ds) env ⟨N, R, L⟩
  | [], env, h, _, q => ⟨.nx env, rfl, q env h⟩
  | d :: ds, env, h, s, q => by
    obtain ⟨e1, h1, o, h2, h3⟩ := s d ds env h
    cases o with
    | nx e =>
      obtain ⟨o, h4, h5⟩ := for_go I ds e h3 s q
      exact ⟨o, by unfold forGo; simp [h1, h2, h4], h5⟩
    | rt d e => exact ⟨.rt d e, by unfold forGo; simp [h1, h2]; (try rfl), h3⟩
    | rn d e => exact ⟨.rn d e, by unfold forGo; simp [h1, h2]; (try rfl), h3⟩
    | rp d d2 e => exact ⟨.rp d d2 e, by unfold forGo; simp [h1, h2]; (try rfl), h3⟩
theorem ws_for {g : Tf} {body : Sf} {N : En → Prop} {R : D → En → Prop} {L : List D → En → Prop} (I : List D → List D → En → Prop) (h : WL l env fun ds e => I ds ds e ∧ (∀ d rs e, I ds (d :: rs) e → WT g d e fun e1 => WS body e1 ⟨I ds rs, R, L⟩) ∧ ∀ e, I ds [] e → N e) : WS (sFor l g body) env ⟨N, R, L⟩ := by
  obtain ⟨ds, e, h1, h2, h3, h4⟩ := h
  obtain ⟨o, h5, q⟩ := for_go (I ds) ds e h2 h3 h4
  exact ⟨o, by unfold sFor; simp [h1, h5], q⟩
/-- for: by the turn -/
theorem ws_forN {g : Tf} {body : Sf} {N : En → Prop} {R : D → En → Prop} {L : List D → En → Prop} (I : List D → Nat → En → Prop) (h : WL l env fun ds e => I ds 0 e ∧ (∀ k d e, k < ds.length → ds[k]? = some d → I ds k e → WT g d e fun e1 => WS body e1 ⟨I ds (k + 1), R, L⟩) ∧ ∀ e, I ds ds.length e → N e) : WS (sFor l g body) env ⟨N, R, L⟩ := by
  obtain ⟨ds, e, h1, h2, h3, h4⟩ := h
  obtain ⟨o, h5, q⟩ := for_go (N := N) (R := R) (L := L) (body := body) (g := g) (fun rs e => ∃ k, k ≤ ds.length ∧ ds.drop k = rs ∧ I ds k e) ds e ⟨0, Nat.zero_le _, rfl, h2⟩ (fun d rs e ⟨k, hk, h5, h6⟩ => by
    have hlt : k < ds.length := by
      rcases Nat.lt_or_ge k ds.length with h | h
      · exact h
      · rw [List.drop_eq_nil_of_le h] at h5; cases h5
    have e1 : ds[k]? = some d := by
      rw [List.drop_eq_getElem_cons hlt] at h5
      injection h5 with h5 _
      rw [List.getElem?_eq_getElem hlt, h5]
    obtain ⟨x1, h7, o, h8, h9⟩ := h3 k d e hlt e1 h6
    refine ⟨x1, h7, o, h8, ?_⟩
    cases o with
    | nx e' =>
      refine ⟨k + 1, hlt, ?_, h9⟩
      rw [List.drop_eq_getElem_cons hlt] at h5
      injection h5 with _ h5
    | rt d e => exact h9
    | rn d e => exact h9
    | rp d d2 e => exact h9) (fun e ⟨k, hk, h5, h6⟩ => by
    have : k = ds.length := by
      rw [List.drop_eq_nil_iff] at h5
      omega
    subst this
    exact h4 e h6)
  exact ⟨o, by unfold sFor; simp [h1, h5], q⟩
/-! defs -/
theorem wg_run {n np : Nat} {f : Sf} {args : List Sl} {Q : D → List Sl → Prop} (hl : args.length = np) (h : Nrm (args ++ List.replicate (n - np) .no) fun e => WS f e ⟨fun e => Q .none (e.take np), fun d e => Q d (e.take np), fun ds e => Q (.list ds) (e.take np)⟩) : WG (fnRun n np f) args Q := by
  obtain ⟨o, h1, q⟩ := h
  cases o with
  | nx e => exact ⟨_, _, by unfold fnRun; rw [if_pos hl, h1], q⟩
  | rt d e => exact ⟨_, _, by unfold fnRun; rw [if_pos hl, h1], q⟩
  | rn d e => exact ⟨_, _, by unfold fnRun; rw [if_pos hl, h1], q⟩
  | rp d d2 e => exact ⟨_, _, by unfold fnRun; rw [if_pos hl, h1], q⟩
theorem wh_new {n np : Nat} {f : Sf} {args : List Sl} {Q : List D → List Sl → Prop} (hl : args.length = np) (h : Nrm (args ++ List.replicate (n - np) .no) fun e => WS f e ⟨fun e => False, fun d e => False, fun ds e => Q ds (e.take np)⟩) : WH (fnNew n np f) args Q := by
  obtain ⟨o, h1, q⟩ := h
  cases o with
  | nx e => cases q
  | rt d e => cases q
  | rn d e => exact ⟨_, _, by unfold fnNew; rw [if_pos hl, h1], q⟩
  | rp d d2 e => cases q

/-! what is worked out -/
variable {Q : D → Prop} {a b : Int}
theorem wo_add (q : Q (.int (a + b))) : WO (gAdd (.int a) (.int b)) Q := ⟨_, rfl, q⟩
theorem wo_addL {xs ys : List D} (h : fits (xs.length + ys.length) = true) (q : Q (.list (xs ++ ys))) : WO (gAdd (.list xs) (.list ys)) Q := ⟨_, by unfold gAdd; dsimp only; rw [if_pos h], q⟩
theorem wo_addT {xs ys : List D} (h : fits (xs.length + ys.length) = true) (q : Q (.tuple (xs ++ ys))) : WO (gAdd (.tuple xs) (.tuple ys)) Q := ⟨_, by unfold gAdd; dsimp only; rw [if_pos h], q⟩
theorem wo_sub (q : Q (.int (a - b))) : WO (gSub (.int a) (.int b)) Q := ⟨_, rfl, q⟩
theorem wo_mul (h : mulOk a b = true) (q : Q (.int (a * b))) : WO (gMul (.int a) (.int b)) Q := ⟨_, by unfold gMul; dsimp only; rw [if_pos h], q⟩
theorem wo_div (h1 : 0 < b) (h2 : b < 10 ^ 250 * 10 ^ 250) (q : Q (.int (a / b))) : WO (gDiv (.int a) (.int b)) Q := ⟨_, by unfold gDiv divOk; dsimp only; rw [decide_eq_true h1, decide_eq_true h2]; (try rfl), q⟩
theorem wo_mod (h1 : 0 < b) (q : Q (.int (a % b))) : WO (gMod (.int a) (.int b)) Q := ⟨_, by unfold gMod; dsimp only; rw [decide_eq_true h1]; (try rfl), q⟩
theorem wo_neg (q : Q (.int (-a))) : WO (gNeg (.int a)) Q := ⟨_, rfl, q⟩
theorem wo_lt (q : Q (.bool (decide (a < b)))) : WO (gLt (.int a) (.int b)) Q := ⟨_, rfl, q⟩
theorem wo_le (q : Q (.bool (decide (a ≤ b)))) : WO (gLe (.int a) (.int b)) Q := ⟨_, rfl, q⟩
theorem wo_gt (q : Q (.bool (decide (b < a)))) : WO (gGt (.int a) (.int b)) Q := ⟨_, rfl, q⟩
theorem wo_ge (q : Q (.bool (decide (b ≤ a)))) : WO (gGe (.int a) (.int b)) Q := ⟨_, rfl, q⟩
theorem shp_int : shp (.int a) = true := rfl
theorem eqv_int : PyData.eqv (.int a) (.int b) = decide (a = b) := by unfold PyData.eqv; by_cases h : a = b <;> simp [h]
theorem wo_eq (q : Q (.bool (decide (a = b)))) : WO (gEq (.int a) (.int b)) Q := ⟨_, by unfold gEq; rw [shp_int, shp_int]; simp only [Bool.and_self, if_true]; rw [eqv_int], q⟩
theorem wo_ne (q : Q (.bool (!decide (a = b)))) : WO (gNe (.int a) (.int b)) Q := ⟨_, by unfold gNe; rw [shp_int, shp_int]; simp only [Bool.and_self, if_true]; rw [eqv_int], q⟩
theorem eqv_bool {a b : Bool} : PyData.eqv (.bool a) (.bool b) = (a == b) := by unfold PyData.eqv; rfl
theorem wo_eqB {a b : Bool} (q : Q (.bool (a == b))) : WO (gEq (.bool a) (.bool b)) Q := ⟨_, by unfold gEq; rw [show shp (.bool a) = true from rfl, show shp (.bool b) = true from rfl]; simp only [Bool.and_self, if_true]; rw [eqv_bool], q⟩
theorem wo_neB {a b : Bool} (q : Q (.bool (!(a == b)))) : WO (gNe (.bool a) (.bool b)) Q := ⟨_, by unfold gNe; rw [show shp (.bool a) = true from rfl, show shp (.bool b) = true from rfl]; simp only [Bool.and_self, if_true]; rw [eqv_bool], q⟩
theorem wo_eqD (h1 : shp d = true) (h2 : shp e = true) (q : Q (.bool (PyData.eqv d e))) : WO (gEq d e) Q := ⟨_, by unfold gEq; rw [h1, h2]; (try rfl), q⟩
theorem wo_neD (h1 : shp d = true) (h2 : shp e = true) (q : Q (.bool (!PyData.eqv d e))) : WO (gNe d e) Q := ⟨_, by unfold gNe; rw [h1, h2]; (try rfl), q⟩
theorem atI_ix {α : Type} {xs : List α} {k : Int} (h1 : 0 ≤ k) (h2 : k < xs.length) : atI xs k = some (xs[k.toNat]'(by omega)) := by
  unfold atI ixN
  rw [if_pos h1, if_pos h2]
  simp only [Option.bind_some]
  exact List.getElem?_eq_getElem _
theorem wo_idxL {ds : List D} {k : Int} (h1 : 0 ≤ k) (h2 : k < ds.length) (q : ∀ d, ds[k.toNat]? = some d → d ∈ ds → Q d) : WO (gIdx (.list ds) (.int k)) Q :=
  ⟨_, atI_ix h1 h2, q _ (List.getElem?_eq_getElem _) (List.getElem_mem _)⟩
theorem wo_idxE {x d : D} {k : Int} (h : gIdx d (.int k) = some x) (q : Q x) : WO (gIdx d (.int k)) Q := ⟨_, h, q⟩
theorem wo_lenL {ds : List D} (q : Q (.int (ds.length : Int))) : WO (gLen (.list ds)) Q := ⟨_, rfl, q⟩
theorem wo_lenT {ds : List D} (q : Q (.int (ds.length : Int))) : WO (gLen (.tuple ds)) Q := ⟨_, rfl, q⟩
theorem wo_abs (q : Q (.int (if a < 0 then -a else a))) : WO (gAbs (.int a)) Q := ⟨_, rfl, q⟩
theorem wo_intB {b : Bool} (q : Q (.int (if b then 1 else 0))) : WO (gInt (.bool b)) Q := ⟨_, rfl, q⟩
theorem wo_intI (q : Q (.int a)) : WO (gInt (.int a)) Q := ⟨_, rfl, q⟩
theorem wo_listL {ds : List D} {Q : List D → Prop} (q : Q ds) : WO (gList (.list ds)) Q := ⟨_, rfl, q⟩
theorem wo_listT {ds : List D} {Q : List D → Prop} (q : Q ds) : WO (gList (.tuple ds)) Q := ⟨_, rfl, q⟩
theorem wo_tupL {ds : List D} (q : Q (.tuple ds)) : WO (gTuple (.list ds)) Q := ⟨_, rfl, q⟩
theorem wo_tupT {ds : List D} (q : Q (.tuple ds)) : WO (gTuple (.tuple ds)) Q := ⟨_, rfl, q⟩
theorem wo_all {ns : List Bool} {ds : List D} (h : ds = ns.map .bool) (q : Q (.bool (ns.all id))) : WO (gAll (.list ds)) Q := ⟨_, by subst h; unfold gAll; dsimp only; rw [blsOf_map]; (try rfl), q⟩
theorem wo_max (q : Q (.int (if b > a then b else a))) : WO (gMax2 (.int a) (.int b)) Q := ⟨_, rfl, q⟩
theorem wo_min (q : Q (.int (if b < a then b else a))) : WO (gMin2 (.int a) (.int b)) Q := ⟨_, rfl, q⟩
theorem wo_app {ds : List D} {Q : List D × D → Prop} (h : fits (ds.length + 1) = true) (q : Q (ds ++ [d], .none)) : WO (mAppend ds d) Q := ⟨_, by unfold mAppend; rw [if_pos h], q⟩
theorem wo_ext {ds es : List D} {Q : List D × D → Prop} (h : fits (ds.length + es.length) = true) (q : Q (ds ++ es, .none)) : WO (mExtend ds (.list es)) Q := ⟨_, by unfold mExtend; dsimp only; rw [if_pos h], q⟩
theorem wo_isN (q : Q (.bool (isNone d))) : WO (gIsN d .none) Q := ⟨_, rfl, q⟩
theorem wo_ntN (q : Q (.bool (!isNone d))) : WO (gNtN d .none) Q := ⟨_, rfl, q⟩
theorem wo_isiE {T : Ty} {z : D} (h : gIsi T d = some z) (q : Q z) : WO (gIsi T d) Q := ⟨z, h, q⟩
theorem wo_allE {z : D} (h : gAll d = some z) (q : Q z) : WO (gAll d) Q := ⟨z, h, q⟩
theorem wo_anyE {z : D} (h : gAny d = some z) (q : Q z) : WO (gAny d) Q := ⟨z, h, q⟩
theorem wo_eqT (h : (shp d && shp e && PyData.eqv d e) = true) (q : Q (.bool true)) : WO (gEq d e) Q := by
  simp only [Bool.and_eq_true] at h
  exact ⟨_, by unfold gEq; rw [h.1.1, h.1.2, h.2]; rfl, q⟩
theorem wo_eqF (h : (shp d && shp e && !PyData.eqv d e) = true) (q : Q (.bool false)) : WO (gEq d e) Q := by
  simp only [Bool.and_eq_true, Bool.not_eq_true'] at h
  exact ⟨_, by unfold gEq; rw [h.1.1, h.1.2, h.2]; rfl, q⟩
theorem wo_neT (h : (shp d && shp e && !PyData.eqv d e) = true) (q : Q (.bool true)) : WO (gNe d e) Q := by
  simp only [Bool.and_eq_true, Bool.not_eq_true'] at h
  exact ⟨_, by unfold gNe; rw [h.1.1, h.1.2, h.2]; rfl, q⟩
theorem wo_neF (h : (shp d && shp e && PyData.eqv d e) = true) (q : Q (.bool false)) : WO (gNe d e) Q := by
  simp only [Bool.and_eq_true] at h
  exact ⟨_, by unfold gNe; rw [h.1.1, h.1.2, h.2]; rfl, q⟩
theorem wo_isiI (q : Q (.bool true)) : WO (gIsi .int (.int a)) Q := ⟨_, rfl, q⟩
theorem wo_isiB (q : Q (.bool false)) : WO (gIsi .bool (.int a)) Q := ⟨_, rfl, q⟩
theorem wo_ixE {n j : Nat} {k : Int} {Q : Nat → Prop} (h : ixN n k = some j) (q : Q j) : WO (ixN n k) Q := ⟨j, h, q⟩
theorem wo_ix {n : Nat} {k : Int} {Q : Nat → Prop} (h1 : 0 ≤ k) (h2 : k < n) (q : Q k.toNat) : WO (ixN n k) Q := ⟨_, by unfold ixN; rw [if_pos h1, if_pos h2], q⟩
theorem mul_ok1 (h : a.natAbs < 2 ^ 64) : mulOk a b = true := by unfold mulOk; rw [decide_eq_true h]; rfl
theorem mul_ok2 (h : b.natAbs < 2 ^ 64) : mulOk a b = true := by unfold mulOk; rw [decide_eq_true h]; simp
theorem mul_ok3 (h1 : a.natAbs < 10 ^ 250 * 10 ^ 250) (h2 : b.natAbs < 10 ^ 250 * 10 ^ 250) : mulOk a b = true := by unfold mulOk; rw [decide_eq_true h1, decide_eq_true h2]; simp
theorem fits_of {n : Nat} (h : n ≤ 16777216) : fits n = true := decide_eq_true h
end
theorem wo_p10_60 {Q : D → Prop} (q : Q (.int 1000000000000000000000000000000000000000000000000000000000000)) : WO (gPow (.int 10) (.int 60)) Q := ⟨_, rfl, q⟩
theorem wo_p10_18 {Q : D → Prop} (q : Q (.int 1000000000000000000)) : WO (gPow (.int 10) (.int 18)) Q := ⟨_, rfl, q⟩
theorem wo_p10_30 {Q : D → Prop} (q : Q (.int 1000000000000000000000000000000)) : WO (gPow (.int 10) (.int 30)) Q := ⟨_, rfl, q⟩
theorem wo_p2_24 {Q : D → Prop} (q : Q (.int 16777216)) : WO (gPow (.int 2) (.int 24)) Q := ⟨_, rfl, q⟩
theorem wo_p10_8 {Q : D → Prop} (q : Q (.int 100000000)) : WO (gPow (.int 10) (.int 8)) Q := ⟨_, rfl, q⟩
theorem wo_p10_19 {Q : D → Prop} (q : Q (.int 10000000000000000000)) : WO (gPow (.int 10) (.int 19)) Q := ⟨_, rfl, q⟩
theorem wo_p10_55 {Q : D → Prop} (q : Q (.int 10000000000000000000000000000000000000000000000000000000)) : WO (gPow (.int 10) (.int 55)) Q := ⟨_, rfl, q⟩
theorem wo_p10_59 {Q : D → Prop} (q : Q (.int 100000000000000000000000000000000000000000000000000000000000)) : WO (gPow (.int 10) (.int 59)) Q := ⟨_, rfl, q⟩
theorem wo_p3_30 {Q : D → Prop} (q : Q (.int 205891132094649)) : WO (gPow (.int 3) (.int 30)) Q := ⟨_, rfl, q⟩
theorem wo_p2_40 {Q : D → Prop} (q : Q (.int 1099511627776)) : WO (gPow (.int 2) (.int 40)) Q := ⟨_, rfl, q⟩
theorem wo_p10_54 {Q : D → Prop} (q : Q (.int 1000000000000000000000000000000000000000000000000000000)) : WO (gPow (.int 10) (.int 54)) Q := ⟨_, rfl, q⟩
theorem wo_p3_13 {Q : D → Prop} (q : Q (.int 1594323)) : WO (gPow (.int 3) (.int 13)) Q := ⟨_, rfl, q⟩
theorem wo_p2_20 {Q : D → Prop} (q : Q (.int 1048576)) : WO (gPow (.int 2) (.int 20)) Q := ⟨_, rfl, q⟩
theorem wo_p10_57 {Q : D → Prop} (q : Q (.int 1000000000000000000000000000000000000000000000000000000000)) : WO (gPow (.int 10) (.int 57)) Q := ⟨_, rfl, q⟩
theorem wo_p10_40 {Q : D → Prop} (q : Q (.int 10000000000000000000000000000000000000000)) : WO (gPow (.int 10) (.int 40)) Q := ⟨_, rfl, q⟩
theorem wo_p10_61 {Q : D → Prop} (q : Q (.int 10000000000000000000000000000000000000000000000000000000000000)) : WO (gPow (.int 10) (.int 61)) Q := ⟨_, rfl, q⟩
theorem wo_p10_50 {Q : D → Prop} (q : Q (.int 100000000000000000000000000000000000000000000000000)) : WO (gPow (.int 10) (.int 50)) Q := ⟨_, rfl, q⟩
end M

namespace M
open PySem PySem.Spec PyProof.Rows L2
theorem irange_zero {n : Nat} {d : D} (h : d ∈ irange 0 n) : ∃ i : Int, d = .int i ∧ 0 ≤ i ∧ i < n := by
  unfold irange at h
  obtain ⟨k, h1, rfl⟩ := List.mem_map.mp h
  exact ⟨_, rfl, by omega, by have := List.mem_range.mp h1; omega⟩
theorem irange_length (lo : Int) (n : Nat) : (irange lo n).length = n := by unfold irange; rw [List.length_map, List.length_range]
theorem cut_take (xs : List D) (n : Nat) : M.cutD xs none (some (n : Int)) = xs.take n := by
  unfold M.cutD
  rw [HT.sIx_none, HT.sIx_nat, List.drop_zero, Nat.sub_zero]
  rcases Nat.le_total n xs.length with h | h
  · rw [Nat.min_eq_left h]
  · rw [Nat.min_eq_right h, List.take_of_length_le (Nat.le_refl _), List.take_of_length_le h]
theorem ints_mem {cs : List Int} {d : D} (h : d ∈ cs.map PyData.int) : ∃ c : Int, d = .int c := by
  obtain ⟨c, _, rfl⟩ := List.mem_map.mp h
  exact ⟨c, rfl⟩
theorem pairs_mem {xs ys : List D} {d : D} (h : d ∈ pairs xs ys) : ∃ x y, d = .tuple [x, y] ∧ x ∈ xs ∧ y ∈ ys := by
  unfold pairs at h
  obtain ⟨⟨x, y⟩, h1, rfl⟩ := List.mem_map.mp h
  exact ⟨x, y, rfl, (List.of_mem_zip h1).1, (List.of_mem_zip h1).2⟩
theorem pick_w {xs : List Int} {ds : List D} {k lo hi : Int} {Q : D → Prop} (h0 : 0 ≤ k) (h1 : k < ds.length) (e : ds = xs.map .int) (hb : ∀ x ∈ xs, lo ≤ x ∧ x ≤ hi) (q : ∀ x : Int, lo ≤ x → x ≤ hi → x ∈ xs → Q (.int x)) : WO (gIdx (.list ds) (.int k)) Q := by
  subst e
  refine wo_idxL h0 h1 fun d _ hd => ?_
  obtain ⟨x, hx, rfl⟩ := List.mem_map.mp hd
  exact q x (hb x hx).1 (hb x hx).2 hx
/-! ### common parts -/
mutual
theorem eqv_refl0 : ∀ d : D, d.canLay0 = true → PyData.eqv d d = true
  | .none, _ => by unfold PyData.eqv; rfl
  | .bool b, _ => by unfold PyData.eqv; simp
  | .int b, _ => by unfold PyData.eqv; simp
  | .str b, _ => by unfold PyData.eqv; simp
  | .list ds, h => by unfold PyData.eqv; exact eqvAll_refl0 ds (by unfold PyData.canLay0 at h; exact h)
  | .tuple ds, h => by unfold PyData.eqv; exact eqvAll_refl0 ds (by unfold PyData.canLay0 at h; exact h)
  | .dict _, h => by unfold PyData.canLay0 at h; cases h
theorem eqvAll_refl0 : ∀ ds : List D, PyData.canLayAll0 ds = true → PyData.eqvAll ds ds = true
  | [], _ => by unfold PyData.eqvAll; rfl
  | d :: ds, h => by
    unfold PyData.canLayAll0 at h
    unfold PyData.eqvAll
    rw [eqv_refl0 d (Bool.and_eq_true_iff.mp h).1, eqvAll_refl0 ds (Bool.and_eq_true_iff.mp h).2]
    rfl
end
theorem eqv_refl (d : D) (h : shp d = true) : PyData.eqv d d = true := eqv_refl0 d (by unfold shp SeqAt.shaped at h; exact (Bool.and_eq_true_iff.mp h).1)
theorem wo_neR {d : D} {Q : D → Prop} (h : shp d = true) (q : Q (.bool false)) : WO (gNe d d) Q := wo_neD h h (by rw [eqv_refl d h]; exact q)
structure IsG (a b g : Int) : Prop where
  pos : 0 ≤ g
  da : g ∣ a
  db : g ∣ b
  all : ∀ d : Int, d ∣ a → d ∣ b → d ∣ g
theorem IsG.uniq {a b g h : Int} (x : IsG a b g) (y : IsG a b h) : g = h := Int.dvd_antisymm x.pos y.pos (y.all g x.da x.db) (x.all h y.da y.db)
theorem IsG.symm {a b g : Int} (x : IsG a b g) : IsG b a g := ⟨x.pos, x.db, x.da, fun d h1 h2 => x.all d h2 h1⟩
theorem IsG.ne {a b g : Int} (x : IsG a b g) (h : 0 < b) : 0 < g := by
  rcases Int.lt_or_eq_of_le x.pos with h1 | h1
  · exact h1
  · have := x.db
    rw [← h1] at this
    have := Int.zero_dvd.mp this
    omega
/-- g is made of both, s and t times -/
structure Bz (a b g s t : Int) : Prop where
  G : IsG a b g
  eq : s * a + t * b = g
  sb : s.natAbs ≤ b.natAbs + 1
  tb : t.natAbs ≤ a.natAbs + 1
/-- the turn's state of the search for the greatest common part -/
structure Eu (a b r0 s0 t0 r1 s1 t1 : Int) : Prop where
  h0 : 0 ≤ r0
  h1 : 0 ≤ r1
  e0 : s0 * a + t0 * b = r0
  e1 : s1 * a + t1 * b = r1
  dv : ∀ d : Int, (d ∣ r0 ∧ d ∣ r1) ↔ (d ∣ a ∧ d ∣ b)
  sg : ∃ e p0 p1 u0 u1 : Int, (e = 1 ∨ e = -1) ∧ 0 ≤ p0 ∧ 0 ≤ p1 ∧ 0 ≤ u0 ∧ 0 ≤ u1 ∧ s0 = e * p0 ∧ s1 = -(e * p1) ∧ t0 = -(e * u0) ∧ t1 = e * u1 ∧ p0 * r1 + p1 * r0 = b ∧ u0 * r1 + u1 * r0 = a ∧ p0 ≤ b + 1 ∧ p1 ≤ b + 1 ∧ u0 ≤ a + 1 ∧ u1 ≤ a + 1
theorem Eu.start {a b : Int} (ha : 0 ≤ a) (hb : 0 ≤ b) : Eu a b a 1 0 b 0 1 :=
  ⟨ha, hb, by omega, by omega, fun d => Iff.rfl, 1, 1, 0, 0, 1, .inl rfl, by omega, by omega, by omega, by omega, by omega, by omega, by omega, by omega, by omega, by omega, by omega, by omega, by omega, by omega⟩
theorem Eu.step {a b r0 s0 t0 r1 s1 t1 : Int} (E : Eu a b r0 s0 t0 r1 s1 t1) (hr : r1 ≠ 0) : Eu a b r1 s1 t1 (r0 - r0 / r1 * r1) (s0 - r0 / r1 * s1) (t0 - r0 / r1 * t1) ∧ (r0 - r0 / r1 * r1).toNat < r1.toNat ∧ 0 ≤ r0 / r1 ∧ r0 / r1 ≤ r0 := by
  obtain ⟨h0, h1, e0, e1, dv, e, p0, p1, u0, u1, he, hp0, hp1, hu0, hu1, rfl, rfl, rfl, rfl, i1, i2, b1, b2, b3, b4⟩ := E
  have hr1 : 0 < r1 := by omega
  have q0 : 0 ≤ r0 / r1 := Int.ediv_nonneg h0 h1
  have q1 : r0 / r1 ≤ r0 := Int.ediv_le_self _ h0
  have m1 := Int.mul_ediv_add_emod r0 r1
  have m2 := Int.emod_nonneg r0 hr
  have m3 := Int.emod_lt_of_pos r0 hr1
  have m4 : r0 - r0 / r1 * r1 = r0 % r1 := by rw [Int.mul_comm]; omega
  generalize r0 / r1 = q at *
  have k1 : 0 ≤ q * p1 := Int.mul_nonneg q0 hp1
  have k2 : 0 ≤ q * u1 := Int.mul_nonneg q0 hu1
  have k3 : p1 * (r0 - q * r1) + (p0 + q * p1) * r1 = b := by grind
  have k4 : u1 * (r0 - q * r1) + (u0 + q * u1) * r1 = a := by grind
  have k5 : 0 ≤ p1 * (r0 - q * r1) := Int.mul_nonneg hp1 (by omega)
  have k6 : 0 ≤ u1 * (r0 - q * r1) := Int.mul_nonneg hu1 (by omega)
  have k7 : (p0 + q * p1) * 1 ≤ (p0 + q * p1) * r1 := Int.mul_le_mul_of_nonneg_left (by omega) (by omega)
  have k8 : (u0 + q * u1) * 1 ≤ (u0 + q * u1) * r1 := Int.mul_le_mul_of_nonneg_left (by omega) (by omega)
  refine ⟨⟨h1, by omega, e1, by grind, fun d => ?_, -e, p1, p0 + q * p1, u1, u0 + q * u1, by omega, hp1, by omega, hu1, by omega, by grind, by grind, by grind, by grind, k3, k4, by omega, by omega, by omega, by omega⟩, by omega, q0, q1⟩
  rw [← dv d]
  constructor
  · rintro ⟨d1, d2⟩
    refine ⟨?_, d1⟩
    have : r0 = (r0 - q * r1) + q * r1 := by omega
    rw [this]
    exact Int.dvd_add d2 (Int.dvd_mul_of_dvd_right d1)
  · rintro ⟨d1, d2⟩
    exact ⟨d2, Int.dvd_sub d1 (Int.dvd_mul_of_dvd_right d2)⟩
theorem Eu.fin {a b r0 s0 t0 s1 t1 : Int} (ha : 0 ≤ a) (hb : 0 ≤ b) (E : Eu a b r0 s0 t0 0 s1 t1) : Bz a b r0 s0 t0 := by
  obtain ⟨h0, h1, e0, e1, dv, e, p0, p1, u0, u1, he, hp0, hp1, hu0, hu1, rfl, rfl, rfl, rfl, i1, i2, b1, b2, b3, b4⟩ := E
  have := (dv r0).mp ⟨Int.dvd_refl _, Int.dvd_zero _⟩
  refine ⟨⟨h0, this.1, this.2, fun d d1 d2 => ((dv d).mpr ⟨d1, d2⟩).1⟩, e0, ?_, ?_⟩
  · rcases he with rfl | rfl <;> omega
  · rcases he with rfl | rfl <;> omega
/-! ### values that == can be asked of -/
def scal : D → Bool
  | .none => true
  | .bool _ => true
  | .int _ => true
  | .str x => (PyData.str x).canLay0
  | _ => false
theorem scal_int (x : Int) : scal (.int x) = true := rfl
theorem scal_lay : ∀ d : D, scal d = true → d.canLay0 = true ∧ d.depth = 0
  | .none, _ => ⟨rfl, rfl⟩
  | .bool _, _ => ⟨rfl, rfl⟩
  | .int _, _ => ⟨rfl, rfl⟩
  | .str _, h => ⟨h, rfl⟩
  | .list _, h => by cases h
  | .tuple _, h => by cases h
  | .dict _, h => by cases h
theorem scal_all : ∀ ds : List D, ds.all scal = true → PyData.canLayAll0 ds = true ∧ PyData.depthAll ds = 0
  | [], _ => ⟨rfl, rfl⟩
  | d :: ds, h => by
    rw [List.all_cons, Bool.and_eq_true] at h
    obtain ⟨h1, h2⟩ := scal_lay d h.1
    obtain ⟨h3, h4⟩ := scal_all ds h.2
    refine ⟨?_, ?_⟩
    · show (d.canLay0 && PyData.canLayAll0 ds) = true
      rw [h1, h3]; rfl
    · show max d.depth (PyData.depthAll ds) = 0
      rw [h2, h4]; rfl
theorem shp_tup {ds : List D} (h : ds.all scal = true) : shp (.tuple ds) = true := by
  obtain ⟨h1, h2⟩ := scal_all ds h
  unfold shp SeqAt.shaped
  rw [show (PyData.tuple ds).canLay0 = true from h1, show (PyData.tuple ds).depth = 1 from by show PyData.depthAll ds + 1 = 1; rw [h2]]
  rfl
/-! ### stretches joined -/
def Jd (f1 s1 f2 s2 : Int) (d : D) : Prop := ∃ g : Int, IsG s1 s2 g ∧ 0 < g ∧ (((f2 - f1) % g ≠ 0 ∧ d = .tuple [.str "none", .int g]) ∨ ((f2 - f1) % g = 0 ∧ ∃ x : Int, 0 ≤ x ∧ x < s1 / g * s2 ∧ x % s1 = f1 ∧ x % s2 = f2 ∧ d = .tuple [.str "all", .int x, .int (s1 / g * s2)]))
theorem emod_of_sub {x y s : Int} (h : s ∣ x - y) (h0 : 0 ≤ y) (h1 : y < s) : x % s = y := by
  have := Int.emod_emod_of_dvd x (Int.dvd_refl s)
  rw [← Int.emod_eq_of_lt h0 h1]
  exact Int.emod_eq_emod_iff_emod_sub_eq_zero.mpr (Int.emod_eq_zero_of_dvd h)
theorem sub_of_emod {x y s : Int} (h : x % s = y % s) : s ∣ x - y := Int.dvd_of_emod_eq_zero (Int.emod_eq_emod_iff_emod_sub_eq_zero.mp h)
theorem lcm_dvd {s1 s2 g a b x : Int} (B : Bz s1 s2 g a b) (hg : 0 < g) (h1 : s1 ∣ x) (h2 : s2 ∣ x) : s1 / g * s2 ∣ x := by
  obtain ⟨p, hp⟩ := B.G.da
  obtain ⟨q, hq⟩ := B.G.db
  obtain ⟨c, rfl⟩ := h1
  obtain ⟨d, hd⟩ := h2
  have e1 : s1 / g = p := by rw [hp, Int.mul_ediv_cancel_left _ (by omega)]
  rw [e1]
  have eq := B.eq
  refine ⟨a * d + b * c * 1, ?_⟩
  have : g * (s1 * c) = g * (p * s2 * (a * d + b * c * 1)) := by grind
  exact Int.eq_of_mul_eq_mul_left (show g ≠ 0 by omega) this
theorem zero_of_dvd {x w : Int} (h : w ∣ x) (h1 : -w < x) (h2 : x < w) : x = 0 := by
  obtain ⟨k, rfl⟩ := h
  rcases Int.lt_trichotomy k 0 with h | h | h
  · have := Int.mul_le_mul_of_nonneg_left (show k ≤ -1 by omega) (show 0 ≤ w by omega)
    omega
  · rw [h, Int.mul_zero]
  · have := Int.mul_le_mul_of_nonneg_left (show 1 ≤ k by omega) (show 0 ≤ w by omega)
    omega
theorem IsG.bz {a b g : Int} (G : IsG a b g) (hb : 0 ≤ b) (ha : 0 ≤ a) : ∃ s t : Int, Bz a b g s t := by
  -- by the search itself
  have : ∀ n : Nat, ∀ r0 s0 t0 r1 s1 t1 : Int, r1.toNat < n → Eu a b r0 s0 t0 r1 s1 t1 → ∃ r s t : Int, Bz a b r s t := by
    intro n
    induction n with
    | zero => intro _ _ _ _ _ _ h; omega
    | succ n ih =>
      intro r0 s0 t0 r1 s1 t1 h E
      by_cases hr : r1 = 0
      · subst hr
        exact ⟨_, _, _, E.fin ha hb⟩
      · obtain ⟨E2, lt, _, _⟩ := E.step hr
        exact ih _ _ _ _ _ _ (by omega) E2
  obtain ⟨r, s, t, B⟩ := this (b.toNat + 1) a 1 0 b 0 1 (by omega) (Eu.start ha hb)
  have := B.G.uniq G
  subst this
  exact ⟨s, t, B⟩
theorem crt_uniq {s1 s2 g x y : Int} (G : IsG s1 s2 g) (hg : 0 < g) (h1 : 0 ≤ s1) (h2 : 0 ≤ s2) (x0 : 0 ≤ x) (x1 : x < s1 / g * s2) (y0 : 0 ≤ y) (y1 : y < s1 / g * s2) (e1 : x % s1 = y % s1) (e2 : x % s2 = y % s2) : x = y := by
  obtain ⟨s, t, B⟩ := G.bz h2 h1
  have := zero_of_dvd (lcm_dvd B hg (sub_of_emod e1) (sub_of_emod e2)) (by omega) (by omega)
  omega
theorem lcm_comm {s1 s2 g : Int} (G : IsG s1 s2 g) (hg : 0 < g) : s1 / g * s2 = s2 / g * s1 := by
  obtain ⟨p, hp⟩ := G.da
  obtain ⟨q, hq⟩ := G.db
  have e1 : s1 / g = p := by rw [hp, Int.mul_ediv_cancel_left _ (by omega)]
  have e2 : s2 / g = q := by rw [hq, Int.mul_ediv_cancel_left _ (by omega)]
  rw [e1, e2, hp, hq]
  grind
theorem Jd.uniq {f1 s1 f2 s2 : Int} {d e : D} (h1 : 0 < s1) (h2 : 0 < s2) (x : Jd f1 s1 f2 s2 d) (y : Jd f1 s1 f2 s2 e) : d = e := by
  obtain ⟨g, G, hg, x⟩ := x
  obtain ⟨g', G', _, y⟩ := y
  have := G.uniq G'
  subst this
  rcases x with ⟨n, rfl⟩ | ⟨n, x, x0, x1, x2, x3, rfl⟩
  · rcases y with ⟨_, rfl⟩ | ⟨m, _⟩
    · rfl
    · exact absurd m n
  · rcases y with ⟨m, _⟩ | ⟨m, y, y0, y1, y2, y3, rfl⟩
    · exact absurd n m
    · rw [crt_uniq G hg (by omega) (by omega) x0 x1 y0 y1 (x2.trans y2.symm) (x3.trans y3.symm)]
/-! ### weights -/
theorem filter_yes (ds : List D) : ds.filter (fun _ => true) = ds := List.filter_eq_self.mpr fun _ _ => rfl
def dot : List Int → List Int → Int
  | w :: ws, n :: ns => w * n + dot ws ns
  | _, _ => 0
theorem dot_app : ∀ (ws ns : List Int) (w n : Int), ws.length = ns.length → dot (ws ++ [w]) (ns ++ [n]) = dot ws ns + w * n
  | [], [], w, n, _ => by simp [dot]
  | [], _ :: _, _, _, h => by simp at h
  | _ :: _, [], _, _, h => by simp at h
  | v :: ws, m :: ns, w, n, h => by
    have := dot_app ws ns w n (by simpa using h)
    show v * m + dot (ws ++ [w]) (ns ++ [n]) = v * m + dot ws ns + w * n
    omega
theorem dot_mod (m s : Int) : ∀ (ws ns : List Int), m ∣ dot (ws.map fun w => w * s % m) ns - s * dot ws ns
  | [], [] => ⟨0, by simp [dot]⟩
  | [], _ :: _ => ⟨0, by simp [dot]⟩
  | _ :: _, [] => ⟨0, by simp [dot]⟩
  | w :: ws, n :: ns => by
    obtain ⟨c, hc⟩ := dot_mod m s ws ns
    have e := Int.mul_ediv_add_emod (w * s) m
    refine ⟨c - w * s / m * n, ?_⟩
    show w * s % m * n + dot (ws.map fun w => w * s % m) ns - s * (w * n + dot ws ns) = _
    generalize w * s / m = q at *
    generalize w * s % m = r at *
    grind
structure We (m : Int) (ns : List Int) (g : Int) (ws : List Int) : Prop where
  pos : 0 < g
  dm : g ∣ m
  dn : ∀ n ∈ ns, g ∣ n
  all : ∀ d : Int, d ∣ m → (∀ n ∈ ns, d ∣ n) → d ∣ g
  len : ws.length = ns.length
  dot : m ∣ dot ws ns - g
  rng : ∀ w ∈ ws, 0 ≤ w ∧ w < m
theorem We.start {m : Int} (hm : 0 < m) : We m [] m [] := ⟨hm, Int.dvd_refl _, fun n h => (by cases h), fun d h _ => h, rfl, ⟨-1, by simp [M.dot]⟩, fun w h => (by cases h)⟩
theorem We.step {m g n g' s t : Int} {ns ws : List Int} (hm : 0 < m) (W : We m ns g ws) (B : Bz g (n % m) g' s t) : We m (ns ++ [n]) g' ((ws.map fun w => w * s % m) ++ [t % m]) := by
  have hgm := Int.dvd_trans B.G.da W.dm
  have en : n = n % m + m * (n / m) := by have := Int.mul_ediv_add_emod n m; omega
  refine ⟨?_, hgm, fun x hx => ?_, fun d d1 d2 => ?_, ?_, ?_, fun w hw => ?_⟩
  · rcases Int.lt_or_eq_of_le B.G.pos with h | h
    · exact h
    · rw [← h] at hgm
      have := Int.zero_dvd.mp hgm
      omega
  · rcases List.mem_append.mp hx with hx | hx
    · exact Int.dvd_trans B.G.da (W.dn x hx)
    · rw [List.mem_singleton] at hx
      subst hx
      rw [en]
      exact Int.dvd_add B.G.db (Int.dvd_mul_of_dvd_left hgm)
  · refine B.G.all d (W.all d d1 fun x hx => d2 x (List.mem_append_left _ hx)) ?_
    have : n % m = n - m * (n / m) := by omega
    rw [this]
    exact Int.dvd_sub (d2 n (by simp)) (Int.dvd_mul_of_dvd_left d1)
  · simp [W.len]
  · rw [dot_app _ _ _ _ (by simp [W.len])]
    obtain ⟨a, ha⟩ := dot_mod m s ws ns
    obtain ⟨b, hb⟩ := W.dot
    have et := Int.mul_ediv_add_emod t m
    have eq := B.eq
    refine ⟨a + s * b - t / m * n + t * (n / m), ?_⟩
    generalize M.dot (ws.map fun w => w * s % m) ns = X at *
    generalize M.dot ws ns = Y at *
    generalize n / m = p at *
    generalize n % m = q at *
    generalize t / m = u at *
    generalize t % m = v at *
    grind
  · rcases List.mem_append.mp hw with hw | hw
    · obtain ⟨v, _, rfl⟩ := List.mem_map.mp hw
      exact ⟨Int.emod_nonneg _ (by omega), Int.emod_lt_of_pos _ hm⟩
    · rw [List.mem_singleton] at hw
      subst hw
      exact ⟨Int.emod_nonneg _ (by omega), Int.emod_lt_of_pos _ hm⟩
theorem We.one {m f g : Int} {ws : List Int} (W : We m [f] g ws) : IsG m f g := ⟨by have := W.pos; omega, W.dm, W.dn f (by simp), fun d d1 d2 => W.all d d1 fun n hn => by rw [List.mem_singleton] at hn; subst hn; exact d2⟩
theorem wo_allM {ds : List D} {p : D → Bool} {Q : D → Prop} (q : Q (.bool (ds.all p))) : WO (gAll (.list (ds.map fun d => .bool (p d)))) Q := by
  refine wo_all (ns := ds.map p) (by rw [List.map_map]; rfl) ?_
  rw [List.all_map]
  exact q
/-! ### many stretches -/
theorem Jd.all {f1 s1 f2 s2 : Int} {d : D} (h0 : 0 ≤ f1) (h1 : f1 < s1) (h2 : 0 ≤ f2) (h3 : f2 < s2) (J : Jd f1 s1 f2 s2 d) :
    (∃ g : Int, d = .tuple [.str "none", .int g] ∧ ∀ y : Int, ¬ (y % s1 = f1 ∧ y % s2 = f2)) ∨ ∃ x w : Int, d = .tuple [.str "all", .int x, .int w] ∧ 0 ≤ x ∧ x < w ∧ w ≤ s1 * s2 ∧ ∀ y : Int, (y % s1 = f1 ∧ y % s2 = f2) ↔ y % w = x := by
  obtain ⟨g, G, hg, ⟨hn, rfl⟩ | ⟨hn, x, x0, x1, x2, x3, rfl⟩⟩ := J
  · refine .inl ⟨g, rfl, fun y ⟨e1, e2⟩ => hn ?_⟩
    have a1 : s1 ∣ y - f1 := sub_of_emod (by rw [e1, Int.emod_eq_of_lt h0 h1])
    have a2 : s2 ∣ y - f2 := sub_of_emod (by rw [e2, Int.emod_eq_of_lt h2 h3])
    have := Int.dvd_sub (Int.dvd_trans G.da a1) (Int.dvd_trans G.db a2)
    rw [show y - f1 - (y - f2) = f2 - f1 by omega] at this
    exact Int.emod_eq_zero_of_dvd this
  · obtain ⟨s, t, B⟩ := G.bz (show 0 ≤ s2 by omega) (show 0 ≤ s1 by omega)
    have hd : s1 / g ≤ s1 := Int.ediv_le_self _ (by omega)
    refine .inr ⟨x, s1 / g * s2, rfl, x0, x1, Int.mul_le_mul_of_nonneg_right hd (by omega), fun y => ⟨fun ⟨e1, e2⟩ => ?_, fun e => ?_⟩⟩
    · exact emod_of_sub (lcm_dvd B hg (sub_of_emod (e1.trans x2.symm)) (sub_of_emod (e2.trans x3.symm))) x0 x1
    · have hw : s1 / g * s2 ∣ y - x := sub_of_emod (by rw [e, Int.emod_eq_of_lt x0 x1])
      have w2 : s2 ∣ s1 / g * s2 := Int.dvd_mul_left _ _
      have w1 : s1 ∣ s1 / g * s2 := by rw [lcm_comm G hg]; exact Int.dvd_mul_left _ _
      refine ⟨?_, ?_⟩
      · rw [← x2]
        exact Int.emod_eq_emod_iff_emod_sub_eq_zero.mpr (Int.emod_eq_zero_of_dvd (Int.dvd_trans w1 hw))
      · rw [← x3]
        exact Int.emod_eq_emod_iff_emod_sub_eq_zero.mpr (Int.emod_eq_zero_of_dvd (Int.dvd_trans w2 hw))
abbrev St2 := Int × Int
def Alls (ss : List St2) (x : Int) : Prop := ∀ p ∈ ss, x % p.2 = p.1
def stD (p : St2) : D := .tuple [.int p.1, .int p.2]
def Told (ss : List St2) (d : D) : Prop := (d = .none ∧ ∀ x, ¬ Alls ss x) ∨ ∃ p : St2, d = stD p ∧ 0 ≤ p.1 ∧ p.1 < p.2 ∧ ∀ x, Alls ss x ↔ x % p.2 = p.1
theorem Told.uniq {ss tt : List St2} {d e : D} (h : ∀ x, Alls ss x ↔ Alls tt x) (x : Told ss d) (y : Told tt e) : d = e := by
  rcases x with ⟨rfl, x⟩ | ⟨⟨f, w⟩, rfl, x0, x1, x⟩
  · rcases y with ⟨rfl, _⟩ | ⟨⟨f, w⟩, rfl, y0, y1, y⟩
    · rfl
    · exact absurd ((h f).mpr ((y f).mpr (Int.emod_eq_of_lt y0 y1))) (x f)
  · rcases y with ⟨rfl, y⟩ | ⟨⟨f', w'⟩, rfl, y0, y1, y⟩
    · exact absurd ((h f).mp ((x f).mpr (Int.emod_eq_of_lt x0 x1))) (y f)
    · dsimp only at x x0 x1 y y0 y1
      have key : ∀ z : Int, z % w = f ↔ z % w' = f' := fun z => (x z).symm.trans ((h z).trans (y z))
      have a1 : (f + w) % w' = f' := (key _).mp (by rw [Int.add_emod_right]; exact Int.emod_eq_of_lt x0 x1)
      have a2 : f % w' = f' := (key _).mp (Int.emod_eq_of_lt x0 x1)
      have b1 : (f' + w') % w = f := (key _).mpr (by rw [Int.add_emod_right]; exact Int.emod_eq_of_lt y0 y1)
      have b2 : f' % w = f := (key _).mpr (Int.emod_eq_of_lt y0 y1)
      have d1 : w' ∣ w := by have := sub_of_emod (a1.trans a2.symm); rwa [show f + w - f = w by omega] at this
      have d2 : w ∣ w' := by have := sub_of_emod (b1.trans b2.symm); rwa [show f' + w' - f' = w' by omega] at this
      have := Int.dvd_antisymm (by omega) (by omega) d1 d2
      subst this
      rw [Int.emod_eq_of_lt x0 x1] at a2
      rw [a2]
theorem Told.shp {ss : List St2} {d : D} (h : Told ss d) : M.shp d = true := by
  rcases h with ⟨rfl, _⟩ | ⟨p, rfl, _⟩
  · rfl
  · exact shp_tup (by simp only [List.all_cons, List.all_nil, scal_int, Bool.and_true])
theorem Alls.cons {p : St2} {ss : List St2} {x : Int} : Alls (p :: ss) x ↔ x % p.2 = p.1 ∧ Alls ss x := by
  unfold Alls
  simp
theorem Alls.app {q : St2} {ss : List St2} {x : Int} : Alls (ss ++ [q]) x ↔ Alls ss x ∧ x % q.2 = q.1 := by
  unfold Alls
  constructor
  · exact fun h => ⟨fun p hp => h p (by simp [hp]), h q (by simp)⟩
  · rintro ⟨h1, h2⟩ p hp
    rcases List.mem_append.mp hp with hp | hp
    · exact h1 p hp
    · rw [List.mem_singleton] at hp; subst hp; exact h2
end M

namespace M
open PySem PySem.Spec PyProof.Rows L2
def alikeB (ds : List D) : Bool := ds.all fun d => ds.all fun e => PySem.W.alike d e
theorem alikeB_ok {ds : List D} (h : alikeB ds = true) : PySem.W.AllAlike ds := fun d hd e he => by
  unfold alikeB at h
  exact List.all_eq_true.mp (List.all_eq_true.mp h d hd) e he
def shallow (ds : List D) : Bool := ds.all fun d => decide (d.depth ≤ 60)
section
variable {X : Cx}
theorem dpAll_len {K : Frg} {H : Hp} : ∀ {xs : List V} {ds : List D}, DpAll K H xs ds → xs.length = ds.length
  | [], [], _ => rfl
  | [], _ :: _, h => by cases h
  | _ :: _, [], h => by cases h
  | _ :: _, _ :: _, h => by cases h with | cons _ t => simp [dpAll_len t]
theorem Da.zip {F : Hp} : ∀ {xs : List V} {ds : List D}, Da F xs ds → ∀ q ∈ xs.zip ds, Dt F q.1 q.2
  | [], [], _, q, hq => by simp at hq
  | [], _ :: _, h, _, _ => by cases h
  | _ :: _, [], h, _, _ => by cases h
  | _ :: _, _ :: _, h, q, hq => by
    cases h with
    | cons h1 t =>
      rw [List.zip_cons_cons] at hq
      rcases List.mem_cons.mp hq with rfl | hq
      · exact h1
      · exact Da.zip t q hq
/-! ### list of a text, of a range; tuple of a range -/
def lRg1 (f : Ef) : Lf := fun env => (f env).bind fun r => match r.1 with
  | .int n => if smallI n && fits n.toNat then some (irange 0 n.toNat, r.2) else none
  | _ => none
theorem da_rg {F : Hp} {a b : Int} : Da F (rgV a b) (irange a (b - a).toNat) := by
  unfold rgV irange
  refine Da.of (by simp) fun i v d h1 h2 => ?_
  rw [List.getElem?_map] at h1 h2
  cases hx : (List.range (b - a).toNat)[i]? with
  | none => rw [hx] at h1; cases h1
  | some j => rw [hx] at h1 h2; cases h1; cases h2; exact .int _
theorem xn_listRg {f : Ef} {e : Expr} {p p2 pos pos2 : Pos} (hm : X.mg "list" = none) (hm2 : X.mg "range" = none) (ha : XE X e f) (hc : X.calm = true := by rfl) (hg : Gl X "list" := by rfl) (hg2 : Gl X "range" := by rfl) (he : starEach [e] X.env = (false, eval e X.env) :: starEach [] X.env := by rfl)
    (he2 : starEach [.Call (.Name "range" p2) [e] [] pos2] X.env = (false, eval (.Call (.Name "range" p2) [e] [] pos2) X.env) :: starEach [] X.env := by rfl) : XN X (.Call (.Name "list" p) [.Call (.Name "range" p2) [e] [] pos2] [] pos) (lRg1 f) := by
  obtain ⟨t, h1, h2⟩ := ha.ex
  refine ⟨_, pe_listRg hc hg hm (prg_1 hg2 hm2 h1 he) he2, fun G F env s H ds env' k e Q q => ?_⟩
  unfold lRg1 at e
  obtain ⟨⟨d, e1⟩, h3, e⟩ := Option.bind_eq_some_iff.mp e
  refine h2 G F env s H d e1 k h3 _ fun F1 H1 v k1 s1 p1 => ?_
  cases p1 with
  | int n =>
    dsimp only at e
    split at e
    · rename_i hf
      cases e
      unfold smallI at hf
      simp only [Bool.and_eq_true, decide_eq_true_eq] at hf
      have hf2 := fits_line hf.2
      rw [sizeLine_eq] at hf2
      refine ⟨n, rfl, ⟨by omega, by omega, by omega, by omega, by omega⟩, fun l hl => ?_⟩
      have z : Da F1 (rgV 0 n) (irange 0 (n - 0).toNat) := da_rg
      rw [show n - 0 = n by omega] at z
      exact q F1 _ l _ (k1.laid hl) s1 upd_same (k1.fr.free hl) (k1.dom l hl) (k1.pin.free hl) (k1.notown hl) z
    · cases e
  | _ => cases e
def eTupRg (f : Ef) : Ef := fun env => (lRg1 f env).map fun r => (.tuple r.1, r.2)
/-! ### xs + ys, xs * k as new lists -/
/-- xs a name: its list may be the def's own -/
def asList : Sl → Option (List D)
  | .own _ xs => some xs
  | .val (.list xs) => some xs
  | _ => none
def listD : D → Option (List D)
  | .list xs => some xs
  | _ => none
def lAddV (i : Nat) (fb : Ef) : Lf := fun env => (eO i env).bind fun _ => (fb env).bind fun q => (listD q.1).bind fun ys => ((q.2[i]?).bind asList).bind fun xs => if fits (xs.length + ys.length) then some (xs ++ ys, q.2) else none
/-- both are values -/
def lAddE (fa fb : Ef) : Lf := fun env => (fa env).bind fun r => (fb r.2).bind fun q => match r.1, q.1 with
  | .list xs, .list ys => if fits (xs.length + ys.length) then some (xs ++ ys, q.2) else none
  | _, _ => none
theorem rn_addE {K : Frg} {ta tb : TE} {fa fb : Ef} (h2 : RE K ta fa) (h4 : RE K tb fb) : RN K (tOp (rAddA K) ta tb) (lAddE fa fb) := fun G F env s H ds env' k e Q q => by
  unfold lAddE at e
  obtain ⟨⟨d1, e1⟩, g1, e⟩ := Option.bind_eq_some_iff.mp e
  obtain ⟨⟨d2, e2⟩, g2, e⟩ := Option.bind_eq_some_iff.mp e
  refine h2 G F env s H d1 e1 k g1 _ fun F1 H1 v1 k1 s1 p1 => ?_
  refine h4 G F1 e1 s H1 d2 e2 k1 g2 _ fun F2 H2 v2 k2 s2 p2 => ?_
  dsimp only at e
  split at e
  · split at e
    · rename_i hf
      cases e
      have p1' := Dt.mono s2 _ _ p1
      cases p1' with
      | lst a1 b1 =>
        cases p2 with
        | lst a2 b2 =>
          refine .inr (.inr (.inl ⟨_, _, _, _, rfl, rfl, k2.fr _ _ a1, k2.fr _ _ a2, by rw [b1.length, b2.length]; exact fits_line hf, fun p hp => ?_⟩))
          exact q F2 _ p _ (k2.laid hp) (s1.trans s2) upd_same (k2.fr.free hp) (k2.dom p hp) (k2.pin.free hp) (k2.notown hp) (b1.append b2)
    · cases e
  · cases e
theorem xn_addE {a b : Expr} {fa fb : Ef} {pos : Pos} (ha : XE X a fa) (hb : XE X b fb) : XN X (.BinOp a .Add b pos) (lAddE fa fb) := by
  obtain ⟨ta, h1, h2⟩ := ha.ex
  obtain ⟨tb, h3, h4⟩ := hb.ex
  exact ⟨_, pe_op op_addA h1 h3, rn_addE h2 h4⟩
def lMulE (fa fb : Ef) : Lf := fun env => (fa env).bind fun r => (fb r.2).bind fun q => match r.1, q.1 with
  | .list xs, .int n => if decide (0 ≤ n) && decide (n < 1000000) && fits (xs.length * n.toNat) then some ((List.replicate n.toNat xs).flatten, q.2) else none
  | _, _ => none
theorem xn_mulE {a b : Expr} {fa fb : Ef} {pos : Pos} (ha : XE X a fa) (hb : XE X b fb) : XN X (.BinOp a .Mult b pos) (lMulE fa fb) := by
  obtain ⟨ta, h1, h2⟩ := ha.ex
  obtain ⟨tb, h3, h4⟩ := hb.ex
  refine ⟨_, pe_op op_mulA h1 h3, fun G F env s H ds env' k e Q q => ?_⟩
  unfold lMulE at e
  obtain ⟨⟨d1, e1⟩, g1, e⟩ := Option.bind_eq_some_iff.mp e
  obtain ⟨⟨d2, e2⟩, g2, e⟩ := Option.bind_eq_some_iff.mp e
  refine h2 G F env s H d1 e1 k g1 _ fun F1 H1 v1 k1 s1 p1 => ?_
  refine h4 G F1 e1 s H1 d2 e2 k1 g2 _ fun F2 H2 v2 k2 s2 p2 => ?_
  dsimp only at e
  split at e
  · split at e
    · rename_i hf
      cases e
      simp only [Bool.and_eq_true, decide_eq_true_eq] at hf
      have p1' := Dt.mono s2 _ _ p1
      cases p2
      cases p1' with
      | lst a1 b1 =>
        refine .inr ⟨_, _, _, rfl, rfl, k2.fr _ _ a1, by omega, by omega, by rw [b1.length]; exact fits_line hf.2, fun p hp => ?_⟩
        exact q F2 _ p _ (k2.laid hp) (s1.trans s2) upd_same (k2.fr.free hp) (k2.dom p hp) (k2.pin.free hp) (k2.notown hp) (Da.rep b1 _)
    · cases e
  · cases e
section
variable {env : En} {fa fb : Ef} {i : Nat}
theorem wl_addO {Q : List D → En → Prop} {b : Bool} {ds0 : List D} (h0 : env[i]? = some (.own b ds0)) (h : WE fb env fun y e' => IsL y fun ys => Own e'[i]? fun _ xs => Fit (xs.length + ys.length) (Q (xs ++ ys) e')) : WL (lAddV i fb) env Q := by
  obtain ⟨y, e', h1, h⟩ := h
  cases y with
  | list ys =>
    obtain ⟨b, xs, h2, h3, q⟩ := h
    exact ⟨_, e', by unfold lAddV; simp [eO, h0, h1, h2, h3, listD, asList], q⟩
  | _ => cases h
theorem wl_addE {Q : List D → En → Prop} (h : WE fa env fun x e => WE fb e fun y e' => IsL x fun xs => IsL y fun ys => Fit (xs.length + ys.length) (Q (xs ++ ys) e')) : WL (lAddE fa fb) env Q := by
  obtain ⟨x, e, h1, y, e', h2, h⟩ := h
  cases x with
  | list xs =>
    cases y with
    | list ys =>
      obtain ⟨h3, q⟩ := h
      exact ⟨_, e', by unfold lAddE; simp [h1, h2, h3], q⟩
    | _ => cases h
  | _ => cases h
theorem wl_mulE {Q : List D → En → Prop} (h : WE fa env fun x e => WE fb e fun y e' => IsL x fun xs => IsI y fun n => (0 ≤ n ∧ n < 1000000 ∧ fits (xs.length * n.toNat) = true) ∧ Q (List.replicate n.toNat xs).flatten e') : WL (lMulE fa fb) env Q := by
  obtain ⟨x, e, h1, y, e', h2, h⟩ := h
  cases x with
  | list xs =>
    cases y with
    | int n =>
      obtain ⟨⟨h3, h4, h5⟩, q⟩ := h
      exact ⟨_, e', by unfold lMulE; simp [h1, h2, h3, h4, h5], q⟩
    | _ => cases h
  | _ => cases h
theorem wl_rg1 {Q : List D → En → Prop} (h : WE fa env fun x e => IsI x fun n => Sml n (Fit n.toNat (Q (irange 0 n.toNat) e))) : WL (lRg1 fa) env Q := by
  obtain ⟨x, e, h1, h⟩ := h
  cases x with
  | int n =>
    obtain ⟨h2, h3, q⟩ := h
    exact ⟨_, e, by unfold lRg1; simp [h1, h2, h3], q⟩
  | _ => cases h
theorem we_tupRg {Q : D → En → Prop} (h : WL (lRg1 fa) env fun ds e => Q (.tuple ds) e) : WE (eTupRg fa) env Q := by
  obtain ⟨ds, e, h1, q⟩ := h
  exact ⟨_, e, by unfold eTupRg; rw [h1]; rfl, q⟩
end
end
end M

namespace M
open PySem PySem.Spec PyProof.Rows L2
/-! ### own lists looked at as values, for as long as an expression runs whose answer is flat -/
def unown : Sl → Sl
  | .own _ ds => .val (.list ds)
  | .dct _ _ => .no
  | x => x
theorem unown_own {b : Bool} {ds : List D} : unown (.own b ds) = .val (.list ds) := rfl
theorem unown_val {d : D} : unown (.val d) = .val d := rfl
theorem unown_no : unown .no = .no := rfl
theorem unown_ro {ds : List D} : unown (.ro ds) = .ro ds := rfl
theorem unown_dct {w : World} {kvs : List (D × D)} : unown (.dct w kvs) = .no := rfl
def unowns : En → En
  | [] => []
  | x :: xs => unown x :: unowns xs
theorem unowns_nil : unowns [] = [] := rfl
theorem unowns_cons {x : Sl} {xs : En} : unowns (x :: xs) = unown x :: unowns xs := rfl
def eBor (f : Ef) : Ef := fun env => (f (unowns env)).bind fun r => if flatD r.1 then some (r.1, env) else none
def bBor (f : Bf) : Bf := fun env => (f (unowns env)).map fun r => (r.1, env)
section
variable {K : Frg} {G : Gm} {F F' : Hp} {env env' : En} {s : L2.St} {H H' : Hp}
end
section
variable {X : Cx} {e : Expr} {f : Ef} {c : Bf} {env : En}
theorem we_bor {Q : D → En → Prop} (h : Nrm (unowns env) fun e => WE f e fun d _ => flatD d = true ∧ Q d env) : WE (eBor f) env Q := by
  obtain ⟨d, e, h1, h2, q⟩ := h
  exact ⟨d, env, by unfold eBor; rw [h1]; simp [h2], q⟩
theorem wb_bor {Q : Bool → En → Prop} (h : Nrm (unowns env) fun e => WB c e fun b _ => Q b env) : WB (bBor c) env Q := by
  obtain ⟨b, e, h1, q⟩ := h
  exact ⟨b, env, by unfold bBor; rw [h1]; rfl, q⟩
end
/-! ### is, of truths -/
def gIsB : D → D → Option D
  | .bool a, .bool b => some (.bool (decide (a = b)))
  | _, _ => none
def gNtB : D → D → Option D
  | .bool a, .bool b => some (.bool (!decide (a = b)))
  | _, _ => none
theorem wo_isB {a b : Bool} {Q : D → Prop} (q : Q (.bool (decide (a = b)))) : WO (gIsB (.bool a) (.bool b)) Q := ⟨_, rfl, q⟩
theorem wo_ntB {a b : Bool} {Q : D → Prop} (q : Q (.bool (!decide (a = b)))) : WO (gNtB (.bool a) (.bool b)) Q := ⟨_, rfl, q⟩
end M

namespace M
open PySem PySem.Spec PyProof.Rows L2
section
variable {X : Cx}
end
/-! ### a new list made while own lists are looked at -/
mutual
def lfree : D → Bool
  | .none => true
  | .bool _ => true
  | .int _ => true
  | .str _ => true
  | .tuple ds => lfreeA ds
  | _ => false
def lfreeA : List D → Bool
  | [] => true
  | d :: ds => lfree d && lfreeA ds
end
def lBor (f : Lf) : Lf := fun env => (f (unowns env)).bind fun r => if lfreeA r.1 then some (r.1, env) else none
theorem wl_bor {f : Lf} {env : En} {Q : List D → En → Prop} (h : Nrm (unowns env) fun e => WL f e fun ds _ => lfreeA ds = true ∧ Q ds env) : WL (lBor f) env Q := by
  obtain ⟨ds, e, h1, h2, q⟩ := h
  exact ⟨ds, env, by unfold lBor; rw [h1]; simp [h2], q⟩
end M

namespace M
open PySem PySem.Spec PyProof.Rows L2
/-! ### enumerate of a tuple -/
def lEnumA (f : Ef) : Lf := fun env => (f env).bind fun r => match r.1 with
  | .list ds => some (pairs (irange 0 ds.length) ds, r.2)
  | .tuple ds => some (pairs (irange 0 ds.length) ds, r.2)
  | _ => none
theorem wl_enumA {f : Ef} {env : En} {Q : List D → En → Prop} (h : WE f env fun x e => IsS x fun ds => Q (pairs (irange 0 ds.length) ds) e) : WL (lEnumA f) env Q := by
  obtain ⟨x, e, h1, h⟩ := h
  cases x with
  | list ds => exact ⟨_, e, by unfold lEnumA; rw [h1]; rfl, h⟩
  | tuple ds => exact ⟨_, e, by unfold lEnumA; rw [h1]; rfl, h⟩
  | _ => cases h
end M

namespace M
open PySem PySem.Spec PyProof.Rows L2
/-! ### how many unlike items a list has: len(set(xs)) -/
section
variable {prog : Program} {w : World} {A : Around} {R : Result → Shared → Prop} {I : Addr} {fp wr : List Addr} {G : Array GenState → Array GenState → Prop} {n : Nat} {P : Nat → Value → Prop} {St : Nat → Shared → Prop}
end
section
variable {prog : Program} {w : World} {A : Around} {E : Value → Shared → Prop} {s : Shared}
end
/-- len(set(xs)), xs a list of texts or of numbers -/
def strsOf : List D → Option (List Str)
  | [] => some []
  | .str x :: ds => (strsOf ds).map (x :: ·)
  | _ => none
theorem strsOf_some : ∀ {ds : List D} {xs : List Str}, strsOf ds = some xs → ds = xs.map .str
  | [], xs, h => by unfold strsOf at h; cases h; rfl
  | d :: ds, xs, h => by
    cases d with
    | str x =>
      unfold strsOf at h
      obtain ⟨ys, h1, rfl⟩ := Option.map_eq_some_iff.mp h
      rw [strsOf_some h1]
      rfl
    | _ => cases h
theorem strsOf_map : ∀ xs : List Str, strsOf (xs.map .str) = some xs
  | [] => rfl
  | x :: xs => by rw [List.map_cons]; unfold strsOf; rw [strsOf_map xs]; rfl
/-! ### xs.insert(i, e) -/
section
variable {X : Cx} {e e2 : Expr} {fe fe2 : Ef} {x : Str} {p2 : Pos} {pos apos : Pos} {name : Str} {id : String}
end
end M

namespace M
open PySem PySem.Spec PyProof.Rows L2
/-! ### a text times a number, int of a text -/
def rMulT : R2 := fun x y H Q => ∃ (a : Str) (n : Int), x = .str a ∧ y = .int n ∧ a.length ≤ 16 ∧ 0 ≤ n ∧ n ≤ 100000 ∧ Q (.str (Txt.mul a n)) H
theorem op_mulT {X : Cx} : OpR X (binaryOp .Mult) rMulT := by
  intro pins s σ H x y v u Q I rx ry h
  obtain ⟨a, n, rfl, rfl, hl, h0, h1, q⟩ := h
  obtain ⟨t, rfl⟩ := rx
  obtain ⟨t', rfl⟩ := ry
  exact PySem.W.KXi.mul (n := a.length) rfl hl (by omega) (by omega) fun t' k _ _ => ⟨.str _, H, I.tok _, ⟨_, rfl⟩, q⟩
def gMulT : D → D → Option D
  | .str a, .int n => if decide (a.length ≤ 16) && decide (0 ≤ n) && decide (n ≤ 100000) then some (.str (Txt.mul a n)) else none
  | _, _ => none
theorem go_mulT {K : Frg} : GO K rMulT gMulT := by
  intro G F env s H x y d e z k h1 h2 h3 Q q
  unfold gMulT at h3
  split at h3
  · split at h3
    · rename_i hf
      simp only [Bool.and_eq_true, decide_eq_true_eq] at hf
      cases h1; cases h2; cases h3
      exact ⟨_, _, rfl, rfl, hf.1.1, hf.1.2, hf.2, q F H _ k (Same.refl F) (.str _)⟩
    · cases h3
  · cases h3
theorem xe_mulT {X : Cx} {a b : Expr} {fa fb : Ef} {pos : Pos} (ha : XE X a fa) (hb : XE X b fb) : XE X (.BinOp a .Mult b pos) (eBin gMulT fa fb) := xe_op op_mulT go_mulT ha hb
def gIntT : D → Option D
  | .str a => if decide (a.length ≤ 640) then (PySem.intText? a).map .int else none
  | _ => none
theorem gc_intT {K : Frg} : GC K (fun xs H Q => ∃ a n, xs = [.str a] ∧ PySem.intText? a = some n ∧ a.length ≤ 640 ∧ Q (.int n) H) gIntT := by
  intro G F env s H x d z k h1 h3 Q q
  unfold gIntT at h3
  split at h3
  · split at h3
    · rename_i hf
      obtain ⟨n, h4, rfl⟩ := Option.map_eq_some_iff.mp h3
      cases h1.str
      exact ⟨_, n, rfl, h4, of_decide_eq_true hf, q F H _ k (Same.refl F) (.int _)⟩
    · cases h3
  · cases h3
theorem xe_intT {X : Cx} {e : Expr} {f : Ef} {p pos : Pos} (hm : X.mg "int" = none) (ha : XO X e f) (hg : Gl X "int" := by rfl) (he : starEach [e] X.env = (false, eval e X.env) :: starEach [] X.env := by rfl) (hpl : (backTo pos (starEach [] X.env)).any (·.1) = false := by rfl) : XE X (.Call (.Name "int" p) [e] [] pos) (eUn gIntT f) :=
  xe_cbT call_int_str boot_int gc_intT hm ha hg (by decide) (by decide) he hpl
def tenText (n : Nat) : Str := "1" ++ Txt.mul "0" ((1 + n : Nat) : Int)
def TenOk (n : Nat) : Prop := (tenText n).length ≤ 640 ∧ PySem.intText? (tenText n) = some (((10 ^ (1 + n) : Nat) : Int))
theorem ten_0 : TenOk 0 := by unfold TenOk; decide +kernel
theorem ten_1 : TenOk 1 := by unfold TenOk; decide +kernel
theorem ten_2 : TenOk 2 := by unfold TenOk; decide +kernel
theorem ten_3 : TenOk 3 := by unfold TenOk; decide +kernel
theorem ten_4 : TenOk 4 := by unfold TenOk; decide +kernel
theorem ten_5 : TenOk 5 := by unfold TenOk; decide +kernel
theorem ten_6 : TenOk 6 := by unfold TenOk; decide +kernel
theorem ten_7 : TenOk 7 := by unfold TenOk; decide +kernel
theorem ten_8 : TenOk 8 := by unfold TenOk; decide +kernel
theorem ten_9 : TenOk 9 := by unfold TenOk; decide +kernel
theorem ten_10 : TenOk 10 := by unfold TenOk; decide +kernel
theorem ten_11 : TenOk 11 := by unfold TenOk; decide +kernel
theorem ten_12 : TenOk 12 := by unfold TenOk; decide +kernel
theorem ten_13 : TenOk 13 := by unfold TenOk; decide +kernel
theorem ten_14 : TenOk 14 := by unfold TenOk; decide +kernel
theorem ten_15 : TenOk 15 := by unfold TenOk; decide +kernel
theorem ten_16 : TenOk 16 := by unfold TenOk; decide +kernel
theorem ten_17 : TenOk 17 := by unfold TenOk; decide +kernel
theorem ten_18 : TenOk 18 := by unfold TenOk; decide +kernel
theorem ten_19 : TenOk 19 := by unfold TenOk; decide +kernel
theorem ten_20 : TenOk 20 := by unfold TenOk; decide +kernel
theorem ten_21 : TenOk 21 := by unfold TenOk; decide +kernel
theorem ten_22 : TenOk 22 := by unfold TenOk; decide +kernel
theorem ten_23 : TenOk 23 := by unfold TenOk; decide +kernel
theorem ten_24 : TenOk 24 := by unfold TenOk; decide +kernel
theorem ten_25 : TenOk 25 := by unfold TenOk; decide +kernel
theorem ten_26 : TenOk 26 := by unfold TenOk; decide +kernel
theorem ten_27 : TenOk 27 := by unfold TenOk; decide +kernel
theorem ten_28 : TenOk 28 := by unfold TenOk; decide +kernel
theorem ten_29 : TenOk 29 := by unfold TenOk; decide +kernel
theorem ten_30 : TenOk 30 := by unfold TenOk; decide +kernel
theorem ten_31 : TenOk 31 := by unfold TenOk; decide +kernel
theorem ten_32 : TenOk 32 := by unfold TenOk; decide +kernel
theorem ten_33 : TenOk 33 := by unfold TenOk; decide +kernel
theorem ten_34 : TenOk 34 := by unfold TenOk; decide +kernel
theorem ten_35 : TenOk 35 := by unfold TenOk; decide +kernel
theorem ten_36 : TenOk 36 := by unfold TenOk; decide +kernel
theorem ten_37 : TenOk 37 := by unfold TenOk; decide +kernel
theorem ten_38 : TenOk 38 := by unfold TenOk; decide +kernel
theorem ten_39 : TenOk 39 := by unfold TenOk; decide +kernel
theorem ten_40 : TenOk 40 := by unfold TenOk; decide +kernel
theorem ten_41 : TenOk 41 := by unfold TenOk; decide +kernel
theorem ten_42 : TenOk 42 := by unfold TenOk; decide +kernel
theorem ten_43 : TenOk 43 := by unfold TenOk; decide +kernel
theorem ten_44 : TenOk 44 := by unfold TenOk; decide +kernel
theorem ten_45 : TenOk 45 := by unfold TenOk; decide +kernel
theorem ten_46 : TenOk 46 := by unfold TenOk; decide +kernel
theorem ten_47 : TenOk 47 := by unfold TenOk; decide +kernel
theorem ten_48 : TenOk 48 := by unfold TenOk; decide +kernel
theorem ten_49 : TenOk 49 := by unfold TenOk; decide +kernel
theorem ten_50 : TenOk 50 := by unfold TenOk; decide +kernel
theorem ten_51 : TenOk 51 := by unfold TenOk; decide +kernel
theorem ten_52 : TenOk 52 := by unfold TenOk; decide +kernel
theorem ten_53 : TenOk 53 := by unfold TenOk; decide +kernel
theorem ten_54 : TenOk 54 := by unfold TenOk; decide +kernel
theorem ten_55 : TenOk 55 := by unfold TenOk; decide +kernel
theorem ten_56 : TenOk 56 := by unfold TenOk; decide +kernel
theorem ten_57 : TenOk 57 := by unfold TenOk; decide +kernel
theorem ten_58 : TenOk 58 := by unfold TenOk; decide +kernel
theorem ten_59 : TenOk 59 := by unfold TenOk; decide +kernel
theorem ten_text : ∀ {n : Nat}, n < 60 → TenOk n
  | 0, _ => ten_0
  | 1, _ => ten_1
  | 2, _ => ten_2
  | 3, _ => ten_3
  | 4, _ => ten_4
  | 5, _ => ten_5
  | 6, _ => ten_6
  | 7, _ => ten_7
  | 8, _ => ten_8
  | 9, _ => ten_9
  | 10, _ => ten_10
  | 11, _ => ten_11
  | 12, _ => ten_12
  | 13, _ => ten_13
  | 14, _ => ten_14
  | 15, _ => ten_15
  | 16, _ => ten_16
  | 17, _ => ten_17
  | 18, _ => ten_18
  | 19, _ => ten_19
  | 20, _ => ten_20
  | 21, _ => ten_21
  | 22, _ => ten_22
  | 23, _ => ten_23
  | 24, _ => ten_24
  | 25, _ => ten_25
  | 26, _ => ten_26
  | 27, _ => ten_27
  | 28, _ => ten_28
  | 29, _ => ten_29
  | 30, _ => ten_30
  | 31, _ => ten_31
  | 32, _ => ten_32
  | 33, _ => ten_33
  | 34, _ => ten_34
  | 35, _ => ten_35
  | 36, _ => ten_36
  | 37, _ => ten_37
  | 38, _ => ten_38
  | 39, _ => ten_39
  | 40, _ => ten_40
  | 41, _ => ten_41
  | 42, _ => ten_42
  | 43, _ => ten_43
  | 44, _ => ten_44
  | 45, _ => ten_45
  | 46, _ => ten_46
  | 47, _ => ten_47
  | 48, _ => ten_48
  | 49, _ => ten_49
  | 50, _ => ten_50
  | 51, _ => ten_51
  | 52, _ => ten_52
  | 53, _ => ten_53
  | 54, _ => ten_54
  | 55, _ => ten_55
  | 56, _ => ten_56
  | 57, _ => ten_57
  | 58, _ => ten_58
  | 59, _ => ten_59
  | n + 60, h => absurd h (by omega)
/-- int("1" + "0" * (1 + n)) -/
theorem wo_ten {n : Nat} {Q : D → Prop} (h : n < 60) (q : Q (.int (((10 ^ (1 + n) : Nat) : Int)))) : WO (gMulT (.str "0") (.int (1 + (n : Int)))) fun x => WO (gAdd (.str "1") x) fun y => WO (gIntT y) Q := by
  obtain ⟨h1, h2⟩ := ten_text h
  unfold tenText at h1 h2
  have e : (1 : Int) + (n : Int) = ((1 + n : Nat) : Int) := by omega
  rw [e]
  refine ⟨.str (Txt.mul "0" ((1 + n : Nat) : Int)), ?_, .str ("1" ++ Txt.mul "0" ((1 + n : Nat) : Int)), ?_, _, ?_, q⟩
  · unfold gMulT
    dsimp only
    rw [if_pos]
    simp only [Bool.and_eq_true, decide_eq_true_eq]
    exact ⟨⟨by decide, by omega⟩, by omega⟩
  · unfold gAdd
    dsimp only
    have hl : ("1" ++ Txt.mul "0" ((1 + n : Nat) : Int) : Str).length = ("1" : Str).length + (Txt.mul "0" ((1 + n : Nat) : Int)).length := by
      show (("1" : Str).cps ++ (Txt.mul "0" ((1 + n : Nat) : Int)).cps).size = _
      rw [Array.size_append]
      rfl
    rw [if_pos (fits_of (by rw [← hl]; omega))]
  · unfold gIntT
    dsimp only
    rw [decide_eq_true h1, if_pos rfl, h2]
    rfl
end M

namespace M
open PySem PySem.Spec PyProof.Rows L2
/-! ### min and max of a list of data that are alike -/
def noNone (ds : List D) : Bool := ds.all fun d => match d with | .none => false | _ => true
theorem noNone_ok {ds : List D} (h : noNone ds = true) : ∀ d ∈ ds, d ≠ .none := fun d hd e => by
  have := List.all_eq_true.mp h d hd
  subst e
  cases this
theorem depthAll_le : ∀ {ds : List D} {n : Nat}, (∀ d ∈ ds, d.depth ≤ n) → PyData.depthAll ds ≤ n
  | [], n, _ => by unfold PyData.depthAll; omega
  | d :: ds, n, h => by
    have h1 := h d List.mem_cons_self
    have h2 := depthAll_le fun e he => h e (List.mem_cons_of_mem _ he)
    unfold PyData.depthAll
    omega
theorem best_mem {f : D → D → Bool} : ∀ (ds : List D) (d : D), ds.foldl (fun a y => if f y a then y else a) d ∈ d :: ds
  | [], d => List.mem_cons_self
  | e :: ds, d => by
    rw [List.foldl_cons]
    have h := best_mem (f := f) ds (if f e d then e else d)
    rcases List.mem_cons.mp h with h | h
    · rw [h]
      split
      · exact List.mem_cons_of_mem _ List.mem_cons_self
      · exact List.mem_cons_self
    · exact List.mem_cons_of_mem _ (List.mem_cons_of_mem _ h)
theorem best_mem' {f : D → D → Bool} (ds : List D) (d : D) : ds.foldl (fun a y => if f a y then y else a) d ∈ d :: ds := best_mem (f := fun y a => f a y) ds d
theorem dpAll_at {K : Frg} {H : Hp} : ∀ {xs : List V} {ds : List D}, DpAll K H xs ds → ∀ (i : Nat) (h1 : i < xs.length) (h2 : i < ds.length), Dp K H xs[i] ds[i]
  | [], _, _, i, h1, _ => by simp at h1
  | _ :: _, [], h, _, _, _ => by cases h
  | _ :: _, _ :: _, h, 0, _, _ => by cases h with | cons h1 t => exact h1
  | _ :: _, _ :: _, h, i + 1, h1, h2 => by
    cases h with
    | cons h3 t => exact dpAll_at t i (by simpa using h1) (by simpa using h2)
section
variable {X : Cx}
theorem best_post {pins : List (Addr × Obj)} {σ : L2.St} {H : Hp} {s : Shared} {xs : List V} {ds : List D} {its : List Value} {g : D} {Q : V → Hp → Prop} (I : Inv X pins σ H s) (rv : Vals xs its) (hd : DpAll X.K H xs ds) (hal : PySem.W.AllAlike ds) (hg : g ∈ ds) (q : ∀ p : V × D, p ∈ xs.zip ds → p.2 = g → Q p.1 H)
    {i : Nat} {v : Value} {h' : Heap} {tk : Nat} {bs : List Addr} (hi : its[i]? = some v) (hr : Reads h' v g bs) (hk : ∀ b o, s.heap.get? b = some o → h'.get? b = some o) :
    ∃ x H', Inv X pins σ H' { s with heap := h', toks := tk } ∧ RelV x v ∧ Q x H' := by
  have hlen := dpAll_len hd
  have hvl := rv.length
  have hil : i < its.length := (List.getElem?_eq_some_iff.mp hi).1
  obtain ⟨u, h1, h2⟩ := rv.get (i := i) (x := xs[i]'(by omega)) (List.getElem?_eq_getElem _)
  rw [hi] at h1
  cases h1
  have hD := dpAll_at hd i (by omega) (by omega)
  obtain ⟨as2, r2⟩ := Dp.reads I _ _ _ hD h2
  have e := PySem.W.alike_unique _ _ v _ _ (hal _ (List.getElem_mem _) _ hg) (PySem.W.reads_keeps hk r2) hr
  exact ⟨xs[i], H, I.kept hk, h2, q (xs[i], ds[i]'(by omega)) (List.mem_iff_getElem.mpr ⟨i, by rw [List.length_zip]; omega, by rw [List.getElem_zip]⟩) e⟩
end
/-! ### the rest by a number of either sign -/
/-! ### how often a list has a thing -/
section
variable {X : Cx}
end
/-! ### a list from its end to its beginning -/
end M

namespace M
open PySem PySem.Spec PyProof.Rows L2
/-! ### a tuple told with a new list at its end, and the list changed by the one who asked -/
def unT : List Ar → Option (List D × Nat)
  | [] => none
  | .r i :: as => match as with
    | [] => some ([], i)
    | _ :: _ => none
  | .v d :: as => (unT as).map fun r => (d :: r.1, r.2)
  | .o _ :: _ => none
def sRetT (fa : Af) : Sf := fun env => (fa env).bind fun r => (unT r.1).bind fun q => match r.2[q.2]? with
  | some (.own true ds) => if fits (q.1.length + 1) then some (.rp q.1 ds (r.2.set q.2 .no)) else none
  | _ => none
section
variable {X : Cx} {K : Frg} {st : Stmt} {rest es : List Stmt} {e a b : Expr} {f g : Sf} {fe fa fb : Ef} {pos : Pos}
end
section
variable {P : Program} {w : World} {K : Frg} {mg : Str → Option Value} {base : Heap}
end
/-! the one who asked: slot i holds what was told -/
abbrev Td := En → List D → List D → Option Out
section
variable {K : Frg} {G : Gm} {F : Hp} {env : En} {s : L2.St} {H H' : Hp} {i : Nat}
end
section
variable {X : Cx} {K : Frg} {st : Stmt} {rest sts : List Stmt} {e a b : Expr} {f : Sf} {fe : Ef} {pos : Pos} {i : Nat}
/-- from here on it is a value -/
def tdP (i : Nat) (f : Sf) : Td := fun env as ds => f (env.set i (.val (.tuple (as ++ [.list ds]))))
/-! statements that only look: they go on or hand back something flat -/
abbrev Gpu := En → Option (Option D)
def pNil : Gpu := fun _ => some none
def pSeq (f g : Gpu) : Gpu := fun env => (f env).bind fun r => match r with
  | none => g env
  | some d => some (some d)
def pRet (f : Ef) : Gpu := fun env => (eBor f env).map fun r => some r.1
def pIf (c : Bf) (f g : Gpu) : Gpu := fun env => (bBor c env).bind fun r => if r.1 then f env else g env
/-- a look at what was told, the told tuple a value for so long -/
def lookT (i : Nat) (env : En) (as ds : List D) : En := unowns (env.set i (.val (.tuple (as ++ [.list ds]))))
def tdG (i : Nat) (fp : Gpu) (fr : Td) : Td := fun env as ds => (fp (lookT i env as ds)).bind fun r => match r with
  | none => fr env as ds
  | some d => if flatD d then some (.rt d env) else none
/-- a parting -/
def thenS (fr : Sf) : Out → Option Out
  | .nx env1 => fr env1
  | o => some o
def tdIf (i : Nat) (c : Bf) (fa fb : Td) (fr : Sf) : Td := fun env as ds => (c (lookT i env as ds)).bind fun r => (if r.1 then fa env as ds else fb env as ds).bind (thenS fr)
/-! a whole number written down -/
/-- y = list(x[j]) -/
def tdK (i ik : Nat) (j : Int) (fr : Td) : Td := fun env as ds => if ixN (as.length + 1) j = some as.length ∧ ik ≠ i then fr (env.set ik (.val (.list ds))) as ds else none
def tdA (i : Nat) (j c : Int) (fr : Td) : Td := fun env as ds => if ixN (as.length + 1) j = some as.length ∧ fits (ds.length + 1) = true then fr env as (ds ++ [.int c]) else none
def tdC (i : Nat) (j : Int) (fr : Td) : Td := fun env as ds => if ixN (as.length + 1) j = some as.length then fr env as [] else none
/-- a, b = x: the list is the def's own -/
def tdU (i ia ib : Nat) (f : Sf) : Td := fun env as ds => match as with
  | [d] => if ia ≠ i ∧ ib ≠ i then f ((env.set ia (.val d)).set ib (.own true ds)) else none
  | _ => none
end
/-! what it leaves -/
def RetT (ars : List Ar) (e : En) (R : D → En → Prop) : Prop := ∃ as i ds, unT ars = some (as, i) ∧ e[i]? = some (.own true ds) ∧ fits (as.length + 1) = true ∧ R (.tuple (as ++ [.list ds])) (e.set i .no)
section
variable {env : En} {N : En → Prop} {R : D → En → Prop} {L : List D → En → Prop} {i ik : Nat} {as ds : List D} {j c : Int} {Q : Po} {A : Prop} {B : D → Prop}
theorem ws_retT {fa : Af} (h : WA fa env fun ars e => RetT ars e R) : WS (sRetT fa) env ⟨N, R, L⟩ := by
  obtain ⟨ars, e, h1, as, i, ds, h2, h3, h4, q⟩ := h
  exact ⟨.rp as ds (e.set i .no), by unfold sRetT; simp only [h1, h2, h3, h4, Option.bind_some, if_true], q⟩
theorem retT1 {a : D} (h : env[i]? = some (.own true ds)) (q : Nrm (env.set i .no) (R (.tuple [a, .list ds]))) : RetT [.v a, .r i] env R := ⟨[a], i, ds, rfl, h, rfl, q⟩
theorem retT2 {a b : D} (h : env[i]? = some (.own true ds)) (q : Nrm (env.set i .no) (R (.tuple [a, b, .list ds]))) : RetT [.v a, .v b, .r i] env R := ⟨[a, b], i, ds, rfl, h, rfl, q⟩
def WTd (f : Td) (env : En) (as ds : List D) (Q : Po) : Prop := ∃ o, f env as ds = some o ∧ Q.at o
def WPu (f : Gpu) (env : En) (A : Prop) (B : D → Prop) : Prop := ∃ r, f env = some r ∧ match r with
  | none => A
  | some d => B d
theorem wpu_nil (q : A) : WPu pNil env A B := ⟨none, rfl, q⟩
theorem wpu_seq {f g : Gpu} (h : WPu f env (WPu g env A B) B) : WPu (pSeq f g) env A B := by
  obtain ⟨r, h1, h2⟩ := h
  cases r with
  | none => obtain ⟨r, h3, q⟩ := h2; exact ⟨r, by unfold pSeq; rw [h1]; exact h3, q⟩
  | some d => exact ⟨some d, by unfold pSeq; rw [h1]; rfl, h2⟩
theorem wpu_ret {f : Ef} (h : WE (eBor f) env fun d _ => B d) : WPu (pRet f) env A B := by
  obtain ⟨d, e, h1, q⟩ := h
  exact ⟨some d, by unfold pRet; rw [h1]; rfl, q⟩
theorem wpu_if {c : Bf} {f g : Gpu} (h : WB (bBor c) env fun b _ => IfB b (WPu f env A B) (WPu g env A B)) : WPu (pIf c f g) env A B := by
  obtain ⟨b, e, h1, h2⟩ := h
  cases b with
  | true => obtain ⟨r, h3, q⟩ : WPu f env A B := h2; exact ⟨r, by unfold pIf; rw [h1]; exact h3, q⟩
  | false => obtain ⟨r, h3, q⟩ : WPu g env A B := h2; exact ⟨r, by unfold pIf; rw [h1]; exact h3, q⟩
theorem wtd_P {f : Sf} (h : Nrm (env.set i (.val (.tuple (as ++ [.list ds])))) fun e => WS f e Q) : WTd (tdP i f) env as ds Q := h
theorem wtd_G {fp : Gpu} {fr : Td} (h : Nrm (unowns (env.set i (.val (.tuple (as ++ [.list ds]))))) fun e => WPu fp e (WTd fr env as ds ⟨N, R, L⟩) fun d => flatD d = true ∧ R d env) : WTd (tdG i fp fr) env as ds ⟨N, R, L⟩ := by
  obtain ⟨r, h1, h2⟩ : WPu fp (lookT i env as ds) (WTd fr env as ds ⟨N, R, L⟩) fun d => flatD d = true ∧ R d env := h
  cases r with
  | none => obtain ⟨o, h3, q⟩ := h2; exact ⟨o, by unfold tdG; rw [h1]; exact h3, q⟩
  | some d => exact ⟨.rt d env, by unfold tdG; rw [h1]; simp only [Option.bind_some, h2.1, if_true], h2.2⟩
theorem wtd_If {gc : Bf} {fa fb : Td} {fr : Sf} (h : Nrm (unowns (env.set i (.val (.tuple (as ++ [.list ds]))))) fun e => WB (bBor gc) e fun b _ => IfB b (WTd fa env as ds ⟨fun e => WS fr e ⟨N, R, L⟩, R, L⟩) (WTd fb env as ds ⟨fun e => WS fr e ⟨N, R, L⟩, R, L⟩)) : WTd (tdIf i (bBor gc) fa fb fr) env as ds ⟨N, R, L⟩ := by
  obtain ⟨b, e, h1, h2⟩ : WB (bBor gc) (lookT i env as ds) fun b _ => IfB b (WTd fa env as ds ⟨fun e => WS fr e ⟨N, R, L⟩, R, L⟩) (WTd fb env as ds ⟨fun e => WS fr e ⟨N, R, L⟩, R, L⟩) := h
  have fin : ∀ o, (⟨fun e => WS fr e ⟨N, R, L⟩, R, L⟩ : Po).at o → ∃ o', thenS fr o = some o' ∧ (⟨N, R, L⟩ : Po).at o' := fun o q => by
    cases o with
    | nx e => exact q
    | rt d e => exact ⟨_, rfl, q⟩
    | rn d e => exact ⟨_, rfl, q⟩
    | rp d d2 e => exact ⟨_, rfl, q⟩
  cases b with
  | true =>
    obtain ⟨o, h3, q⟩ : WTd fa env as ds ⟨fun e => WS fr e ⟨N, R, L⟩, R, L⟩ := h2
    obtain ⟨o', h4, q'⟩ := fin o q
    exact ⟨o', by unfold tdIf; rw [h1]; simp only [Option.bind_some, if_true, h3]; exact h4, q'⟩
  | false =>
    obtain ⟨o, h3, q⟩ : WTd fb env as ds ⟨fun e => WS fr e ⟨N, R, L⟩, R, L⟩ := h2
    obtain ⟨o', h4, q'⟩ := fin o q
    exact ⟨o', by unfold tdIf; rw [h1]; simp only [Option.bind_some, Bool.false_eq_true, if_false, h3]; exact h4, q'⟩
theorem wtd_K {fr : Td} (h : ixN (as.length + 1) j = some as.length ∧ ik ≠ i) (q : Nrm (env.set ik (.val (.list ds))) fun e => WTd fr e as ds Q) : WTd (tdK i ik j fr) env as ds Q := by
  obtain ⟨o, h1, q⟩ : WTd fr (env.set ik (.val (.list ds))) as ds Q := q
  exact ⟨o, by unfold tdK; rw [if_pos h]; exact h1, q⟩
theorem wtd_A {fr : Td} (h : ixN (as.length + 1) j = some as.length) (hf : fits (ds.length + 1) = true) (q : WTd fr env as (ds ++ [.int c]) Q) : WTd (tdA i j c fr) env as ds Q := by
  obtain ⟨o, h1, q⟩ := q
  exact ⟨o, by unfold tdA; rw [if_pos ⟨h, hf⟩]; exact h1, q⟩
theorem wtd_C {fr : Td} (h : ixN (as.length + 1) j = some as.length) (q : WTd fr env as [] Q) : WTd (tdC i j fr) env as ds Q := by
  obtain ⟨o, h1, q⟩ := q
  exact ⟨o, by unfold tdC; rw [if_pos h]; exact h1, q⟩
theorem wtd_U {f : Sf} {ia ib : Nat} {d : D} (h : ia ≠ i ∧ ib ≠ i) (q : Nrm ((env.set ia (.val d)).set ib (.own true ds)) fun e => WS f e Q) : WTd (tdU i ia ib f) env [d] ds Q := by
  obtain ⟨o, h1, q⟩ : WS f ((env.set ia (.val d)).set ib (.own true ds)) Q := q
  exact ⟨o, by unfold tdU; dsimp only; rw [if_pos h]; exact h1, q⟩
end
/-! what a body hands back that isn't told -/
section
variable {p : D → Prop} {f g : Sf}
end
end M

namespace M
open PySem PySem.Spec PyProof.Rows L2
/-! ### a new list handed in to be changed, and forgotten -/
def valsA : List Ar → Option (List D)
  | [] => some []
  | .v d :: as => (valsA as).map fun r => d :: r
  | _ :: _ => none
def eCallN (g : Gf) (fl : Lf) (fa : Af) : Ef := fun env => (fl env).bind fun r => (fa r.2).bind fun q => (valsA q.1).bind fun ds => (g (.own false r.1 :: ds.map .val)).map fun w => (w.1, q.2)
section
variable {X : Cx} {k : Nat} {fx : Addr} {fd : FuncData} {ps : List Str} {x : Str} {p pos : Pos} {e : Expr} {es : List Expr} {fa : Af} {fl : Lf} {g : Gf}
end
theorem we_callN {env : En} {g : Gf} {fl : Lf} {fa : Af} {Q : D → En → Prop} (h : WL fl env fun ls e => WA fa e fun ars e2 => WO (valsA ars) fun ds => WG g (.own false ls :: ds.map .val) fun d _ => Q d e2) : WE (eCallN g fl fa) env Q := by
  obtain ⟨ls, e1, h1, ars, e2, h2, ds, h3, d, a', h4, q⟩ := h
  exact ⟨d, e2, by unfold eCallN; simp only [h1, h2, h3, h4, Option.bind_some, Option.map_some], q⟩
theorem vals_nil {Q : List D → Prop} (q : Q []) : WO (valsA []) Q := ⟨_, rfl, q⟩
theorem vals_v {d : D} {as : List Ar} {Q : List D → Prop} (h : WO (valsA as) fun ds => Q (d :: ds)) : WO (valsA (.v d :: as)) Q := by
  obtain ⟨ds, h1, q⟩ := h
  exact ⟨_, by unfold valsA; rw [h1]; rfl, q⟩
end M

namespace M
open PySem PySem.Spec PyProof.Rows L2

/-! ### refusals: a def that may raise -/
/-- an exception: its class, the field it bears -/
structure Xc where
  C : Addr
  fd : Option (Str × Int)
/-- it as a value, once it is caught -/
def xD (x : Xc) : D := .dict [(.int (x.C : Int), match x.fd with
  | none => .none
  | some p => .tuple [.str p.1, .int p.2])]
/-- how it lies while it flies: its dict is newer than H0 -/
def IsX (H0 F H : Hp) (x : Xc) (cls : Value) (d : Option Addr) : Prop := cls = .ref x.C ∧ match x.fd with
  | none => d = none
  | some p => ∃ a, d = some a ∧ H a = some (.xd [(p.1, .int p.2)]) ∧ F a = none ∧ H0 a = none
abbrev Ox := Out ⊕ (Xc × En)
abbrev Sfx := En → Option Ox
abbrev Efx := En → Option ((D × En) ⊕ (Xc × En))
def RSX (K : Frg) (G : Gm) (F : Hp) (E : Ends) (W : WX) : Ox → Prop
  | .inl o => RSx K G F E o
  | .inr (x, env) => ∀ F' s' H' cls d, Ok K G F' env s' H' → Same F F' → IsX G.H0 F' H' x cls d → W cls d s' H'
theorem RSX.up {K : Frg} {G : Gm} {F F' : Hp} {E : Ends} {W : WX} {o : Ox} (s : Same F F') (h : RSX K G F E W o) : RSX K G F' E W o := by
  cases o with
  | inl o => exact RSx.up (F := F) s h
  | inr p =>
    obtain ⟨x, env⟩ := p
    exact fun F2 s2 H2 cls d k e q => h F2 s2 H2 cls d k (s.trans e) q
section
variable {X : Cx}
theorem PS.imp {st : Stmt} {t u : TS} (h : PS X st t) (i : ∀ D s H, u D s H → t D s H) : PS X st u := ⟨fun pins s σ H D I q => h.run pins s σ H D I (i D σ H q)⟩
theorem PSs.imp {st : List Stmt} {t u : TS} (h : PSs X st t) (i : ∀ D s H, u D s H → t D s H) : PSs X st u := ⟨fun pins s σ H D I q => h.run pins s σ H D I (i D σ H q)⟩
theorem PE.imp {e : Expr} {t u : TE} (h : PE X e t) (i : ∀ s H Q, u s H Q → t s H Q) : PE X e u := ⟨fun pins s σ H Q I q => h.run pins s σ H Q I (i σ H Q q)⟩
variable {W : WX} {st : Stmt} {rest : List Stmt} {e : Expr} {f g : Sf} {fx gx : Sfx} {fe : Efx} {pos : Pos}
def sLift (f : Sf) : Sfx := fun env => (f env).map .inl
def sSeqX (f g : Sfx) : Sfx := fun env => (f env).bind fun o => match o with
  | .inl (.nx env1) => g env1
  | o => some o
def sIfX (c : Bf) (f g : Sfx) : Sfx := fun env => (c env).bind fun r => if r.1 then f r.2 else g r.2
/-! ### raise X('..') -/
def sRaise0 (C : Addr) : Sfx := fun env => some (.inr (⟨C, none⟩, env))
/-! ### a def that may raise -/
abbrev Gfx := List Sl → Option ((D × List Sl) ⊕ (Xc × List Sl))
section
variable {P : Program} {w : World} {K : Frg} {mg : Str → Option Value} {base : Heap}
end

/-! ### its call -/
def eCallX (g : Gfx) (fa : Af) : Efx := fun env => (fa env).bind fun r => match rSlots r.1 with
  | [] => (resArs r.2 r.1).bind fun args => (g args).map fun q => match q with
    | .inl (d, _) => .inl (d, r.2)
    | .inr (x, _) => .inr (x, r.2)
  | _ => none
def eUp (f : Efx) (h : D → En → Out) : Sfx := fun env => (f env).map fun r => match r with
  | .inl (d, e) => .inl (h d e)
  | .inr p => .inr p
def sExprX (f : Efx) : Sfx := eUp f fun _ e => .nx e
def sRetX (f : Efx) : Sfx := eUp f fun d e => .rt d e
def sSetX (i : Nat) (f : Efx) : Sfx := eUp f fun d e => .nx (e.set i (.val d))
/-! ### for, in a def that may raise -/
end

/-! ### except D as e: in the suite e is a value -/
section
variable {X : Cx} {x n : Str} {CD : Addr} {i : Nat} {body sts : List Stmt} {st0 : Stmt} {np pos pos' : Pos} {tb : WX → TS} {ts : TS}
end
/-- a reading that hangs on the mirror alone -/
def cS (K : Frg) (f : Sf) : TS := fun E s H => ∃ G F env o, Ok K G F env s H ∧ f env = some o ∧ RSx K G F E o
theorem XSs.can {X : Cx} {sts : List Stmt} {f : Sf} (h : XSs X sts f) : PSs X sts (cS X.K f) := by
  obtain ⟨t, h1, h2⟩ := h.ex
  exact PSs.imp h1 fun E s H ⟨G, F, env, o, k, e, q⟩ => h2 G F env s H o k e E q
def outNo (i : Nat) : Out → Out
  | .nx env => .nx (env.set i .no)
  | o => o
def sTry (cat : Addr → Bool) (i : Nat) (f : Sfx) (g : Sf) : Sf := fun env => (f env).bind fun r => match r with
  | .inl o => some o
  | .inr (x, env1) => if cat x.C then (g (env1.set i (.val (xD x)))).map (outNo i) else none
section
variable {X : Cx} {x n : Str} {CD : Addr} {body sts : List Stmt} {st0 : Stmt} {np pos pos' : Pos} {f : Sfx} {g : Sf}
end

/-! ### isinstance and fields of a caught exception -/
/-- what is told of an exception, by its class; of None it is no -/
def gIsO (tab : List (Addr × Bool)) : D → Option D
  | .none => some (.bool false)
  | .dict [(.int c, _)] => (tab.lookup c.toNat).map .bool
  | _ => none
/-- the classes' answers for one class cv, or for a row of them -/
def TabOk (K : Frg) (tab : List (Addr × Bool)) (cv : Value) : Prop := PySem.W.kitOne K (.type "NoneType") cv = some false ∧ ∀ r ∈ tab, ExcC K r.1 ∧ PySem.W.kitOne K (.ref r.1) cv = some r.2
def TabsOk (K : Frg) (tab : List (Addr × Bool)) (cvs : List Value) : Prop := PySem.W.kitAny K (.type "NoneType") cvs = some false ∧ ∀ r ∈ tab, ExcC K r.1 ∧ PySem.W.kitAny K (.ref r.1) cvs = some r.2
section
variable {X : Cx} {e : Expr} {f : Ef} {p pos p2 : Pos}
/-- a row of own classes -/
inductive PCs (X : Cx) : List Expr → List Value → Prop
  | nil : PCs X [] []
  | cons {y : Str} {p : Pos} {C : Addr} {es : List Expr} {cvs : List Value} (hm : X.mg y = some (.ref C)) (t : PCs X es cvs) (hg : Gl X y := by rfl) (hdb : (y == ("__debug__" : Str)) = false := by decide)
      (he : starEach (.Name y p :: es) X.env = (false, eval (.Name y p) X.env) :: starEach es X.env := by rfl) : PCs X (.Name y p :: es) (.ref C :: cvs)
theorem PCs.pa {es : List Expr} {cvs : List Value} (h : PCs X es cvs) : ∃ t, PA X es t ∧ ∃ cs, Paired ClsV cs cvs ∧ cs.length = es.length ∧ ∀ s H Q, Q cs H → t s H Q := by
  induction h with
  | nil => exact ⟨_, pa_nil, [], .nil, rfl, fun s H Q q => q⟩
  | @cons y p C es cvs hm t hg hdb he ih =>
    obtain ⟨u, h1, cs, h2, h3, h4⟩ := ih
    exact ⟨_, pa_cons (pe_glob (v := .ref C) hg hm rfl hdb) h1 he, .ref C :: cs, .cons (.own C) h2, by simp [h3], fun s H Q q => h4 s H _ q⟩
/-- e.f -/
def gAttr (C : Addr) (n : Str) : D → Option D
  | .dict [(.int c, .tuple [.str g, .int z])] => if decide (c = (C : Int)) && (g == n) then some (.int z) else none
  | _ => none
end
/-! ### the classes' facts -/
theorem any_cons {K : Frg} {t c : Value} {cs : List Value} {b r : Bool} (h : PySem.W.kitOne K t c = some b) (hr : PySem.W.kitAny K t cs = some r) : PySem.W.kitAny K t (c :: cs) = some (b || r) := by
  unfold PySem.W.kitAny
  rw [h]
  cases b with
  | true => rfl
  | false => exact hr
theorem TabOk.nil {K : Frg} {cv : Value} (h : PySem.W.kitOne K (.type "NoneType") cv = some false) : TabOk K [] cv := ⟨h, fun _ z => nomatch z⟩
theorem TabsOk.nil {K : Frg} {cvs : List Value} (h : PySem.W.kitAny K (.type "NoneType") cvs = some false) : TabsOk K [] cvs := ⟨h, fun _ z => nomatch z⟩
end M

namespace M
open PySem PySem.Spec PyProof.Rows L2
/-! ### rules about the mirrors of what may raise -/
structure Px where
  n : En → Prop
  r : D → En → Prop
  l : List D → En → Prop
  x : Xc → En → Prop
def Px.at (Q : Px) : Ox → Prop
  | .inl o => Po.at ⟨Q.n, Q.r, Q.l⟩ o
  | .inr (x, e) => Q.x x e
def WSX (f : Sfx) (env : En) (Q : Px) : Prop := ∃ o, f env = some o ∧ Q.at o
def WEX (f : Efx) (env : En) (Q : D → En → Prop) (X : Xc → En → Prop) : Prop := ∃ o, f env = some o ∧ match o with
  | .inl (d, e) => Q d e
  | .inr (x, e) => X x e
def WGX (g : Gfx) (args : List Sl) (Q : D → List Sl → Prop) (X : Xc → Prop) : Prop := ∃ o, g args = some o ∧ match o with
  | .inl (d, a) => Q d a
  | .inr (x, _) => X x
def CallGX (g : Gfx) (as : List Ar) (e : En) (Q : D → En → Prop) (X : Xc → En → Prop) : Prop := rSlots as = [] ∧ WO (resArs e as) fun args => WGX g args (fun d _ => Q d e) fun x => X x e
section
variable {env : En} {N : En → Prop} {R : D → En → Prop} {L : List D → En → Prop} {X : Xc → En → Prop} {f g : Sfx} {fe : Efx} {c : Bf} {i : Nat}
theorem WGX.mono {g : Gfx} {as : List Sl} {Q Q' : D → List Sl → Prop} {X X' : Xc → Prop} (h : WGX g as Q X) (m1 : ∀ d a, Q d a → Q' d a) (m2 : ∀ x, X x → X' x) : WGX g as Q' X' := by
  obtain ⟨o, h1, h2⟩ := h
  refine ⟨o, h1, ?_⟩
  cases o with
  | inl o => exact m1 _ _ h2
  | inr o => exact m2 _ h2
theorem wsx_lift {f : Sf} (h : WS f env ⟨N, R, L⟩) : WSX (sLift f) env ⟨N, R, L, X⟩ := by
  obtain ⟨o, h1, h2⟩ := h
  exact ⟨.inl o, by unfold sLift; rw [h1]; rfl, h2⟩
theorem wsx_seq (h : WSX f env ⟨fun e => WSX g e ⟨N, R, L, X⟩, R, L, X⟩) : WSX (sSeqX f g) env ⟨N, R, L, X⟩ := by
  obtain ⟨o, h1, h2⟩ := h
  cases o with
  | inr p => exact ⟨.inr p, by unfold sSeqX; rw [h1]; rfl, h2⟩
  | inl o =>
    cases o with
    | nx e =>
      obtain ⟨o, h3, h4⟩ : WSX g e ⟨N, R, L, X⟩ := h2
      exact ⟨o, by unfold sSeqX; rw [h1]; exact h3, h4⟩
    | rt d e => exact ⟨.inl (.rt d e), by unfold sSeqX; rw [h1]; rfl, h2⟩
    | rn d e => exact ⟨.inl (.rn d e), by unfold sSeqX; rw [h1]; rfl, h2⟩
    | rp as ds e => exact ⟨.inl (.rp as ds e), by unfold sSeqX; rw [h1]; rfl, h2⟩
theorem wsx_if (h : WB c env fun b e => IfB b (WSX f e ⟨N, R, L, X⟩) (WSX g e ⟨N, R, L, X⟩)) : WSX (sIfX c f g) env ⟨N, R, L, X⟩ := by
  obtain ⟨b, e, h1, h2⟩ := h
  cases b with
  | true => obtain ⟨o, h3, q⟩ : WSX f e ⟨N, R, L, X⟩ := h2; exact ⟨o, by unfold sIfX; rw [h1]; exact h3, q⟩
  | false => obtain ⟨o, h3, q⟩ : WSX g e ⟨N, R, L, X⟩ := h2; exact ⟨o, by unfold sIfX; rw [h1]; exact h3, q⟩
theorem wsx_raise0 {C : Addr} (h : X ⟨C, none⟩ env) : WSX (sRaise0 C) env ⟨N, R, L, X⟩ := ⟨_, rfl, h⟩
theorem wsx_up {h : D → En → Out} {Q : Px} (w : WEX fe env (fun d e => Q.at (.inl (h d e))) Q.x) : WSX (eUp fe h) env Q := by
  obtain ⟨o, h1, h2⟩ := w
  cases o with
  | inl o => exact ⟨.inl (h o.1 o.2), by unfold eUp; rw [h1]; rfl, h2⟩
  | inr o => exact ⟨.inr o, by unfold eUp; rw [h1]; rfl, h2⟩
theorem wsx_expr (h : WEX fe env (fun _ e => N e) X) : WSX (sExprX fe) env ⟨N, R, L, X⟩ := wsx_up h
theorem wsx_ret (h : WEX fe env R X) : WSX (sRetX fe) env ⟨N, R, L, X⟩ := wsx_up h
theorem wsx_set (h : WEX fe env (fun d e => Nrm (e.set i (.val d)) N) X) : WSX (sSetX i fe) env ⟨N, R, L, X⟩ := wsx_up h
theorem wex_call {g : Gfx} {fa : Af} {Q : D → En → Prop} (h : WA fa env fun as e => CallGX g as e Q X) : WEX (eCallX g fa) env Q X := by
  obtain ⟨as, e, h1, h2, args, h3, o, h4, h5⟩ := h
  cases o with
  | inl o => exact ⟨.inl (o.1, e), by unfold eCallX; simp [h1, h2, h3, h4], h5⟩
  | inr o => exact ⟨.inr (o.1, e), by unfold eCallX; simp [h1, h2, h3, h4], h5⟩
theorem cgx0 {g : Gfx} {as : List Ar} {Q : D → En → Prop} (hr : rSlots as = []) (h : WO (resArs env as) fun args => WGX g args (fun d _ => Q d env) fun x => X x env) : CallGX g as env Q X := ⟨hr, h⟩
theorem ws_try {cat : Addr → Bool} {g : Sf} (h : WSX f env ⟨N, R, L, fun x e => cat x.C = true ∧ WS g (e.set i (.val (xD x))) ⟨fun e => N (e.set i .no), R, L⟩⟩) : WS (sTry cat i f g) env ⟨N, R, L⟩ := by
  obtain ⟨o, h1, h2⟩ := h
  cases o with
  | inl o => exact ⟨o, by unfold sTry; rw [h1]; rfl, h2⟩
  | inr o =>
    obtain ⟨x, e⟩ := o
    obtain ⟨h3, o, h4, h5⟩ : cat x.C = true ∧ WS g (e.set i (.val (xD x))) ⟨fun e => N (e.set i .no), R, L⟩ := h2
    refine ⟨outNo i o, by unfold sTry; rw [h1]; simp [h3, h4], ?_⟩
    cases o <;> exact h5
theorem wo_isO {tab : List (Addr × Bool)} {x : Xc} {b : Bool} {Q : D → Prop} (h : tab.lookup x.C = some b) (q : Q (.bool b)) : WO (gIsO tab (xD x)) Q := ⟨_, by
  unfold gIsO xD
  obtain ⟨C, fd⟩ := x
  have : (Int.toNat (C : Int)) = C := rfl
  simp only [this, h]
  rfl, q⟩
theorem wo_isON {tab : List (Addr × Bool)} {Q : D → Prop} (q : Q (.bool false)) : WO (gIsO tab .none) Q := ⟨_, rfl, q⟩
theorem wo_attr {C : Addr} {n : Str} {z : Int} {Q : D → Prop} (q : Q (.int z)) : WO (gAttr C n (xD ⟨C, some (n, z)⟩)) Q := ⟨_, by unfold gAttr xD; simp, q⟩
end
end M

namespace M
open PySem PySem.Spec PyProof.Rows L2
/-! ### min and max of a tuple of data that are alike -/
def rBestT (g : D → List D → D) (K : Frg) : List V → Hp → VK → Prop := fun vs H Q => ∃ (a : Addr) (xs : List V) (d : D) (ds : List D), vs = [V.ref a] ∧ SqT K H a xs ∧ DpAll K H xs (d :: ds) ∧ PySem.W.AllAlike (d :: ds) ∧ noNone (d :: ds) = true ∧ shallow (d :: ds) = true ∧
  ∀ p : V × D, p ∈ xs.zip (d :: ds) → p.2 = g d ds → Q p.1 H
section
variable {X : Cx}
theorem cr_minT (hc : X.calm = true) (hu : X.A.units + 65 < cLine) : CallR X (.builtin "min") (rBestT PySem.W.minD X.K) := by
  intro pins s σ H vs us Q I r h
  obtain ⟨a, xs, d, ds, rfl, hs, hd, hal, hnn, hsh, q⟩ := h
  obtain ⟨its, rv, hl, hz⟩ := I.tuple hs
  rw [Vals.ref1 r]
  obtain ⟨as, hr⟩ := Dp.readsAll I (d :: ds) xs its hd rv
  refine PySem.W.min_tuple_data (x := d) (xs := ds) (I.ok.hd hc) (show s.heap.IsTuple a its.toArray from hl) (by simpa using hr) ⟨fun x hx y hy => hal x hx y hy, noNone_ok hnn⟩ ?_ fun i v h' tk bs hi hrd hk => ?_
  · have := depthAll_le (ds := d :: ds) (n := 60) fun e he => of_decide_eq_true (List.all_eq_true.mp hsh e he)
    omega
  · exact best_post I rv hd hal (best_mem ds d) q (by simpa using hi) hrd hk
theorem cr_maxT (hc : X.calm = true) (hu : X.A.units + 65 < cLine) : CallR X (.builtin "max") (rBestT PySem.W.maxD X.K) := by
  intro pins s σ H vs us Q I r h
  obtain ⟨a, xs, d, ds, rfl, hs, hd, hal, hnn, hsh, q⟩ := h
  obtain ⟨its, rv, hl, hz⟩ := I.tuple hs
  rw [Vals.ref1 r]
  obtain ⟨as, hr⟩ := Dp.readsAll I (d :: ds) xs its hd rv
  refine PySem.W.max_tuple_data (x := d) (xs := ds) (I.ok.hd hc) (show s.heap.IsTuple a its.toArray from hl) (by simpa using hr) ⟨fun x hx y hy => hal x hx y hy, noNone_ok hnn⟩ ?_ fun i v h' tk bs hi hrd hk => ?_
  · have := depthAll_le (ds := d :: ds) (n := 60) fun e he => of_decide_eq_true (List.all_eq_true.mp hsh e he)
    omega
  · exact best_post I rv hd hal (best_mem' ds d) q (by simpa using hi) hrd hk
end
def gBestT (g : D → List D → D) : D → Option D
  | .tuple (d :: ds) => if alikeB (d :: ds) && noNone (d :: ds) && shallow (d :: ds) then some (g d ds) else none
  | _ => none
def gMinT : D → Option D := gBestT PySem.W.minD
def gMaxT : D → Option D := gBestT PySem.W.maxD
theorem gc_bestT {K : Frg} {g : D → List D → D} : GC K (rBestT g K) (gBestT g) := by
  intro G F env s H x d z k h1 h3 Q q
  unfold gBestT at h3
  split at h3
  · rename_i d0 ds
    split at h3
    · rename_i hf
      cases h3
      simp only [Bool.and_eq_true] at hf
      obtain ⟨p, vs, rfl, h4, _, h5⟩ := h1.tup k.fr
      refine ⟨p, vs, d0, ds, rfl, SqT.of h4, Da.dp _ _ (ndA_of fun d hd => nd_alike d (alikeB_ok hf.1.1 d hd d hd)) (Da.mono k.fr _ _ h5), alikeB_ok hf.1.1, hf.1.2, hf.2, fun p' hp e => ?_⟩
      have := Da.zip h5 p' hp
      rw [e] at this
      exact q F H _ k (Same.refl F) this
    · cases h3
  · cases h3
theorem xe_minT {X : Cx} {f : Ef} {e : Expr} {p pos : Pos} (hu : X.A.units + 65 < cLine) (hm : X.mg "min" = none) (ha : XO X e f) (hc : X.calm = true := by rfl) (hg : Gl X "min" := by rfl) (he : starEach [e] X.env = (false, eval e X.env) :: starEach [] X.env := by rfl) (hpl : (backTo pos (starEach [] X.env)).any (·.1) = false := by rfl) : XE X (.Call (.Name "min" p) [e] [] pos) (eUn gMinT f) :=
  xe_cbB (cr_minT hc hu) (by decide +kernel) gc_bestT hm ha hg (by decide) (by decide) he hpl
theorem xe_maxT {X : Cx} {f : Ef} {e : Expr} {p pos : Pos} (hu : X.A.units + 65 < cLine) (hm : X.mg "max" = none) (ha : XO X e f) (hc : X.calm = true := by rfl) (hg : Gl X "max" := by rfl) (he : starEach [e] X.env = (false, eval e X.env) :: starEach [] X.env := by rfl) (hpl : (backTo pos (starEach [] X.env)).any (·.1) = false := by rfl) : XE X (.Call (.Name "max" p) [e] [] pos) (eUn gMaxT f) :=
  xe_cbB (cr_maxT hc hu) (by decide +kernel) gc_bestT hm ha hg (by decide) (by decide) he hpl
theorem wo_minT2 {a b : Int} {Q : D → Prop} (q : Q (.int (min a b))) : WO (gMinT (.tuple [.int a, .int b])) Q := by
  refine ⟨_, ?_, q⟩
  unfold gMinT gBestT
  dsimp only
  rw [if_pos (by simp [alikeB, noNone, shallow, PySem.W.alike, PyData.depth])]
  exact congrArg some (PySem.W.minD_ints a [b])
theorem wo_maxT2 {a b : Int} {Q : D → Prop} (q : Q (.int (max a b))) : WO (gMaxT (.tuple [.int a, .int b])) Q := by
  refine ⟨_, ?_, q⟩
  unfold gMaxT gBestT
  dsimp only
  rw [if_pos (by simp [alikeB, noNone, shallow, PySem.W.alike, PyData.depth])]
  exact congrArg some (PySem.W.maxD_ints a [b])
end M

namespace M
open PySem PySem.Spec PyProof.Rows L2
/-! ### a list unpacked into names -/
def tTL (n : Nat) (r : List D → En → Option En) : Tf := fun d env => match d with
  | .list ds => if ds.length = n then r ds env else none
  | _ => none
theorem wt_unl {env : En} {n : Nat} {r : List D → En → Option En} {ds : List D} {Q : En → Prop} (hl : ds.length = n) (h : WTs r ds env Q) : WT (tTL n r) (.list ds) env Q := by
  obtain ⟨e, h, q⟩ := h
  exact ⟨e, by unfold tTL; simp [hl, h], q⟩
end M

namespace M
open PySem PySem.Spec PyProof.Rows L2
/-! ### dicts: keys as data -/
section
variable {P : Program} {w : World} {F H : Hp} {h : Heap}
mutual
theorem nis_of (ok : HOk P w H h) (e : Same F H) : ∀ (d : D) (v : V) (u : Value) (k : NestedKey), Dt F v d → nkOf d = some k → RelV v u → NestedIs h k u
  | .none, _, _, _, p, q, r => by cases p; cases r; unfold nkOf at q; cases q; exact .none
  | .bool b, _, _, _, p, q, r => by cases p; cases r; unfold nkOf at q; cases q; exact .bool rfl
  | .int i, _, _, _, p, q, r => by cases p; obtain ⟨t, rfl⟩ := r; unfold nkOf at q; cases q; exact .int i t
  | .str x, _, _, _, p, q, r => by cases p; obtain ⟨t, rfl⟩ := r; unfold nkOf at q; cases q; exact .text x t
  | .tuple ds, _, _, _, p, q, r => by
    cases p with
    | tup s a =>
      cases r
      unfold nkOf at q
      obtain ⟨ks, q1, rfl⟩ := Option.map_eq_some_iff.mp q
      obtain ⟨_, its, rv, ob, g1, g2, n, g3⟩ := ok _ _ (e _ _ s)
      exact .tup g1 g2 g3 (nis_all ok e ds _ its ks a q1 rv)
  | .list _, _, _, _, _, q, _ => by unfold nkOf at q; cases q
  | .dict _, _, _, _, _, q, _ => by unfold nkOf at q; cases q
theorem nis_all (ok : HOk P w H h) (e : Same F H) : ∀ (ds : List D) (vs : List V) (us : List Value) (ks : List NestedKey), Da F vs ds → nkAll ds = some ks → Vals vs us → NestedAll h ks us
  | [], _, _, _, p, q, r => by cases p; cases r; unfold nkAll at q; cases q; exact .nil
  | d :: ds, _, _, _, p, q, r => by
    cases p with
    | cons p1 p2 =>
      cases r with
      | cons r1 r2 =>
        unfold nkAll at q
        obtain ⟨k, q1, q⟩ := Option.bind_eq_some_iff.mp q
        obtain ⟨ks, q2, rfl⟩ := Option.map_eq_some_iff.mp q
        exact .cons (nis_of ok e d _ _ k p1 q1 r1) (nis_all ok e ds _ _ ks p2 q2 r2)
end
end
def isTK (d : D) : Bool := match nkOf d with
  | some (.tup ks) => decide ((NestedKey.tup ks).depth ≤ 8)
  | _ => false
def isLK : D → Bool
  | .str _ => true
  | .int _ => true
  | _ => false
def kmode (kvs : List (D × D)) (kd : D) : Bool := (isTK kd && kvs.all fun p => isTK p.1) || (isLK kd && kvs.all fun p => isLK p.1)
def dFind (kvs : List (D × D)) (kd : D) : Option D := (kvs.find? fun p => decide (nkOf p.1 = nkOf kd)).map (·.2)
def dPut (kvs : List (D × D)) (kd vd : D) : List (D × D) := if (dFind kvs kd).isSome then kvs.map fun p => if nkOf p.1 = nkOf kd then (p.1, vd) else p else kvs ++ [(kd, vd)]
theorem isTK_some {d : D} (h : isTK d = true) : ∃ ks, nkOf d = some (.tup ks) ∧ (NestedKey.tup ks).depth ≤ 8 := by
  unfold isTK at h
  split at h
  · rename_i ks e
    exact ⟨ks, e, of_decide_eq_true h⟩
  · cases h
theorem tk_ref {F : Hp} {v : V} {d : D} (p : Dt F v d) (h : isTK d = true) : ∃ b, v = .ref b := by
  obtain ⟨ks, e, _⟩ := isTK_some h
  cases p with
  | tup s a => exact ⟨_, rfl⟩
  | lst s a => exact ⟨_, rfl⟩
  | xc s => exact ⟨_, rfl⟩
  | xf s a => exact ⟨_, rfl⟩
  | dic s a b => exact ⟨_, rfl⟩
  | _ => unfold nkOf at e; cases e
/-- entries, data, the kit's entries -/
inductive T3 (F : Hp) (w : World) : List (Int × V × V) → List (D × D) → List (NestedKey × Addr × Value) → Prop
  | nil : T3 F w [] [] []
  | cons {e : Int × V × V} {p : D × D} {x : NestedKey × Addr × Value} {es ps xs} : nkOf p.1 = some x.1 → e.1 = x.1.hash w → e.2.1 = .ref x.2.1 → RelV e.2.2 x.2.2 → Dt F e.2.1 p.1 → Dt F e.2.2 p.2 → T3 F w es ps xs → T3 F w (e :: es) (p :: ps) (x :: xs)
section
variable {F : Hp} {w : World} {es : List (Int × V × V)} {kvs : List (D × D)} {xs : List (NestedKey × Addr × Value)}
theorem T3.len (t : T3 F w es kvs xs) : kvs.length = xs.length := by
  induction t with
  | nil => rfl
  | cons _ _ _ _ _ _ _ ih => simp [ih]
theorem T3.find (t : T3 F w es kvs xs) {kd : D} {nk : NestedKey} (hk : nkOf kd = some nk) : (∀ vd, dFind kvs kd = some vd → ∃ b u v, atKey xs nk = some (b, u) ∧ RelV v u ∧ Dt F v vd) ∧ (dFind kvs kd = none → atKey xs nk = none) := by
  unfold dFind atKey
  rw [hk]
  induction t with
  | nil => exact ⟨fun _ h => (by cases h), fun _ => rfl⟩
  | @cons e p x es ps xs h1 h2 h3 h4 h5 h6 _ ih =>
    rw [List.find?_cons, List.find?_cons]
    by_cases hx : x.1 = nk
    · have : decide (nkOf p.1 = some nk) = true := decide_eq_true (by rw [h1, hx])
      rw [this, decide_eq_true hx]
      exact ⟨fun vd h => by cases h; exact ⟨x.2.1, x.2.2, e.2.2, rfl, h4, h6⟩, fun h => (by cases h)⟩
    · have : decide (nkOf p.1 = some nk) = false := decide_eq_false (by rw [h1]; exact fun z => hx (Option.some.inj z))
      rw [this, decide_eq_false hx]
      exact ih
theorem T3.app (t : T3 F w es kvs xs) {e : Int × V × V} {p : D × D} {x : NestedKey × Addr × Value} (t1 : T3 F w [e] [p] [x]) : T3 F w (es ++ [e]) (kvs ++ [p]) (xs ++ [x]) := by
  induction t with
  | nil => exact t1
  | cons h1 h2 h3 h4 h5 h6 _ ih => exact .cons h1 h2 h3 h4 h5 h6 ih
theorem T3.put (t : T3 F w es kvs xs) {kd vd : D} {nk : NestedKey} {b : Addr} {u : Value} {v : V} (hk : nkOf kd = some nk) (py : Dt F (.ref b) kd) (pv : Dt F v vd) (r : RelV v u) : ∃ es', T3 F w es' (dPut kvs kd vd) (storedH xs nk b u) := by
  have hf := t.find hk
  unfold dPut storedH
  cases hd : dFind kvs kd with
  | some d0 =>
    obtain ⟨b0, u0, v0, h0, _⟩ := hf.1 d0 hd
    rw [h0]
    simp only [Option.isSome_some, if_true]
    clear hf hd h0
    rw [hk]
    induction t with
    | nil => exact ⟨[], .nil⟩
    | @cons e p x es ps xs h1 h2 h3 h4 h5 h6 _ ih =>
      obtain ⟨es', ih⟩ := ih
      rw [List.map_cons, List.map_cons]
      by_cases hx : x.1 = nk
      · rw [if_pos (by rw [h1, hx]), putAt, if_pos hx]
        exact ⟨(e.1, e.2.1, v) :: es', .cons h1 h2 h3 r h5 pv ih⟩
      · rw [if_neg (by rw [h1]; exact fun z => hx (Option.some.inj z)), putAt, if_neg hx]
        exact ⟨e :: es', .cons h1 h2 h3 h4 h5 h6 ih⟩
  | none =>
    rw [hf.2 hd]
    simp only [Option.isSome_none, Bool.false_eq_true, if_false]
    exact ⟨es ++ [(nk.hash w, .ref b, v)], t.app (.cons hk rfl rfl r py pv .nil)⟩
theorem T3.ents (t : T3 F w es kvs xs) : Paired (EntOk F w) es kvs := by
  induction t with
  | nil => exact .nil
  | cons h1 h2 h3 h4 h5 h6 _ ih => exact .cons ⟨⟨_, h1, h2⟩, h5, h6⟩ ih
theorem T3.keys (t : T3 F w es kvs xs) : (kvs.map fun p => nkOf p.1) = (xs.map (·.1)).map some := by
  induction t with
  | nil => rfl
  | cons h1 h2 h3 h4 h5 h6 _ ih => rw [List.map_cons, List.map_cons, List.map_cons, ih, h1]
theorem nodup_some {α : Type} {l : List α} (h : l.Nodup) : (l.map some).Nodup := by
  rw [List.nodup_iff_pairwise_ne, List.pairwise_map]
  exact (List.nodup_iff_pairwise_ne.mp h).imp fun hn e => hn (Option.some.inj e)
theorem nodup_of_some {α : Type} {l : List α} (h : (l.map some).Nodup) : l.Nodup := by
  rw [List.nodup_iff_pairwise_ne, List.pairwise_map] at h
  rw [List.nodup_iff_pairwise_ne]
  exact h.imp fun hn e => hn (by rw [e])
end
/-- what is known of a dict that is looked into -/
structure Look (H : Hp) (w : World) (a : Addr) (y : V) (F : Hp) (es : List (Int × V × V)) (kvs : List (D × D)) (kd : D) : Prop where
  sm : Same F H
  at' : H a = some (DicO a es)
  en : EntsOk F w es kvs
  key : Dt F y kd
  mode : kmode kvs kd = true
section
variable {P : Program} {w : World} {F H : Hp} {h : Heap} {a : Addr} {es : List (Int × V × V)} {kvs : List (D × D)}
theorem dicH (ok : HOk P w H h) (sm : Same F H) (e : H a = some (DicO a es)) (en : EntsOk F w es kvs) (hk : (kvs.all fun p => isTK p.1) = true) : ∃ xs : List (NestedKey × Addr × Value), h.DictOfH (nestedKind P w) a xs ∧ (a == sysModules) = false ∧ T3 F w es kvs xs := by
  obtain ⟨o, ds, ep, h1, h2, h3, h4, h5⟩ := (ok a _ e).1
  have hk' : ∀ p ∈ kvs, isTK p.1 = true := fun p hp => List.all_eq_true.mp hk p hp
  have key : ∀ {es : List (Int × V × V)} {kvs : List (D × D)} {L : List DictEntry}, Paired (EntOk F w) es kvs → Paired EntR es L → (∀ p ∈ kvs, isTK p.1 = true) → ∃ xs, L = xs.map (entryOfKey (nestedKind P w)) ∧ T3 F w es kvs xs ∧ ∀ x ∈ xs, (nestedKind P w).is h x.1 x.2.1 := by
    intro es kvs L hp
    induction hp generalizing L with
    | nil => intro hL _; cases hL; exact ⟨[], rfl, .nil, fun x hx => by cases hx⟩
    | @cons e p es ps r t ih =>
      intro hL hm
      cases hL with
      | @cons _ x _ L r2 t2 =>
        obtain ⟨xs, g1, g2, g3⟩ := ih t2 fun q hq => hm q (List.mem_cons_of_mem _ hq)
        obtain ⟨⟨nk, n1, n2⟩, p1, p2⟩ := r
        obtain ⟨r3, r4, r5⟩ := r2
        have hm0 := hm p List.mem_cons_self
        obtain ⟨b, hb⟩ := tk_ref p1 hm0
        obtain ⟨ks, q1, q2⟩ := isTK_some hm0
        rw [hb] at r4
        have r4 : x.key = .ref b := r4
        have hn : NestedIs h nk (.ref b) := nis_of ok sm p.1 e.2.1 _ nk p1 n1 (by rw [hb]; rfl)
        refine ⟨(nk, b, x.val) :: xs, ?_, .cons n1 n2 hb r5 p1 p2 g2, fun y hy => ?_⟩
        · rw [List.map_cons, ← g1]
          have : x = entryOfKey (nestedKind P w) (nk, b, x.val) := by
            show x = ⟨nk.hash w, .ref b, x.val⟩
            rw [← n2, ← r3, ← r4]
          rw [← this]
        · rcases List.mem_cons.mp hy with rfl | hy
          · refine ⟨hn, ?_⟩
            rw [q1] at n1
            cases n1
            exact q2
          · exact g3 y hy
  obtain ⟨xs, g1, g2, g3⟩ := key en.all h5 hk'
  exact ⟨xs, ⟨o, ds, ep, h1, h2, h3, g1, g3, nodup_of_some (by rw [← g2.keys]; exact en.nd)⟩, h4, g2⟩
theorem dicH_new {P : Program} {xs : List (NestedKey × Addr × Value)} (m : h.DictOfH (nestedKind P w) a xs) (t : T3 F w es kvs xs) (hs : (a == sysModules) = false) (hl : kvs.length ≤ sizeLine) (H' : Hp) : ObjOk P w H' h a (DicO a es) ∧ EntsOk F w es kvs := by
  obtain ⟨o, ds, ep, h1, h2, h3, h4, h5, h6⟩ := m
  have hp : Paired EntR es ds.toList := by
    rw [h4]
    clear h4 h5 h6
    induction t with
    | nil => exact .nil
    | cons g1 g2 g3 g4 g5 g6 _ ih => exact .cons ⟨g2.symm, by rw [g3]; rfl, g4⟩ (ih (by simp at hl; omega))
  exact ⟨⟨⟨o, ds, ep, h1, h2, h3, hs, hp⟩, ⟨o, h1⟩, fun h1 h2 ⟨o, ds, ep, g1, g2, g3, g4, g5⟩ k => ⟨o, ds, ep, k o g1, g2, g3, g4, g5⟩⟩, ⟨t.ents, by rw [t.keys]; exact nodup_some h6, hl⟩⟩
end
/-! keys that are texts or numbers -/
def kOf : D → Option Key
  | .int i => some (.inl i)
  | .str x => some (.inr x)
  | _ => none
theorem kOf_of {d : D} (h : isLK d = true) : ∃ k, kOf d = some k := by
  cases d <;> first | exact ⟨_, rfl⟩ | (cases h)
theorem kOf_nk {d : D} {k : Key} (h : kOf d = some k) : ∃ nk, nkOf d = some nk ∧ (∀ w : World, nk.hash w = keyH w k) ∧ ∀ (e : D) (j : Key), kOf e = some j → (nkOf e = some nk ↔ j = k) := by
  cases d <;> cases h
  · rename_i i
    refine ⟨.num i, by unfold nkOf; rfl, fun w => by unfold NestedKey.hash keyH; rfl, fun e j h => ?_⟩
    cases e <;> cases h
    · unfold nkOf
      exact ⟨fun h => by cases h; rfl, fun h => by cases h; rfl⟩
    · unfold nkOf
      exact ⟨fun h => (by cases h), fun h => (by cases h)⟩
  · rename_i x
    refine ⟨.text x, by unfold nkOf; rfl, fun w => by unfold NestedKey.hash keyH; rfl, fun e j h => ?_⟩
    cases e <;> cases h
    · unfold nkOf
      exact ⟨fun h => (by cases h), fun h => (by cases h)⟩
    · unfold nkOf
      exact ⟨fun h => by cases h; rfl, fun h => by cases h; rfl⟩
theorem kOf_v {F : Hp} {v : V} {d : D} {k : Key} (p : Dt F v d) (h : kOf d = some k) : v = kV k := by
  cases d <;> cases h <;> cases p <;> rfl
theorem keyIs_of {k : Key} {u : Value} (r : RelV (kV k) u) : keyIs k u = true := by
  cases k with
  | inl i => obtain ⟨t, rfl⟩ := r; exact keyIs_int i t
  | inr x => obtain ⟨t, rfl⟩ := r; exact keyIs_str x t
theorem keyIs_to {k : Key} {u : Value} (h : keyIs k u = true) : RelV (kV k) u := by
  rcases keyIs_shape h with ⟨i, t, rfl, rfl⟩ | ⟨x, t, rfl, rfl⟩
  · exact ⟨t, rfl⟩
  · exact ⟨t, rfl⟩
inductive L3 (F : Hp) (w : World) : List (Int × V × V) → List (D × D) → List (Key × Value) → Prop
  | nil : L3 F w [] [] []
  | cons {e : Int × V × V} {p : D × D} {x : Key × Value} {es ps xs} : kOf p.1 = some x.1 → e.1 = keyH w x.1 → e.2.1 = kV x.1 → RelV e.2.2 x.2 → Dt F e.2.1 p.1 → Dt F e.2.2 p.2 → L3 F w es ps xs → L3 F w (e :: es) (p :: ps) (x :: xs)
section
variable {F : Hp} {w : World} {es : List (Int × V × V)} {kvs : List (D × D)} {xs : List (Key × Value)}
theorem L3.find (t : L3 F w es kvs xs) {kd : D} {k : Key} (hk : kOf kd = some k) : (∀ vd, dFind kvs kd = some vd → ∃ u v, valueAt xs k = some u ∧ RelV v u ∧ Dt F v vd) ∧ (dFind kvs kd = none → valueAt xs k = none) := by
  obtain ⟨nk, n1, _, n3⟩ := kOf_nk hk
  unfold dFind valueAt
  rw [n1]
  induction t with
  | nil => exact ⟨fun _ h => (by cases h), fun _ => rfl⟩
  | @cons e p x es ps xs h1 h2 h3 h4 h5 h6 _ ih =>
    rw [List.find?_cons, List.find?_cons]
    by_cases hx : x.1 = k
    · have : decide (nkOf p.1 = some nk) = true := decide_eq_true ((n3 p.1 x.1 h1).mpr hx)
      rw [this, decide_eq_true hx]
      exact ⟨fun vd h => by cases h; exact ⟨x.2, e.2.2, rfl, h4, h6⟩, fun h => (by cases h)⟩
    · have : decide (nkOf p.1 = some nk) = false := decide_eq_false fun z => hx ((n3 p.1 x.1 h1).mp z)
      rw [this, decide_eq_false hx]
      exact ih
theorem L3.app (t : L3 F w es kvs xs) {e : Int × V × V} {p : D × D} {x : Key × Value} (t1 : L3 F w [e] [p] [x]) : L3 F w (es ++ [e]) (kvs ++ [p]) (xs ++ [x]) := by
  induction t with
  | nil => exact t1
  | cons h1 h2 h3 h4 h5 h6 _ ih => exact .cons h1 h2 h3 h4 h5 h6 ih
theorem L3.put (t : L3 F w es kvs xs) {kd vd : D} {k : Key} {y : V} {u : Value} {v : V} (hk : kOf kd = some k) (py : Dt F y kd) (pv : Dt F v vd) (r : RelV v u) : ∃ es', L3 F w es' (dPut kvs kd vd) (stored xs k u) := by
  have hf := t.find hk
  obtain ⟨nk, n1, n2, n3⟩ := kOf_nk hk
  have hany : (xs.any fun kv => decide (kv.1 = k)) = (dFind kvs kd).isSome := by
    have e : (xs.any fun kv => decide (kv.1 = k)) = (valueAt xs k).isSome := by
      rw [Bool.eq_iff_iff, List.any_eq_true, valueAt_isSome, List.mem_map]
      exact ⟨fun ⟨x, h1, h2⟩ => ⟨x, h1, of_decide_eq_true h2⟩, fun ⟨x, h1, h2⟩ => ⟨x, h1, decide_eq_true h2⟩⟩
    rw [e]
    cases hd : dFind kvs kd with
    | some d0 => obtain ⟨u0, v0, h0, _⟩ := hf.1 d0 hd; rw [h0]; rfl
    | none => rw [hf.2 hd]; rfl
  unfold dPut stored
  rw [hany]
  cases hd : dFind kvs kd with
  | some d0 =>
    simp only [Option.isSome_some, if_true]
    clear hf hd hany
    rw [n1]
    induction t with
    | nil => exact ⟨[], .nil⟩
    | @cons e p x es ps xs h1 h2 h3 h4 h5 h6 _ ih =>
      obtain ⟨es', ih⟩ := ih
      rw [List.map_cons, List.map_cons]
      by_cases hx : x.1 = k
      · rw [if_pos ((n3 p.1 x.1 h1).mpr hx), if_pos hx]
        exact ⟨(e.1, e.2.1, v) :: es', .cons h1 h2 h3 r h5 pv ih⟩
      · rw [if_neg fun z => hx ((n3 p.1 x.1 h1).mp z), if_neg hx]
        exact ⟨e :: es', .cons h1 h2 h3 h4 h5 h6 ih⟩
  | none =>
    simp only [Option.isSome_none, Bool.false_eq_true, if_false]
    exact ⟨es ++ [(keyH w k, y, v)], t.app (.cons hk rfl (kOf_v py hk) r py pv .nil)⟩
theorem L3.ents (t : L3 F w es kvs xs) : Paired (EntOk F w) es kvs := by
  induction t with
  | nil => exact .nil
  | cons h1 h2 h3 h4 h5 h6 _ ih =>
    obtain ⟨nk, n1, n2, _⟩ := kOf_nk h1
    exact .cons ⟨⟨nk, n1, by rw [h2, n2]⟩, h5, h6⟩ ih
theorem L3.nd (t : L3 F w es kvs xs) : (xs.map (·.1)).Nodup ↔ (kvs.map fun p => nkOf p.1).Nodup := by
  have mem : ∀ {es : List (Int × V × V)} {kvs : List (D × D)} {xs : List (Key × Value)}, L3 F w es kvs xs → ∀ {p : D} {k : Key}, kOf p = some k → (k ∈ xs.map (·.1) ↔ nkOf p ∈ kvs.map fun p => nkOf p.1) := by
    intro es kvs xs t p k hk
    obtain ⟨nk, n1, _, n3⟩ := kOf_nk hk
    induction t with
    | nil => simp
    | @cons e q x es ps xs h1 h2 h3 h4 h5 h6 _ ih =>
      rw [List.map_cons, List.map_cons, List.mem_cons, List.mem_cons, ih, n1]
      have := n3 q.1 x.1 h1
      constructor
      · rintro (h | h)
        · exact .inl (this.mpr h.symm).symm
        · exact .inr h
      · rintro (h | h)
        · exact .inl (this.mp h.symm).symm
        · exact .inr h
  induction t with
  | nil => simp
  | cons h1 h2 h3 h4 h5 h6 t ih =>
    rw [List.map_cons, List.map_cons, List.nodup_cons, List.nodup_cons]
    exact and_congr (not_congr (mem t h1)) ih
end
section
variable {P : Program} {w : World} {F H : Hp} {h : Heap} {a : Addr} {es : List (Int × V × V)} {kvs : List (D × D)}
theorem dicL (ok : HOk P w H h) (e : H a = some (DicO a es)) (en : EntsOk F w es kvs) (hk : (kvs.all fun p => isLK p.1) = true) : ∃ xs : List (Key × Value), h.DictOf (mixKind P w) a xs ∧ (a == sysModules) = false ∧ L3 F w es kvs xs := by
  obtain ⟨o, ds, ep, h1, h2, h3, h4, h5⟩ := (ok a _ e).1
  have hk' : ∀ p ∈ kvs, isLK p.1 = true := fun p hp => List.all_eq_true.mp hk p hp
  have key : ∀ {es : List (Int × V × V)} {kvs : List (D × D)} {L : List DictEntry}, Paired (EntOk F w) es kvs → Paired EntR es L → (∀ p ∈ kvs, isLK p.1 = true) → ∃ xs, Pairs (mixKind P w) L xs ∧ L3 F w es kvs xs ∧ ∀ e ∈ L, ∃ k, (mixKind P w).is k e.key = true ∧ e.hash = (mixKind P w).hash k := by
    intro es kvs L hp
    induction hp generalizing L with
    | nil => intro hL _; cases hL; exact ⟨[], .nil, .nil, fun x hx => by cases hx⟩
    | @cons e p es ps r t ih =>
      intro hL hm
      cases hL with
      | @cons _ x _ L r2 t2 =>
        obtain ⟨xs, g1, g2, g3⟩ := ih t2 fun q hq => hm q (List.mem_cons_of_mem _ hq)
        obtain ⟨⟨nk, n1, n2⟩, p1, p2⟩ := r
        obtain ⟨r3, r4, r5⟩ := r2
        obtain ⟨k, hk⟩ := kOf_of (hm p List.mem_cons_self)
        obtain ⟨nk', m1, m2, _⟩ := kOf_nk hk
        rw [n1] at m1
        cases m1
        have hv := kOf_v p1 hk
        have hi : keyIs k x.key = true := keyIs_of (by rw [← hv]; exact r4)
        refine ⟨(k, x.val) :: xs, .cons hi rfl g1, .cons hk (by rw [n2, m2]) hv r5 p1 p2 g2, fun y hy => ?_⟩
        rcases List.mem_cons.mp hy with rfl | hy
        · exact ⟨k, hi, by rw [r3, n2, m2]; rfl⟩
        · exact g3 y hy
  obtain ⟨xs, g1, g2, g3⟩ := key en.all h5 hk'
  exact ⟨xs, ⟨o, ds, ep, h1, h2, h3, fun e he => g3 e (by simpa using he), g1, g2.nd.mpr en.nd⟩, h4, g2⟩
theorem dicL_new {xs : List (Key × Value)} (m : h.DictOf (mixKind P w) a xs) (t : L3 F w es kvs xs) (hs : (a == sysModules) = false) (hl : kvs.length ≤ sizeLine) (H' : Hp) : ObjOk P w H' h a (DicO a es) ∧ EntsOk F w es kvs := by
  obtain ⟨o, ds, ep, h1, h2, h3, h4, h5, h6⟩ := m
  have hp : Paired EntR es ds.toList := by
    have h4 : ∀ e ∈ ds.toList, ∃ k, (mixKind P w).is k e.key = true ∧ e.hash = (mixKind P w).hash k := fun e he => h4 e (by simpa using he)
    clear h6 hl h3
    generalize ds.toList = L at *
    induction t generalizing L with
    | nil => cases h5; exact .nil
    | cons g1 g2 g3 g4 g5 g6 _ ih =>
      cases h5 with
      | @cons e kv L xs q1 q2 q3 =>
        obtain ⟨k, j1, j2⟩ := h4 e List.mem_cons_self
        have ek := (mixKind P w).inj _ _ _ j1 q1
        subst ek
        exact .cons ⟨by rw [j2, g2]; rfl, by rw [g3]; exact keyIs_to q1, by rw [q2]; exact g4⟩ (ih _ q3 fun e he => h4 e (List.mem_cons_of_mem _ he))
  exact ⟨⟨⟨o, ds, ep, h1, h2, h3, hs, hp⟩, ⟨o, h1⟩, fun h1 h2 ⟨o, ds, ep, g1, g2, g3, g4, g5⟩ k => ⟨o, ds, ep, k o g1, g2, g3, g4, g5⟩⟩, ⟨t.ents, t.nd.mp h6, hl⟩⟩
end
/-! ### the operations -/
section
variable {X : Cx} {pins : List (Addr × Obj)} {σ : L2.St} {F H : Hp} {s : Shared} {a : Addr} {es : List (Int × V × V)} {kvs : List (D × D)} {kd dd : D} {y z : V} {u r : Value} {A : Around} {E : Value → Shared → Prop}
theorem dic_is (I : Inv X pins σ H s) (e : H a = some (DicO a es)) : s.TypeIs (.ref a) "dict" ∧ (∀ b, Value.ref a = .ref b → ∃ ob, s.heap.get? b = some ob ∧ ob.dict = none) := by
  obtain ⟨o, ds, ep, h1, h2, h3, _⟩ := (I.hok a _ e).1
  exact ⟨⟨o, h1, h2.1⟩, fun b q => by cases q; exact ⟨o, h1, h2.2.1⟩⟩
theorem Look.ref (L : Look H X.w a y F es kvs kd) (h : isTK kd = true) : ∃ b nk, y = .ref b ∧ nkOf kd = some nk ∧ nk.depth ≤ 8 := by
  obtain ⟨b, hb⟩ := tk_ref L.key h
  obtain ⟨ks, q1, q2⟩ := isTK_some h
  exact ⟨b, _, hb, q1, q2⟩
theorem Look.two (L : Look H X.w a y F es kvs kd) : (isTK kd = true ∧ (kvs.all fun p => isTK p.1) = true) ∨ (isLK kd = true ∧ (kvs.all fun p => isLK p.1) = true) := by
  have := L.mode
  unfold kmode at this
  rcases Bool.or_eq_true_iff.mp this with h | h
  · exact .inl (Bool.and_eq_true_iff.mp h)
  · exact .inr (Bool.and_eq_true_iff.mp h)
theorem dx_get2 {Q : Value → Shared → Prop} (hu : A.units + 65 < cLine) (I : Inv X pins σ H s) (L : Look H X.w a y F es kvs kd) (ry : RelV y u) (rz : RelV z r) (dz : Dt F z dd) (h : ∀ v w' s', Inv X pins σ H s' → RelV v w' → Dt F v ((dFind kvs kd).getD dd) → Q w' s') :
    wpAny (model X.prog X.w) A (call (.builtin "dict.get") [.ref a, u, r]) Q E s := by
  rcases L.two with ⟨m1, m2⟩ | ⟨m1, m2⟩
  · obtain ⟨b, nk, rfl, q1, q2⟩ := L.ref m1
    cases ry
    obtain ⟨xs, d1, d2, t⟩ := dicH (P := X.prog) I.hok L.sm L.at' L.en m2
    have hn := nis_of I.hok L.sm kd _ _ nk L.key q1 (show RelV (.ref b) (.ref b) from rfl)
    have hf := t.find q1
    refine call_meetsIn PySem.F.slot_dict_get d1.typeIs PySem.F.entry_dict_get (PySem.F.args_dict_get_3 _ _ _) (meetsH_dict_get_default (nestedKind X.prog X.w) a b d2 r) ⟨by show A.in1.units + 8 < cLine; show A.units + 1 + 8 < cLine; omega, nk, xs, ⟨hn, q2⟩, d1, ?_⟩
    cases hd : dFind kvs kd with
    | some vd =>
      obtain ⟨b', u', v', g1, g2, g3⟩ := hf.1 vd hd
      rw [g1]
      exact h v' u' _ (I.tok _) g2 (by rw [hd]; exact g3)
    | none =>
      rw [hf.2 hd]
      exact h z r _ (I.tok _) rz (by rw [hd]; exact dz)
  · obtain ⟨k, hk⟩ := kOf_of m1
    obtain ⟨xs, d1, d2, t⟩ := dicL (P := X.prog) I.hok L.at' L.en m2
    have hf := t.find hk
    have hi : (mixKind X.prog X.w).is k u = true := keyIs_of (by rw [← kOf_v L.key hk]; exact ry)
    refine call_meetsIn PySem.F.slot_dict_get d1.typeIs PySem.F.entry_dict_get (PySem.F.args_dict_get_3 _ _ _) (meets_dict_get_default (mixKind X.prog X.w) a hi d2 r) ⟨_, d1.mapOf, ?_⟩
    cases hd : dFind kvs kd with
    | some vd =>
      obtain ⟨u', v', g1, g2, g3⟩ := hf.1 vd hd
      rw [g1]
      exact h v' u' _ (I.tok _) g2 (by rw [hd]; exact g3)
    | none =>
      rw [hf.2 hd]
      exact h z r _ (I.tok _) rz (by rw [hd]; exact dz)
theorem dx_idx {Q : Value → Shared → Prop} (hu : A.units + 65 < cLine) (I : Inv X pins σ H s) (L : Look H X.w a y F es kvs kd) (ry : RelV y u) (hd : dFind kvs kd = some dd) (h : ∀ v w' s', Inv X pins σ H s' → RelV v w' → Dt F v dd → Q w' s') :
    wpAny (model X.prog X.w) A (getItem (.ref a) u) Q E s := by
  rcases L.two with ⟨m1, m2⟩ | ⟨m1, m2⟩
  · obtain ⟨b, nk, rfl, q1, q2⟩ := L.ref m1
    cases ry
    obtain ⟨xs, d1, d2, t⟩ := dicH (P := X.prog) I.hok L.sm L.at' L.en m2
    have hn := nis_of I.hok L.sm kd _ _ nk L.key q1 (show RelV (.ref b) (.ref b) from rfl)
    obtain ⟨b', u', v', g1, g2, g3⟩ := (t.find q1).1 dd hd
    exact wpAny_getItem_heap (knd := nestedKind X.prog X.w) (by show A.in1.units + 8 < cLine; show A.units + 1 + 8 < cLine; omega) ⟨hn, q2⟩ d1 g1 (h v' u' _ (I.tok _) g2 g3)
  · obtain ⟨k, hk⟩ := kOf_of m1
    obtain ⟨xs, d1, d2, t⟩ := dicL (P := X.prog) I.hok L.at' L.en m2
    obtain ⟨u', v', g1, g2, g3⟩ := (t.find hk).1 dd hd
    have hi : (mixKind X.prog X.w).is k u = true := keyIs_of (by rw [← kOf_v L.key hk]; exact ry)
    exact wpAny_getItem_of hi d1.mapOf g1 (h v' u' _ (I.tok _) g2 g3)
theorem dput_len (kvs : List (D × D)) (kd vd : D) : (dPut kvs kd vd).length ≤ kvs.length + 1 := by
  unfold dPut
  split
  · rw [List.length_map]; omega
  · rw [List.length_append]; exact Nat.le_refl _
theorem dx_set {Q : Unit → Shared → Prop} {vd : D} {v : V} (hu : A.units + 65 < cLine) (I : Inv X pins σ H s) (L : Look H X.w a y F es kvs kd) (ry : RelV y u) (rv : RelV v r) (dv : Dt F v vd) (hl : kvs.length < sizeLine)
    (h : ∀ es' s', Inv X pins σ (upd H a (DicO a es')) s' → EntsOk F X.w es' (dPut kvs kd vd) → Q () s') : wpAny (model X.prog X.w) A (setItem (.ref a) u r) Q E s := by
  have hl' : (dPut kvs kd vd).length ≤ sizeLine := Nat.le_trans (dput_len _ _ _) hl
  rcases L.two with ⟨m1, m2⟩ | ⟨m1, m2⟩
  · obtain ⟨b, nk, rfl, q1, q2⟩ := L.ref m1
    cases ry
    obtain ⟨xs, d1, d2, t⟩ := dicH (P := X.prog) I.hok L.sm L.at' L.en m2
    have hn := nis_of I.hok L.sm kd _ _ nk L.key q1 (show RelV (.ref b) (.ref b) from rfl)
    obtain ⟨es', t'⟩ := t.put (b := b) (u := r) q1 L.key dv rv
    refine wpAny_setItem_heap (knd := nestedKind X.prog X.w) (hsz := by rw [← t.len]; exact Nat.le_of_lt hl) (by show A.in1.units + 8 < cLine; show A.units + 1 + 8 < cLine; omega) ⟨hn, q2⟩ d1 fun h' m' hs => ?_
    obtain ⟨n1, n2⟩ := dicH_new m' t' d2 hl' (upd H a (DicO a es'))
    have he : ∃ q, h'.get? a = some q := let ⟨q, _, _, hq, _⟩ := m'; ⟨q, hq⟩
    exact h es' _ (d_write I (by rw [L.at']; exact True.intro) hs he n1) n2
  · obtain ⟨k, hk⟩ := kOf_of m1
    obtain ⟨xs, d1, d2, t⟩ := dicL (P := X.prog) I.hok L.at' L.en m2
    have hi : (mixKind X.prog X.w).is k u = true := keyIs_of (by rw [← kOf_v L.key hk]; exact ry)
    obtain ⟨es', t'⟩ := t.put (u := r) hk L.key dv rv
    have hlen : kvs.length = xs.length := by
      have : ∀ {es : List (Int × V × V)} {kvs : List (D × D)} {xs : List (Key × Value)}, L3 F X.w es kvs xs → kvs.length = xs.length := fun t => by
        induction t with
        | nil => rfl
        | cons _ _ _ _ _ _ _ ih => simp [ih]
      exact this t
    refine wpAny_setItem_pairs (hsz := by rw [← hlen]; exact Nat.le_of_lt hl) hi d1 fun h' m' hs => ?_
    obtain ⟨n1, n2⟩ := dicL_new m' t' d2 hl' (upd H a (DicO a es'))
    have he : ∃ q, h'.get? a = some q := let ⟨q, _, _, hq, _⟩ := m'; ⟨q, hq⟩
    exact h es' _ (d_write I (by rw [L.at']; exact True.intro) hs he n1) n2
theorem dic_empty {P : Program} {w : World} {H : Hp} (h : Heap) (hb : sysModules < h.objs.size) : ObjOk P w H (h.push { cls := .type "dict", data := .dict #[] }) h.objs.size (DicO h.objs.size []) :=
  ⟨⟨_, #[], 0, Heap.get?_push_size _ rfl, ⟨rfl, rfl, rfl⟩, rfl, beq_eq_false_iff_ne.mpr (Ne.symm (Nat.ne_of_lt hb)), .nil⟩, ⟨_, Heap.get?_push_size _ rfl⟩, fun h1 h2 ⟨o, ds, ep, g1, g2, g3, g4, g5⟩ k => ⟨o, ds, ep, k o g1, g2, g3, g4, g5⟩⟩
end
/-! ### readings -/
def tXNew : TE := fun _ H Q => ∀ p, H p = none → Q (.ref p) (upd H p (DicO p []))
def tXGet2 (w : World) (td ty tx : TE) : TE := fun σ H Q => td σ H fun x H1 => ∃ a, x = .ref a ∧ (∃ es, H1 a = some (DicO a es)) ∧ ty σ H1 fun y H2 => tx σ H2 fun z H3 =>
  ∃ F es kvs kd dd, Look H3 w a y F es kvs kd ∧ Dt F z dd ∧ ∀ v, Dt F v ((dFind kvs kd).getD dd) → Q v H3
def tXIdx (w : World) (td ty : TE) : TE := fun σ H Q => td σ H fun x H1 => ty σ H1 fun y H2 => ∃ a F es kvs kd dd, x = .ref a ∧ Look H2 w a y F es kvs kd ∧ dFind kvs kd = some dd ∧ ∀ v, Dt F v dd → Q v H2
def sXSet (w : World) : TSet := fun x y v H Q => ∃ a F es kvs kd vd, x = .ref a ∧ Look H w a y F es kvs kd ∧ Dt F v vd ∧ kvs.length < sizeLine ∧ ∀ es', EntsOk F w es' (dPut kvs kd vd) → Q (upd H a (DicO a es'))
section
variable {X : Cx} {o i e f : Expr} {pos apos cpos : Pos} {td ty tx : TE}
theorem pe_xnew : PE X (.Dict [] [] pos) tXNew := ⟨fun pins s σ H Q I h =>
  wpAny_Dict_empty ⟨.ref s.heap.objs.size, _, I.laid (a := s.heap.objs.size) (o := DicO s.heap.objs.size []) (t' := s.toks) (fun _ _ q => Heap.get?_push_of_some _ q) (Nat.le_refl _) (dic_empty s.heap I.big), rfl, h _ (I.hok.fresh (Nat.le_refl _))⟩⟩
theorem pe_xget2 (hu : X.A.units + 65 < cLine) (ho : PE X o td) (he : PE X e ty) (hf : PE X f tx) (m : M2 X o "get" apos e f cpos) : PE X (.Call (.Attribute o "get" apos) [e, f] [] cpos) (tXGet2 X.w td ty tx) := by
  refine ⟨fun pins s σ H Q I h => ?_⟩
  refine wpAny_Call_method m.base m.few m.line PySem.F.plainAttrs_dict PySem.F.slot_dict_get PySem.F.type_dict_get (thn (ho.run pins s σ H _ I h) fun u s1 ⟨x, H1, I1, rx, a, ex, ⟨es0, d⟩, q1⟩ => ?_)
  subst ex
  obtain rfl : u = Value.ref a := rx
  obtain ⟨t1, t2⟩ := dic_is I1 d
  refine ⟨t1, t2, ?_⟩
  rw [m.trees]
  refine Calls.callWith_builtin rfl (Calls.evalArgs_plain (Calls.spliced_cons (thn (he.run pins s1 σ H1 _ I1 q1) fun iv s2 ⟨y, H2, I2, ry, q2⟩ =>
    Calls.spliced_cons (thn (hf.run pins s2 σ H2 _ I2 q2) fun fv s3 ⟨z, H3, I3, rz, F, es, kvs, kd, dd, L, dz, q3⟩ => Calls.spliced_nil ?_))))
  exact dx_get2 hu I3 L ry rz dz fun v w' s4 I4 rw' pv => ⟨v, H3, I4, rw', q3 v pv⟩
theorem pe_xidx (hu : X.A.units + 65 < cLine) (ho : PE X o td) (hi : PE X i ty) (hs : NoSl i) : PE X (.Subscript o i pos) (tXIdx X.w td ty) := by
  refine ⟨fun pins s σ H Q I h => ?_⟩
  refine subD_of PySem.F.slot_dict_getitem.lookup hs (thn (ho.run pins s σ H _ I h) fun u s1 ⟨x, H1, I1, rx, q1⟩ => thn (hi.run pins s1 σ H1 _ I1 q1) fun iv s2 ⟨y, H2, I2, ry, a, F, es, kvs, kd, dd, ex, L, hd, q2⟩ => ?_)
  subst ex
  obtain rfl : u = Value.ref a := rx
  exact ⟨(dic_is I2 L.at').1, dx_idx hu I2 L ry hd fun v w' s3 I3 rw' pv => ⟨v, H2, I3, rw', q2 v pv⟩⟩
theorem set_xdict (hu : X.A.units + 65 < cLine) : PSet X (sXSet X.w) := by
  intro pins s σ H o i v ov iv u Q I ro ri rv h
  obtain ⟨a, F, es, kvs, kd, vd, ex, L, dv, hl, q⟩ := h
  subst ex
  cases ro
  exact dx_set hu I L ri rv dv hl fun es' s' I' en => ⟨_, I', q es' en⟩
end
/-! ### slots that hold dicts -/
theorem isDct_some {env : En} {i : Nat} (h : isDct env i = true) : ∃ w kvs, env[i]? = some (.dct w kvs) := by
  unfold isDct at h
  split at h
  · rename_i w kvs e; exact ⟨w, kvs, e⟩
  · cases h
theorem ok_dput {K : Frg} {G : Gm} {F : Hp} {env : En} {s : L2.St} {H : Hp} {i : Nat} {w : World} {kvs kvs' : List (D × D)} {a : Addr} {es : List (Int × V × V)} (k : Ok K G F env s H) (h : env[i]? = some (.dct w kvs)) (ha : s[i]? = some (some (.ref a))) (q : EntsOk F w es kvs') :
    Ok K G F (env.set i (.dct w kvs')) s (upd H a (DicO a es)) := by
  obtain ⟨b, es0, h1, h2, h3, h4, h5, h6⟩ := k.dct.at' i w kvs h
  rw [ha] at h1
  cases h1
  have hi : i < env.length := (List.getElem?_eq_some_iff.mp h).1
  have nf : ∀ c o, F c = some o → c ≠ a := fun c o e z => by subst z; rw [h3] at e; cases e
  refine ⟨by simp [k.len], fun c o e => by rw [upd_ne (nf c o e)]; exact k.fr c o e, fun j d e => ?_, fun j m fs e => ?_, fun j fs e => ?_, fun j j' m fs n gs e1 e2 e3 => ?_, fun c o e => ?_, fun c e => ?_, k.grow, k.new, k.rin, ⟨fun j w' kvs2 e => ?_, fun j j' w1 k1 w2 k2 e1 e2 e3 => ?_⟩⟩
  · rcases set_get e with ⟨_, _, z⟩ | ⟨hj, z⟩
    · cases z
    · exact k.val j d z
  · rcases set_get e with ⟨_, _, z⟩ | ⟨hj, z⟩
    · cases z
    · obtain ⟨c, ws, g1, g2, g3⟩ := k.own j m fs z
      have ne : c ≠ a := fun w => by subst w; rw [h2] at g2; cases g2
      exact ⟨c, ws, g1, by rw [upd_ne ne]; exact g2, g3⟩
  · rcases set_get e with ⟨_, _, z⟩ | ⟨hj, z⟩
    · cases z
    · exact k.ro j fs z
  · rcases set_get e1 with ⟨_, _, z⟩ | ⟨_, z⟩
    · cases z
    · rcases set_get e2 with ⟨_, _, z2⟩ | ⟨_, z2⟩
      · cases z2
      · exact k.sep j j' _ _ _ _ z z2 e3
  · have ne : c ≠ a := fun z => by subst z; rw [h4] at e; cases e
    rw [upd_ne ne]; exact k.pin c o e
  · by_cases hc : c = a
    · subst hc; rw [upd_same] at e; cases e
    · rw [upd_ne hc] at e; exact k.dom c e
  · rcases set_get e with ⟨rfl, _, z⟩ | ⟨hj, z⟩
    · cases z
      exact ⟨a, es, ha, upd_same, h3, h4, h5, q⟩
    · obtain ⟨c, es2, g1, g2, g3⟩ := k.dct.at' j w' kvs2 z
      have ne : c ≠ a := fun w => by subst w; exact hj (k.dct.sep i j _ _ _ _ h z (ha.trans g1.symm))
      exact ⟨c, es2, g1, by rw [upd_ne ne]; exact g2, g3⟩
  · have bk : ∀ (j : Nat) w' ks, (env.set i (.dct w kvs'))[j]? = some (.dct w' ks) → ∃ w2 ks2, env[j]? = some (.dct w2 ks2) := fun j w' ks e => by
      rcases set_get e with ⟨rfl, _, z⟩ | ⟨_, z⟩
      · exact ⟨_, _, h⟩
      · exact ⟨_, _, z⟩
    obtain ⟨_, _, g1⟩ := bk j w1 k1 e1
    obtain ⟨_, _, g2⟩ := bk j' w2 k2 e2
    exact k.dct.sep j j' _ _ _ _ g1 g2 e3
theorem ok_dnew {K : Frg} {G : Gm} {F : Hp} {env : En} {s : L2.St} {H : Hp} {i : Nat} {w : World} {kvs : List (D × D)} {p : Addr} {es : List (Int × V × V)} (k : Ok K G F env s H) (h1 : H p = some (DicO p es)) (h2 : F p = none) (h3 : G.H0 p = none) (h4 : G.P p = none)
    (h5 : ∀ (j : Nat) w kvs, env[j]? = some (.dct w kvs) → s[j]? ≠ some (some (.ref p))) (h6 : EntsOk F w es kvs) : Ok K G F (env.set i (.dct w kvs)) (s.set i (some (.ref p))) H := by
  refine ⟨by simp [k.len], k.fr, fun j d' e => ?_, fun j l es e => ?_, fun j es e => ?_, fun j j' l es m fs e1 e2 e3 => ?_, k.pin, k.dom, k.grow, k.new, k.rin, ⟨fun j w' kvs2 e => ?_, fun j j' w1 k1 w2 k2 e1 e2 e3 => ?_⟩⟩
  · rcases set_get e with ⟨rfl, hl, z⟩ | ⟨hj, z⟩
    · cases z
    · rw [List.getElem?_set_ne hj]
      exact k.val j d' z
  · rcases set_get e with ⟨rfl, hl, z⟩ | ⟨hj, z⟩
    · cases z
    · rw [List.getElem?_set_ne hj]
      exact k.own j l es z
  · rcases set_get e with ⟨rfl, hl, z⟩ | ⟨hj, z⟩
    · cases z
    · rw [List.getElem?_set_ne hj]
      exact k.ro j es z
  · rcases set_get e1 with ⟨rfl, hl, z⟩ | ⟨hj, z⟩
    · cases z
    · rcases set_get e2 with ⟨rfl, hl, z2⟩ | ⟨hj2, z2⟩
      · cases z2
      · rw [List.getElem?_set_ne hj, List.getElem?_set_ne hj2] at e3
        exact k.sep j j' _ _ _ _ z z2 e3
  · rcases set_get e with ⟨rfl, hl, z⟩ | ⟨hj, z⟩
    · cases z
      exact ⟨p, es, by rw [List.getElem?_set_self (by rw [k.len]; exact hl)], h1, h2, h4, h3, h6⟩
    · rw [List.getElem?_set_ne hj]
      exact k.dct.at' j w' kvs2 z
  · rcases set_get e1 with ⟨rfl, hl, z⟩ | ⟨hj, z⟩
    · rcases set_get e2 with ⟨rfl, hl2, z2⟩ | ⟨hj2, z2⟩
      · rfl
      · rw [List.getElem?_set_self (by rw [k.len]; exact hl), List.getElem?_set_ne hj2] at e3
        exact absurd e3.symm (h5 j' _ _ z2)
    · rcases set_get e2 with ⟨rfl, hl, z2⟩ | ⟨hj2, z2⟩
      · rw [List.getElem?_set_self (by rw [k.len]; exact hl), List.getElem?_set_ne hj] at e3
        exact absurd e3 (h5 j _ _ z)
      · rw [List.getElem?_set_ne hj, List.getElem?_set_ne hj2] at e3
        exact k.dct.sep j j' _ _ _ _ z z2 e3
theorem ents_nil {F : Hp} {w : World} : EntsOk F w [] [] := ⟨.nil, List.nodup_nil, Nat.zero_le _⟩
open Classical in
noncomputable def eDGet2 (w : World) (i : Nat) (fk fx : Ef) : Ef := fun env => if isDct env i = true then (fk env).bind fun r => (fx r.2).bind fun q => match q.2[i]? with
  | some (.dct w' kvs) => if w' = w ∧ kmode kvs r.1 = true then some ((dFind kvs r.1).getD q.1, q.2) else none
  | _ => none
  else none
open Classical in
noncomputable def eDIdx (w : World) (i : Nat) (fk : Ef) : Ef := fun env => if isDct env i = true then (fk env).bind fun r => match r.2[i]? with
  | some (.dct w' kvs) => if w' = w ∧ kmode kvs r.1 = true then (dFind kvs r.1).map fun d => (d, r.2) else none
  | _ => none
  else none
open Classical in
noncomputable def eDIn (w : World) (i : Nat) (fk : Ef) : Ef := fun env => (fk env).bind fun r => match r.2[i]? with
  | some (.dct w' kvs) => if w' = w ∧ kmode kvs r.1 = true then some (.bool (dFind kvs r.1).isSome, r.2) else none
  | _ => none
open Classical in
noncomputable def sDPut (w : World) (i : Nat) (fk fv : Ef) : Sf := fun env => (fv env).bind fun r => if isDct r.2 i = true then (fk r.2).bind fun q => match q.2[i]? with
  | some (.dct w' kvs) => if w' = w ∧ kmode kvs q.1 = true ∧ kvs.length < 1000000 then some (.nx (q.2.set i (.dct w (dPut kvs q.1 r.1)))) else none
  | _ => none
  else none
def sDNew (w : World) (i : Nat) : Sf := fun env => some (.nx (env.set i (.dct w [])))
section
variable {K : Frg} {w : World} {ty tx : TE} {fk fx fv : Ef}
theorem slot_dct {G : Gm} {F : Hp} {env : En} {s : L2.St} {H : Hp} {i : Nat} {w : World} {kvs : List (D × D)} {a : Addr} (k : Ok K G F env s H) (h : env[i]? = some (.dct w kvs)) (ha : s[i]? = some (some (.ref a))) : ∃ es, H a = some (DicO a es) ∧ EntsOk F w es kvs := by
  obtain ⟨b, es, h1, h2, _, _, _, h6⟩ := k.dct.at' i w kvs h
  rw [ha] at h1
  cases h1
  exact ⟨es, h2, h6⟩
theorem re_dget2 (i : Nat) (hk : RE K ty fk) (hx : RE K tx fx) : RE K (tXGet2 w (tVar i) ty tx) (eDGet2 w i fk fx) := fun G F env s H d env' k e Q q => by
  unfold eDGet2 at e
  split at e
  · rename_i h0
    obtain ⟨w0, kvs0, h0⟩ := isDct_some h0
    obtain ⟨a, es0, g1, g2, _⟩ := k.dct.at' i w0 kvs0 h0
    obtain ⟨⟨kd, e1⟩, h1, ea⟩ := Option.bind_eq_some_iff.mp e
    clear e
    have e := ea
    clear ea
    obtain ⟨⟨dd, e2⟩, h2, ea⟩ := Option.bind_eq_some_iff.mp e
    clear e
    have e := ea
    clear ea
    dsimp only at e
    split at e
    · rename_i w' kvs h3
      split at e
      · rename_i hm
        obtain ⟨rfl, hm⟩ := hm
        cases e
        refine ⟨_, g1, a, rfl, ⟨es0, g2⟩, ?_⟩
        refine hk G F env s H kd _ k h1 _ fun F1 H1 y k1 s1 py => ?_
        refine hx G F1 e1 s H1 dd _ k1 h2 _ fun F2 H2 z k2 s2 pz => ?_
        obtain ⟨es, j1, j2⟩ := slot_dct k2 h3 g1
        exact ⟨F2, es, kvs, kd, dd, ⟨k2.fr, j1, j2, Dt.mono s2 _ _ py, hm⟩, pz, fun v pv => q F2 H2 v k2 (s1.trans s2) pv⟩
      · cases e
    · cases e
  · cases e
theorem re_didx (i : Nat) (hk : RE K ty fk) : RE K (tXIdx w (tVar i) ty) (eDIdx w i fk) := fun G F env s H d env' k e Q q => by
  unfold eDIdx at e
  split at e
  · rename_i h0
    obtain ⟨w0, kvs0, h0⟩ := isDct_some h0
    obtain ⟨a, es0, g1, g2, _⟩ := k.dct.at' i w0 kvs0 h0
    obtain ⟨⟨kd, e1⟩, h1, ea⟩ := Option.bind_eq_some_iff.mp e
    clear e
    have e := ea
    clear ea
    dsimp only at e
    split at e
    · rename_i w' kvs h3
      split at e
      · rename_i hm
        obtain ⟨rfl, hm⟩ := hm
        obtain ⟨dd, h4, ea⟩ := Option.map_eq_some_iff.mp e
        clear e
        cases ea
        refine ⟨_, g1, ?_⟩
        refine hk G F env s H kd _ k h1 _ fun F1 H1 y k1 s1 py => ?_
        obtain ⟨es, j1, j2⟩ := slot_dct k1 h3 g1
        exact ⟨a, F1, es, kvs, kd, d, rfl, ⟨k1.fr, j1, j2, py, hm⟩, h4, fun v pv => q F1 H1 v k1 s1 pv⟩
      · cases e
    · cases e
  · cases e
theorem rs_dput (i : Nat) {tv : TE} (hk : RE K ty fk) (hv : RE K tv fv) : RS K (tAsg tv (L2.gSub (tVar i) ty (sXSet w))) (sDPut w i fk fv) := fun G F env s H o k e E q => by
  unfold sDPut at e
  obtain ⟨⟨vd, e1⟩, h1, ea⟩ := Option.bind_eq_some_iff.mp e
  clear e
  have e := ea
  clear ea
  dsimp only at e
  split at e
  · rename_i h0
    obtain ⟨w0, kvs0, h0⟩ := isDct_some h0
    obtain ⟨⟨kd, e2⟩, h2, ea⟩ := Option.bind_eq_some_iff.mp e
    clear e
    have e := ea
    clear ea
    dsimp only at e
    split at e
    · rename_i w' kvs h3
      split at e
      · rename_i hm
        obtain ⟨rfl, hm, hl⟩ := hm
        cases e
        refine hv G F env s H vd e1 k h1 _ fun F1 H1 v k1 s1 pv => ?_
        obtain ⟨a, es0, g1, g2, _⟩ := k1.dct.at' i w0 kvs0 h0
        refine ⟨_, g1, ?_⟩
        refine hk G F1 e1 s H1 kd e2 k1 h2 _ fun F2 H2 y k2 s2 py => ?_
        obtain ⟨es, j1, j2⟩ := slot_dct k2 h3 g1
        refine ⟨a, F2, es, kvs, kd, vd, rfl, ⟨k2.fr, j1, j2, py, hm⟩, Dt.mono s2 _ _ pv, by rw [sizeLine_eq]; omega, fun es' en => ?_⟩
        exact q F2 _ _ (ok_dput k2 h3 g1 en) (s1.trans s2)
      · cases e
    · cases e
  · cases e
theorem rs_dnew (i : Nat) : RS K (tAsg tXNew (gName i)) (sDNew w i) := fun G F env s H o k e E q => by
  cases e
  intro p hp
  have k1 : Ok K G F env s (upd H p (DicO p [])) := k.laid hp
  refine q F _ _ (ok_dnew k1 upd_same (k.fr.free hp) (k.dom p hp) (k.pin.free hp) (k.notdctN hp) ents_nil) (Same.refl F)
end
section
variable {X : Cx} {x : Str} {p2 p3 pos apos cpos : Pos} {e f ke : Expr} {fk fx fv : Ef}
theorem xe_dget2 (i : Nat) (hu : X.A.units + 65 < cLine) (hk : XE X e fk) (hx : XE X f fx) (hN : X.N[i]? = some x := by rfl) (hv : Vis X.env.scope x := by first | exact Or.inl rfl | exact Or.inr (Or.inl rfl) | exact Or.inr (Or.inr rfl)) (hd : (x == ("__debug__" : Str)) = false := by decide)
    (hcd : (x == ("__classdict__" : Str)) = false := by decide) (m : M2 X (.Name x p2) "get" apos e f cpos := by exact ⟨rfl, rfl, rfl, rfl⟩) : XE X (.Call (.Attribute (.Name x p2) "get" apos) [e, f] [] cpos) (eDGet2 X.w i fk fx) :=
  let ⟨_, h1, h2⟩ := hk.ex; let ⟨_, h3, h4⟩ := hx.ex; ⟨_, pe_xget2 hu (pe_var hN hv hd hcd) h1 h3 m, re_dget2 i h2 h4⟩
theorem xe_didx (i : Nat) (hu : X.A.units + 65 < cLine) (hk : XE X e fk) (hN : X.N[i]? = some x := by rfl) (hv : Vis X.env.scope x := by first | exact Or.inl rfl | exact Or.inr (Or.inl rfl) | exact Or.inr (Or.inr rfl)) (hd : (x == ("__debug__" : Str)) = false := by decide)
    (hcd : (x == ("__classdict__" : Str)) = false := by decide) (hs : NoSl e := by intro _ _; rfl) : XE X (.Subscript (.Name x p2) e pos) (eDIdx X.w i fk) :=
  let ⟨_, h1, h2⟩ := hk.ex; ⟨_, pe_xidx hu (pe_var hN hv hd hcd) h1 hs, re_didx i h2⟩
theorem xs_dput (i : Nat) (hu : X.A.units + 65 < cLine) (he : XE X e fv) (hk : XE X ke fk) (hN : X.N[i]? = some x := by rfl) (hv : Vis X.env.scope x := by first | exact Or.inl rfl | exact Or.inr (Or.inl rfl) | exact Or.inr (Or.inr rfl))
    (hd : (x == ("__debug__" : Str)) = false := by decide) (hcd : (x == ("__classdict__" : Str)) = false := by decide) (hs : swapsWithSole [.Subscript (.Name x p2) ke p3] e pos.line X.env = pure false := by rfl) (hw : swappedStores [.Subscript (.Name x p2) ke p3] e X.env = pure none := by rfl)
    (h1 : (assignEach [.Subscript (.Name x p2) ke p3] X.env).map (·.2) = [assign (.Subscript (.Name x p2) ke p3) X.env] := by rfl)
    (ha : ∀ v, assign (.Subscript (.Name x p2) ke p3) X.env v = (do
      let ov ← holding [v] (eval (.Name x p2) X.env)
      let iv ← holding [v, ov] (eval ke X.env)
      standAt p3
      holding [v, ov, iv] (setItem ov iv v)
      release [v, ov, iv] []) := by intro _; rfl) : XS X (.Assign [.Subscript (.Name x p2) ke p3] e pos) (sDPut X.w i fk fv) :=
  let ⟨_, g1, g2⟩ := he.ex; let ⟨_, g3, g4⟩ := hk.ex
  ⟨_, ps_asg g1 (pg_sub (pe_var hN hv hd hcd) g3 (set_xdict hu) ha) hs hw h1, rs_dput i g4 g2⟩
theorem xs_dnew (i : Nat) (hN : X.N.Nodup) (hi : X.N[i]? = some x := by rfl) (hx : Loc X.env.scope x := by first | exact Or.inl rfl | exact Or.inr rfl) (hs : swapsWith (.Dict [] [] p2) (some (.Name x p3)) pos.line X.env = pure false := by rfl)
    (hf : X.fn x = true ∨ X.env.scope.names.lookup x = some .local := by first | exact .inl rfl | exact .inr rfl | assumption) : XS X (.Assign [.Name x p3] (.Dict [] [] p2) pos) (sDNew X.w i) :=
  ⟨_, ps_set hN hi hx pe_xnew hs hf, rs_dnew i⟩
end
/-! ### to reason about them -/
section
variable {env : En} {w : World} {i : Nat} {fk fx fv : Ef} {kvs : List (D × D)}
theorem we_dget2 {Q : D → En → Prop} {kvs0 : List (D × D)} (h0 : env[i]? = some (.dct w kvs0)) (h : WE fk env fun kd e1 => WE fx e1 fun dd e2 => ∃ kvs, e2[i]? = some (.dct w kvs) ∧ kmode kvs kd = true ∧ Q ((dFind kvs kd).getD dd) e2) : WE (eDGet2 w i fk fx) env Q := by
  obtain ⟨kd, e1, h1, dd, e2, h2, kvs, h3, h4, q⟩ := h
  refine ⟨_, e2, ?_, q⟩
  unfold eDGet2 isDct
  rw [h0]
  simp only [if_true, h1, h2, Option.bind_some, h3, h4, and_self]
theorem we_didx {Q : D → En → Prop} {kvs0 : List (D × D)} (h0 : env[i]? = some (.dct w kvs0)) (h : WE fk env fun kd e1 => ∃ kvs d, e1[i]? = some (.dct w kvs) ∧ kmode kvs kd = true ∧ dFind kvs kd = some d ∧ Q d e1) : WE (eDIdx w i fk) env Q := by
  obtain ⟨kd, e1, h1, kvs, d, h3, h4, h5, q⟩ := h
  refine ⟨d, e1, ?_, q⟩
  unfold eDIdx isDct
  rw [h0]
  simp only [if_true, h1, Option.bind_some, h3, h4, and_self, h5, Option.map_some]
theorem we_din {Q : D → En → Prop} (h : WE fk env fun kd e1 => ∃ kvs, e1[i]? = some (.dct w kvs) ∧ kmode kvs kd = true ∧ Q (.bool (dFind kvs kd).isSome) e1) : WE (eDIn w i fk) env Q := by
  obtain ⟨kd, e1, h1, kvs, h3, h4, q⟩ := h
  refine ⟨_, e1, ?_, q⟩
  unfold eDIn
  simp only [h1, Option.bind_some, h3, h4, and_self, if_true]
theorem ws_dput {N : En → Prop} {R : D → En → Prop} {L : List D → En → Prop} (h : WE fv env fun vd e1 => isDct e1 i = true ∧ WE fk e1 fun kd e2 => ∃ kvs, e2[i]? = some (.dct w kvs) ∧ kmode kvs kd = true ∧ kvs.length < 1000000 ∧ Nrm (e2.set i (.dct w (dPut kvs kd vd))) N) : WS (sDPut w i fk fv) env ⟨N, R, L⟩ := by
  obtain ⟨vd, e1, h1, h0, kd, e2, h2, kvs, h3, h4, h5, q⟩ := h
  refine ⟨.nx _, ?_, q⟩
  unfold sDPut
  simp only [h1, Option.bind_some, h0, if_true, h2, h3, h4, h5, and_self]
theorem ws_dnew {N : En → Prop} {R : D → En → Prop} {L : List D → En → Prop} (q : Nrm (env.set i (.dct w [])) N) : WS (sDNew w i) env ⟨N, R, L⟩ := ⟨.nx _, rfl, q⟩
end
end M

namespace M
open PySem PySem.Spec PyProof.Rows L2
/-! ### own lists as values while an expression runs whose answer holds no list -/
def eBorL (f : Ef) : Ef := fun env => (f (unowns env)).bind fun r => if lfree r.1 then some (r.1, env) else none
section
variable {K : Frg} {G : Gm} {F F' : Hp} {env env' : En} {s : L2.St} {H H' : Hp}
end
theorem we_borL {f : Ef} {env : En} {Q : D → En → Prop} (h : Nrm (unowns env) fun e => WE f e fun d _ => lfree d = true ∧ Q d env) : WE (eBorL f) env Q := by
  obtain ⟨d, e, h1, h2, q⟩ := h
  exact ⟨d, env, by unfold eBorL; rw [h1]; simp [h2], q⟩
end M

namespace M
open PySem PySem.Spec PyProof.Rows L2
/-! ### a new list handed in as the last argument, to be changed and forgotten -/
abbrev Nf := En → Option ((List D × List D) × En)
def nlL (fl : Lf) : Nf := fun env => (fl env).map fun r => (([], r.1), r.2)
def nlV (f : Ef) (g : Nf) : Nf := fun env => (f env).bind fun r => (g r.2).map fun q => ((r.1 :: q.1.1, q.1.2), q.2)
section
variable {X : Cx} {e : Expr} {es : List Expr} {f : Ef} {fl : Lf} {g : Nf}
end
def eCallNL (g : Gf) (fa : Nf) : Ef := fun env => (fa env).bind fun q => (g (q.1.1.map .val ++ [.own false q.1.2])).map fun w => (w.1, q.2)
section
variable {X : Cx} {k : Nat} {fx : Addr} {fd : FuncData} {ps : List Str} {x : Str} {p pos : Pos} {e : Expr} {es : List Expr} {fa : Nf} {g : Gf}
end
def WNl (f : Nf) (env : En) (Q : List D → List D → En → Prop) : Prop := ∃ ds ls e, f env = some ((ds, ls), e) ∧ Q ds ls e
theorem wnl_l {env : En} {fl : Lf} {Q : List D → List D → En → Prop} (h : WL fl env fun ls e => Q [] ls e) : WNl (nlL fl) env Q := by
  obtain ⟨ls, e1, h1, q⟩ := h
  exact ⟨[], ls, e1, by unfold nlL; simp only [h1, Option.map_some], q⟩
theorem wnl_v {env : En} {f : Ef} {g : Nf} {Q : List D → List D → En → Prop} (h : WE f env fun d e => WNl g e fun ds ls e2 => Q (d :: ds) ls e2) : WNl (nlV f g) env Q := by
  obtain ⟨d, e1, h1, ds, ls, e2, h2, q⟩ := h
  exact ⟨_, _, e2, by unfold nlV; simp only [h1, h2, Option.bind_some, Option.map_some], q⟩
theorem we_callNL {env : En} {g : Gf} {fa : Nf} {Q : D → En → Prop} (h : WNl fa env fun ds ls e => WG g (ds.map .val ++ [.own false ls]) fun d _ => Q d e) : WE (eCallNL g fa) env Q := by
  obtain ⟨ds, ls, e1, h1, d, a', h4, q⟩ := h
  exact ⟨d, e1, by unfold eCallNL; simp only [h1, h4, Option.bind_some, Option.map_some], q⟩
end M

namespace L2
open PySem PySem.Spec PyProof.Rows
/-! ### a op1 b op2 c op3 d -/
section
variable {X : Cx} {a b c d : Expr} {ta tb tc td : TE} {pos : Pos}
end
end L2
namespace M
open PySem PySem.Spec PyProof.Rows L2
def eCh3 (g g' g'' : D → D → Option D) (fa fb fc fd : Ef) : Ef := fun env => (fa env).bind fun r => (fb r.2).bind fun q => (g r.1 q.1).bind fun z => match z with
  | .bool true => (fc q.2).bind fun w => (g' q.1 w.1).bind fun z => match z with
    | .bool true => (fd w.2).bind fun u => (g'' w.1 u.1).map fun d => (d, u.2)
    | .bool false => some (.bool false, w.2)
    | _ => none
  | .bool false => some (.bool false, q.2)
  | _ => none
section
variable {X : Cx} {a b c d : Expr} {pos : Pos} {fa fb fc fd : Ef} {r r' r'' : R2} {g g' g'' : D → D → Option D} {op op' op'' : CmpOp}
end
theorem we_chain3 {g g' g'' : D → D → Option D} {fa fb fc fd : Ef} {env : En} {Q : D → En → Prop} (h : WE fa env fun x e => WE fb e fun y e' => WO (g x y) fun z => IsB z fun b => IfB b (WE fc e' fun w e2 => WO (g' y w) fun z => IsB z fun b => IfB b (WE fd e2 fun u e3 => WO (g'' w u) fun z => Q z e3) (Q (.bool false) e2)) (Q (.bool false) e')) : WE (eCh3 g g' g'' fa fb fc fd) env Q := by
  obtain ⟨x, e1, h1, y, e2, h2, z, h3, h⟩ := h
  cases z with
  | bool b =>
    cases b with
    | false => exact ⟨_, e2, by unfold eCh3; simp [h1, h2, h3]; (try rfl), h⟩
    | true =>
      obtain ⟨w, e3, h4, z', h5, h⟩ := (show WE fc e2 _ from h)
      cases z' with
      | bool b =>
        cases b with
        | false => exact ⟨_, e3, by unfold eCh3; simp [h1, h2, h3, h4, h5]; (try rfl), h⟩
        | true =>
          obtain ⟨u, e4, h6, z2, h7, q⟩ := (show WE fd e3 _ from h)
          exact ⟨z2, e4, by unfold eCh3; simp [h1, h2, h3, h4, h5, h6, h7], q⟩
      | _ => exact h.elim
  | _ => exact h.elim
end M

namespace M
open PySem PySem.Spec PyProof.Rows L2

/-! ### texts joined, split, looked at -/
theorem da_strs2 {F : Hp} : ∀ {xs : List Str} {vs : List V}, Da F vs (xs.map .str) → vs = xs.map .str
  | [], vs, h => by cases h; rfl
  | x :: xs, vs, h => by
    cases h with
    | cons h1 h2 => cases h1; rw [da_strs2 h2]; rfl
theorem strs_da2 {F : Hp} : ∀ xs : List Str, Da F (xs.map V.str) (xs.map .str)
  | [] => .nil
  | x :: xs => .cons (.str x) (strs_da2 xs)
def gJoin : D → D → Option D
  | .str a, .list ds => (strsOf ds).bind fun ys => if fits ((ys.map (·.length)).sum + ys.length * a.length) then some (.str (Txt.join a ys)) else none
  | _, _ => none
def lSplit (fa fb : Ef) : Lf := fun env => (fa env).bind fun r => (fb r.2).bind fun q => match r.1, q.1 with
  | .str a, .str b => if (b.length == 0) = false ∧ fits (a.length + 2) = true then some ((Txt.split a b).map .str, q.2) else none
  | _, _ => none
section
variable {X : Cx} {o e : Expr} {fo fe : Ef} {apos pos : Pos}
theorem xe_join (ha : XE X o fo) (hb : XO X e fe) (hs : starEach [e] X.env = [(false, eval e X.env)] := by rfl) (hbase : attributeBase o "join" X.env (eval o X.env) = eval o X.env := by rfl) (hline : (apos.endLine == pos.line) = true := by rfl) :
    XE X (.Call (.Attribute o "join" apos) [e] [] pos) (eBin gJoin fo fe) := by
  obtain ⟨t, h1, h2⟩ := ha.ex
  obtain ⟨u, h3, h4⟩ := hb.ex
  refine ⟨_, pe_join h1 h3 hs hbase hline, fun G F env s H d env' k e Q q => ?_⟩
  unfold eBin at e
  obtain ⟨⟨d1, e1⟩, h5, e⟩ := Option.bind_eq_some_iff.mp e
  obtain ⟨⟨d2, e2⟩, h6, e⟩ := Option.bind_eq_some_iff.mp e
  obtain ⟨z, h7, e⟩ := Option.map_eq_some_iff.mp e
  cases e
  dsimp only at h6 h7
  refine h2 G F env s H _ e1 k h5 _ fun F1 H1 v k1 s1 p1 => ?_
  unfold gJoin at h7
  split at h7
  · obtain ⟨ys, hy, h8⟩ := Option.bind_eq_some_iff.mp h7
    split at h8
    · rename_i hf
      cases h8
      obtain rfl := strsOf_some hy
      cases p1
      refine ⟨⟨_, rfl⟩, ?_⟩
      refine h4 G F1 e1 s H1 _ _ k1 h6 _ fun F2 H2 v2 k2 s2 p2 => ?_
      obtain ⟨a2, vs, rfl, g1, g2⟩ := p2.list k2.fr
      rw [da_strs2 g2] at g1
      exact ⟨_, a2, ys, rfl, rfl, .inl g1, of_decide_eq_true hf, q F2 H2 _ k2 (s1.trans s2) (.str _)⟩
    · cases h8
  · cases h7
theorem xn_split (ha : XE X o fo) (hb : XE X e fe) (hs : starEach [e] X.env = [(false, eval e X.env)] := by rfl) (hbase : attributeBase o "split" X.env (eval o X.env) = eval o X.env := by rfl) (hline : (apos.endLine == pos.line) = true := by rfl) :
    XN X (.Call (.Attribute o "split" apos) [e] [] pos) (lSplit fo fe) := by
  obtain ⟨t, h1, h2⟩ := ha.ex
  obtain ⟨u, h3, h4⟩ := hb.ex
  refine ⟨_, pe_split h1 h3 hs hbase hline, fun G F env s H d env' k e Q q => ?_⟩
  unfold lSplit at e
  obtain ⟨⟨d1, e1⟩, h5, e⟩ := Option.bind_eq_some_iff.mp e
  obtain ⟨⟨d2, e2⟩, h6, e⟩ := Option.bind_eq_some_iff.mp e
  dsimp only at h6 e
  refine h2 G F env s H _ e1 k h5 _ fun F1 H1 v k1 s1 p1 => ?_
  split at e
  · split at e
    · rename_i hf
      cases e
      cases p1
      refine ⟨⟨_, rfl⟩, ?_⟩
      refine h4 G F1 e1 s H1 _ _ k1 h6 _ fun F2 H2 v2 k2 s2 p2 => ?_
      cases p2
      exact ⟨_, _, rfl, rfl, hf.1, fits_line hf.2, fun p hp => q F2 _ p _ (k2.laid hp) (s1.trans s2) upd_same (k2.fr.free hp) (k2.dom p hp) (k2.pin.free hp) (k2.notown hp) (strs_da2 _)⟩
    · cases e
  · cases e
end
/-! what they do -/
section
variable {env : En} {fa fb : Ef}
theorem wo_join {a : Str} {ys : List Str} {ds : List D} {Q : D → Prop} (hd : ds = ys.map .str) (h : (ys.map (·.length)).sum + ys.length * a.length ≤ 16777216) (q : Q (.str (Txt.join a ys))) : WO (gJoin (.str a) (.list ds)) Q :=
  ⟨_, by subst hd; unfold gJoin; dsimp only; rw [strsOf_map]; dsimp only [Option.bind]; rw [if_pos (show fits _ = true from decide_eq_true h)], q⟩
theorem wl_split {Q : List D → En → Prop} (h : WE fa env fun x e => WE fb e fun y e' => ∃ a b : Str, x = .str a ∧ y = .str b ∧ b.length ≠ 0 ∧ a.length + 2 ≤ 16777216 ∧ Q ((Txt.split a b).map .str) e') : WL (lSplit fa fb) env Q := by
  obtain ⟨x, e, h1, y, e', h2, a, b, rfl, rfl, h3, h4, q⟩ := h
  exact ⟨_, e', by unfold lSplit; rw [h1]; dsimp only [Option.bind]; rw [h2]; dsimp only; rw [if_pos ⟨beq_eq_false_iff_ne.mpr h3, decide_eq_true h4⟩], q⟩
end
end M

namespace M
open PySem PySem.Spec PyProof.Rows L2
/-! ### clocks as data -/
abbrev Hd := Int × Int × Str
def hD (h : Hd) : D := .tuple [.int h.1, .int h.2.1, .str h.2.2]
def isLk (x : Str) : Prop := ∃ c : Nat, 97 ≤ c ∧ c ≤ 122 ∧ x = ⟨#[c]⟩
def HandsOk (m : Int) (hs : List Hd) : Prop := ∀ h ∈ hs, 0 ≤ h.1 ∧ h.1 < m ∧ 0 ≤ h.2.1 ∧ h.2.1 < m ∧ isLk h.2.2
abbrev clockD (m : Int) (hs : List Hd) (b r : Bool) : D := .tuple [.int m, .tuple (hs.map hD), .bool b, .bool r]
/-! shapes -/
def Lay (n : Nat) (d : D) : Prop := d.canLay0 = true ∧ d.depth ≤ n
theorem lay_int {n : Nat} (i : Int) : Lay n (.int i) := ⟨rfl, Nat.zero_le _⟩
theorem lay_bool {n : Nat} (i : Bool) : Lay n (.bool i) := ⟨rfl, Nat.zero_le _⟩
theorem lay_lk {n : Nat} {x : Str} (h : isLk x) : Lay n (.str x) := by
  obtain ⟨c, h1, h2, rfl⟩ := h
  refine ⟨?_, Nat.zero_le _⟩
  have : ∀ k : Fin 26, PyData.strOk ⟨#[97 + k.val]⟩ = true := by decide +kernel
  have := this ⟨c - 97, by omega⟩
  rw [show 97 + (⟨c - 97, by omega⟩ : Fin 26).val = c from by show 97 + (c - 97) = c; omega] at this
  exact this
theorem lay_all {n : Nat} : ∀ {ds : List D}, (∀ d ∈ ds, Lay n d) → PyData.canLayAll0 ds = true ∧ PyData.depthAll ds ≤ n
  | [], _ => ⟨rfl, Nat.zero_le _⟩
  | d :: ds, h => by
    obtain ⟨h1, h2⟩ := h d List.mem_cons_self
    obtain ⟨h3, h4⟩ := lay_all (ds := ds) fun e he => h e (List.mem_cons_of_mem _ he)
    refine ⟨?_, ?_⟩
    · show (PyData.canLay0 d && PyData.canLayAll0 ds) = true
      rw [h1, h3]; rfl
    · show max d.depth (PyData.depthAll ds) ≤ n
      omega
theorem lay_tup {n : Nat} {ds : List D} (h : ∀ d ∈ ds, Lay n d) : Lay (n + 1) (.tuple ds) := by
  obtain ⟨h1, h2⟩ := lay_all h
  refine ⟨h1, ?_⟩
  show PyData.depthAll ds + 1 ≤ n + 1
  omega
theorem lay_lst {n : Nat} {ds : List D} (h : ∀ d ∈ ds, Lay n d) : Lay (n + 1) (.list ds) := by
  obtain ⟨h1, h2⟩ := lay_all h
  refine ⟨h1, ?_⟩
  show PyData.depthAll ds + 1 ≤ n + 1
  omega
theorem Lay.shp {n : Nat} {d : D} (h : Lay n d) (hn : n ≤ 64) : M.shp d = true := by
  unfold M.shp SeqAt.shaped
  rw [h.1, decide_eq_true (show d.depth ≤ 64 by have := h.2; omega)]
  rfl
theorem Lay.mono {n m : Nat} {d : D} (h : Lay n d) (hn : n ≤ m) : Lay m d := ⟨h.1, Nat.le_trans h.2 hn⟩
theorem lay_hD {n : Nat} {h : Hd} (hl : isLk h.2.2) : Lay (n + 1) (hD h) := lay_tup fun d hd => by
  simp only [List.mem_cons, List.not_mem_nil, or_false] at hd
  rcases hd with rfl | rfl | rfl
  · exact lay_int _
  · exact lay_int _
  · exact lay_lk hl
theorem lay_ints {n : Nat} (ns : List Int) : Lay (n + 1) (.list (ns.map .int)) := lay_lst fun d hd => by
  obtain ⟨j, _, rfl⟩ := List.mem_map.mp hd
  exact lay_int _

/-! letters -/
def letters : List Nat := [97, 98, 99, 100, 101, 102, 103, 104, 105, 106, 107, 108, 109, 110, 111, 112, 113, 114, 115, 116, 117, 118, 119, 120, 121, 122]
theorem eqv_str {x y : Str} : PyData.eqv (.str x) (.str y) = decide (x = y) := by
  unfold PyData.eqv
  by_cases h : x = y
  · subst h; simp
  · simp [h]
theorem wo_popAt {ds : List D} {k : Int} {Q : List D × D → Prop} (h0 : 0 ≤ k) (h1 : k < ds.length) (hl : ds.length < 4611686018427387904) (q : ∀ d, ds[k.toNat]? = some d → d ∈ ds → Q (ds.eraseIdx k.toNat, d)) : WO (mPopAt ds (.int k)) Q := by
  have hk : k.toNat < ds.length := by omega
  refine ⟨(ds.eraseIdx k.toNat, ds[k.toNat]), ?_, q _ (List.getElem?_eq_getElem hk) (List.getElem_mem _)⟩
  have e : seqIndex? k ds.length = some k.toNat := by
    unfold seqIndex?
    simp [show ¬ k < 0 by omega, h0, h1]
  unfold mPopAt
  dsimp only
  rw [if_pos (by simp; omega), e]
  simp [List.getElem?_eq_getElem hk]
/-! ### swaps -/
/-! readings -/
abbrev looksOf (hs : List Hd) : List Str := hs.map fun h => h.2.2
/-! rows -/
/-! ### rules for tuples of numbers of hands -/
/-! first numbers of the plain rows -/
theorem wo_eqNil {n : Nat} {ds : List D} {Q : D → Prop} (h : Lay n (.list ds)) (q : Q (.bool ds.isEmpty)) (hn : n ≤ 64 := by omega) : WO (gEq (.list ds) (.list [])) Q := by
  refine wo_eqD (h.shp hn) rfl ?_
  cases ds with
  | nil => exact q
  | cons _ _ => exact q
/-- the greatest number that divides a dial and some numbers -/
structure Gd (m : Int) (ns : List Int) (g : Int) : Prop where
  pos : 0 < g
  dm : g ∣ m
  dn : ∀ n ∈ ns, g ∣ n
  all : ∀ d : Int, d ∣ m → (∀ n ∈ ns, d ∣ n) → d ∣ g
theorem Gd.uniq {m g h : Int} {ns : List Int} (x : Gd m ns g) (y : Gd m ns h) : g = h :=
  Int.dvd_antisymm (by have := x.pos; omega) (by have := y.pos; omega) (y.all g x.dm x.dn) (x.all h y.dm y.dn)
theorem Gd.start {m : Int} (hm : 0 < m) : Gd m [] m := ⟨hm, Int.dvd_refl _, fun n h => (by cases h), fun d h _ => h⟩
theorem Gd.step {m g n g' : Int} {ns : List Int} (x : Gd m ns g) (G : IsG g n g') : Gd m (ns ++ [n]) g' := by
  have hp := G.symm.ne x.pos
  refine ⟨hp, Int.dvd_trans G.da x.dm, fun y hy => ?_, fun d d1 d2 => G.all d (x.all d d1 fun y hy => d2 y (List.mem_append_left _ hy)) (d2 n (by simp))⟩
  rcases List.mem_append.mp hy with hy | hy
  · exact Int.dvd_trans G.da (x.dn y hy)
  · rw [List.mem_singleton] at hy; subst hy; exact G.db
theorem HandsOk.mono {m n : Int} {hs : List Hd} (h : HandsOk m hs) (hn : m ≤ n) : HandsOk n hs := fun x hx => by
  obtain ⟨h1, h2, h3, h4, h5⟩ := h x hx
  exact ⟨h1, by omega, h3, by omega, h5⟩
/-! ### what a reading takes for a tick -/
end M

namespace Lw
open PySem PySem.Spec PyProof.Rows L2 M
def topS (i : Nat) : Stmt := PySem.Challenge.pw_dialdoubt_k53_clocks_written_and_read.main.body.getD i (.Pass ⟨0, 0, 0, 0⟩)
abbrev s_is_look : Stmt := topS 10
abbrev N_is_look : List Str := ["text"]
theorem sc_is_look : FnScope N_is_look ["text"] (defScope s_is_look) := ⟨rfl, rfl, rfl, by decide +kernel, rfl, by decide +kernel, by decide +kernel⟩
abbrev s_many_readings : Stmt := topS 11
abbrev N_many_readings : List Str := ["hands", "mirror", "found", "met", "gear", "start", "look"]
theorem sc_many_readings : FnScope N_many_readings ["hands", "mirror"] (defScope s_many_readings) := ⟨rfl, rfl, rfl, by decide +kernel, rfl, by decide +kernel, by decide +kernel⟩
abbrev s_made_clock : Stmt := topS 12
abbrev N_made_clock : List Str := ["many", "hands", "blank", "mirror", "found", "gear", "start", "look"]
theorem sc_made_clock : FnScope N_made_clock ["many", "hands", "blank", "mirror"] (defScope s_made_clock) := ⟨rfl, rfl, rfl, by decide +kernel, rfl, by decide +kernel, by decide +kernel⟩
abbrev s_clock_text : Stmt := topS 18
abbrev N_clock_text : List Str := ["clock", "many", "hands", "blank", "mirror", "rows", "gear", "start", "look"]
theorem sc_clock_text : FnScope N_clock_text ["clock"] (defScope s_clock_text) := ⟨rfl, rfl, rfl, by decide +kernel, rfl, by decide +kernel, by decide +kernel⟩
abbrev s_is_number : Stmt := topS 19
abbrev N_is_number : List Str := ["word", "sign"]
theorem sc_is_number : FnScope N_is_number ["word"] (defScope s_is_number) := ⟨rfl, rfl, rfl, by decide +kernel, rfl, by decide +kernel, by decide +kernel⟩
abbrev s_is_hand : Stmt := topS 20
abbrev N_is_hand : List Str := ["words"]
theorem sc_is_hand : FnScope N_is_hand ["words"] (defScope s_is_hand) := ⟨rfl, rfl, rfl, by decide +kernel, rfl, by decide +kernel, by decide +kernel⟩
abbrev s_row_of_dial : Stmt := topS 21
abbrev N_row_of_dial : List Str := ["words"]
theorem sc_row_of_dial : FnScope N_row_of_dial ["words"] (defScope s_row_of_dial) := ⟨rfl, rfl, rfl, by decide +kernel, rfl, by decide +kernel, by decide +kernel⟩
abbrev s_read_clock : Stmt := topS 22
abbrev N_read_clock : List Str := ["text", "rows", "at", "flags", "word", "hands", "number", "words"]
theorem sc_read_clock : FnScope N_read_clock ["text"] (defScope s_read_clock) := ⟨rfl, rfl, rfl, by decide +kernel, rfl, by decide +kernel, by decide +kernel⟩
abbrev s__law_pot : Stmt := topS 24
abbrev N__law_pot : List Str := ["cell", "k", "mark", "found", "turn"]
theorem sc__law_pot : FnScope N__law_pot ["cell", "k"] (defScope s__law_pot) := ⟨rfl, rfl, rfl, by decide +kernel, rfl, by decide +kernel, by decide +kernel⟩
abbrev s__law_take : Stmt := topS 25
abbrev N__law_take : List Str := ["pot", "many", "found"]
theorem sc__law_take : FnScope N__law_take ["pot", "many"] (defScope s__law_take) := ⟨rfl, rfl, rfl, by decide +kernel, rfl, by decide +kernel, by decide +kernel⟩
abbrev s__law_folded : Stmt := topS 26
abbrev N__law_folded : List Str := ["script", "many", "found", "k", "cell"]
theorem sc__law_folded : FnScope N__law_folded ["script", "many"] (defScope s__law_folded) := ⟨rfl, rfl, rfl, by decide +kernel, rfl, by decide +kernel, by decide +kernel⟩
abbrev s__law_cells : Stmt := topS 27
abbrev N__law_cells : List Str := ["script", "most"]
theorem sc__law_cells : FnScope N__law_cells ["script", "most"] (defScope s__law_cells) := ⟨rfl, rfl, rfl, by decide +kernel, rfl, by decide +kernel, by decide +kernel⟩
abbrev s__law_order : Stmt := topS 28
abbrev N__law_order : List Str := ["pot", "count", "left", "k"]
theorem sc__law_order : FnScope N__law_order ["pot", "count"] (defScope s__law_order) := ⟨rfl, rfl, rfl, by decide +kernel, rfl, by decide +kernel, by decide +kernel⟩
abbrev s__law_many : Stmt := topS 29
abbrev N__law_many : List Str := ["pot", "way"]
theorem sc__law_many : FnScope N__law_many ["pot"] (defScope s__law_many) := ⟨rfl, rfl, rfl, by decide +kernel, rfl, by decide +kernel, by decide +kernel⟩
abbrev s__law_gear : Stmt := topS 30
abbrev N__law_gear : List Str := ["pot", "many", "way"]
theorem sc__law_gear : FnScope N__law_gear ["pot", "many"] (defScope s__law_gear) := ⟨rfl, rfl, rfl, by decide +kernel, rfl, by decide +kernel, by decide +kernel⟩
abbrev s__law_start : Stmt := topS 31
abbrev N__law_start : List Str := ["pot", "many", "way"]
theorem sc__law_start : FnScope N__law_start ["pot", "many"] (defScope s__law_start) := ⟨rfl, rfl, rfl, by decide +kernel, rfl, by decide +kernel, by decide +kernel⟩
abbrev s__law_looks : Stmt := topS 32
abbrev N__law_looks : List Str := ["pot", "count", "way", "base", "step", "found", "order", "k"]
theorem sc__law_looks : FnScope N__law_looks ["pot", "count", "way"] (defScope s__law_looks) := ⟨rfl, rfl, rfl, by decide +kernel, rfl, by decide +kernel, by decide +kernel⟩
abbrev s__law_clock_of : Stmt := topS 33
abbrev N__law_clock_of : List Str := ["pot", "many", "count", "way", "looks", "hands", "k", "gear", "mirror"]
theorem sc__law_clock_of : FnScope N__law_clock_of ["pot", "many"] (defScope s__law_clock_of) := ⟨rfl, rfl, rfl, by decide +kernel, rfl, by decide +kernel, by decide +kernel⟩
abbrev s__law_rows : Stmt := topS 34
abbrev N__law_rows : List Str := ["pot", "clock", "many", "hands", "blank", "mirror", "rows", "gear", "start", "look", "numbers"]
theorem sc__law_rows : FnScope N__law_rows ["pot", "clock"] (defScope s__law_rows) := ⟨rfl, rfl, rfl, by decide +kernel, rfl, by decide +kernel, by decide +kernel⟩
abbrev s__law_whole : Stmt := topS 35
abbrev N__law_whole : List Str := ["thing"]
theorem sc__law_whole : FnScope N__law_whole ["thing"] (defScope s__law_whole) := ⟨rfl, rfl, rfl, by decide +kernel, rfl, by decide +kernel, by decide +kernel⟩
abbrev s__law_form : Stmt := topS 36
abbrev N__law_form : List Str := ["clock", "hand"]
theorem sc__law_form : FnScope N__law_form ["clock"] (defScope s__law_form) := ⟨rfl, rfl, rfl, by decide +kernel, rfl, by decide +kernel, by decide +kernel⟩
abbrev s_law : Stmt := topS 37
abbrev N_law : List Str := ["script", "k", "cell", "pot", "clock", "many", "hands", "blank", "mirror", "rows", "gear", "start", "look", "text", "some", "found"]
theorem sc_law : FnScope N_law ["script"] (defScope s_law) := ⟨rfl, rfl, rfl, by decide +kernel, rfl, by decide +kernel, by decide +kernel⟩
def c_FIGURES : Ef := eC (.str "0123456789")
def c_LETTERS : Ef := eC (.str "abcdefghijklmnopqrstuvwxyz")
def c_MOST_FIGURES : Ef := eC (.int (61))
def c_MOST_HANDS_clocks : Ef := eC (.int (5))
def c_MOST_HANDS_texts : Ef := eC (.int (5))
def c_MOST_MARKS : Ef := eC (.int (1000000000000000000000000000000000000000000000000000000000000))
def c_MOST_READINGS : Ef := eC (.int (6))
def c_SMALL : Ef := eC (.str "abcdefghijklmnopqrstuvwxyz")
/-! ### the mirrors -/
noncomputable section
def b_is_look : Sf :=
  (sRet (eAnd (eBin gEq (eUn gLen (eV 0)) (eC (.int 1))) (eBin gIs (eV 0) c_LETTERS)))
def g_is_look : Gf := fnRun 1 1 b_is_look
def b_many_readings (w : World) : Sf :=
  (sSeq (sSet 2 (eBin gAdd (eC (.int 1)) (eUn gInt (eV 1))))
  (sSeq (sDNew w 3)
  (sSeq (sFor (lIt (eV 0)) (tT 3 (gsC (tN 4) (gsC (tN 5) (gsC (tN 6) gsN))))
  (sSeq (sDPut w 3 (eV 6) (eBin gAdd (eDGet2 w 3 (eV 6) (eC (.int 0))) (eC (.int 1))))
  (sSet 2 (eBin gMul (eV 2) (eDIdx w 3 (eV 6))))))
  (sRet (eV 2)))))
def g_many_readings (w : World) : Gf := fnRun 7 2 (b_many_readings w)
def b_made_clock (w : World) : Sf :=
  (sSeq (sIf (bOr (bNot (bV (eChain gLe gLe (eC (.int 2)) (eV 0) c_MOST_MARKS))) (bNot (bV (eChain gLe gLe (eC (.int 1)) (eUn gLen (eV 1)) c_MOST_HANDS_clocks))))
  sNo
  sNil)
  (sSeq (sIf (bNot (bV (eUn gAll (eFz (lComp (lIt (eV 1)) [5, 6, 7] (tT 3 (gsC (tN 5) (gsC (tN 6) (gsC (tN 7) gsN)))) bYes (eCall g_is_look (aV (eV 7) aNil)))))))
  sNo
  sNil)
  (sSeq (sIf (bV (eBin gGt (eCall (g_many_readings w) (aV (eV 1) (aV (eV 3) aNil))) c_MOST_READINGS))
  sNo
  sNil)
  (sSeq (sSet 4 (eUn gTuple (eFz (lComp (lIt (eV 1)) [5, 6, 7] (tT 3 (gsC (tN 5) (gsC (tN 6) (gsC (tN 7) gsN)))) bYes (eTup (lCons (eBin gMod (eV 5) (eV 0)) (lCons (eBin gMod (eV 6) (eV 0)) (lCons (eV 7) lNil))))))))
  (sRet (eTup (lCons (eV 0) (lCons (eV 4) (lCons (eV 2) (lCons (eV 3) lNil))))))))))
def g_made_clock (w : World) : Gf := fnRun 8 4 (b_made_clock w)
def b_clock_text : Sf :=
  (sSeq (sAsg (eV 0) (tT 4 (gsC (tN 1) (gsC (tN 2) (gsC (tN 3) (gsC (tN 4) gsN))))))
  (sSeq (sSetO 5 (lAddE (eBin gAdd (eFz (lLst (lCons (eBin gAdd (eC (.str "dial ")) (eUn gStr (eV 1))) lNil))) (eBin gMul (eFz (lLst (lCons (eC (.str "blank")) lNil))) (eUn gInt (eV 3)))) (eBin gMul (eFz (lLst (lCons (eC (.str "mirror")) lNil))) (eUn gInt (eV 4)))))
  (sSeq (sFor (lIt (eV 2)) (tT 3 (gsC (tN 6) (gsC (tN 7) (gsC (tN 8) gsN))))
  (sExpr (eMut mAppend 5 (eBin gAdd (eBin gAdd (eBin gAdd (eBin gAdd (eBin gAdd (eC (.str "hand ")) (eUn gStr (eV 6))) (eC (.str " "))) (eUn gStr (eV 7))) (eC (.str " "))) (eV 8)))))
  (sRet (eBin gJoin (eC (.str "\n")) (eO 5))))))
def g_clock_text : Gf := fnRun 9 1 b_clock_text
def b_is_number : Sf :=
  (sSeq (sIf (bOr (bV (eBin gEq (eV 0) (eC (.str "")))) (bOr (bV (eBin gGt (eUn gLen (eV 0)) c_MOST_FIGURES)) (bAnd (bV (eBin gEq (eBin gIdx (eV 0) (eC (.int 0))) (eC (.str "0")))) (bV (eBin gGt (eUn gLen (eV 0)) (eC (.int 1)))))))
  (sRet (eC (.bool false)))
  sNil)
  (sRet (eUn gAll (eFz (lComp (lIt (eV 0)) [1] (tN 1) bYes (eBin gIs (eV 1) c_FIGURES))))))
def g_is_number : Gf := fnRun 2 1 b_is_number
def b_is_hand : Sf :=
  (sSeq (sIf (bOr (bV (eBin gNe (eUn gLen (eV 0)) (eC (.int 4)))) (bOr (bV (eBin gNe (eBin gIdx (eV 0) (eC (.int 0))) (eC (.str "hand")))) (bOr (bNot (bV (eCall g_is_number (aV (eBin gIdx (eV 0) (eC (.int 1))) aNil)))) (bNot (bV (eCall g_is_number (aV (eBin gIdx (eV 0) (eC (.int 2))) aNil)))))))
  (sRet (eC (.bool false)))
  sNil)
  (sRet (eAnd (eBin gEq (eUn gLen (eBin gIdx (eV 0) (eC (.int 3)))) (eC (.int 1))) (eBin gIs (eBin gIdx (eV 0) (eC (.int 3))) c_SMALL))))
def g_is_hand : Gf := fnRun 1 1 b_is_hand
def b_row_of_dial : Sf :=
  (sRet (eAnd (eBin gEq (eUn gLen (eV 0)) (eC (.int 2))) (eAnd (eBin gEq (eBin gIdx (eV 0) (eC (.int 0))) (eC (.str "dial"))) (eCall g_is_number (aV (eBin gIdx (eV 0) (eC (.int 1))) aNil)))))
def g_row_of_dial : Gf := fnRun 1 1 b_row_of_dial
def b_read_clock (w : World) : Sf :=
  (sSeq (sSet 1 (eFz (lSplit (eV 0) (eC (.str "\n")))))
  (sSeq (sIf (bNot (bV (eCall g_row_of_dial (aV (eFz (lSplit (eBin gIdx (eV 1) (eC (.int 0))) (eC (.str " ")))) aNil))))
  sNo
  sNil)
  (sSeq (sSet 2 (eC (.int 1)))
  (sSeq (sSetO 3 (lLst lNil))
  (sSeq (sFor (lIt (eFz (lLst (lCons (eC (.str "blank")) (lCons (eC (.str "mirror")) lNil))))) (tN 4)
  (sSeq (sExpr (eMut mAppend 3 (eAnd (eBin gLt (eV 2) (eUn gLen (eV 1))) (eBin gEq (eBin gIdx (eV 1) (eV 2)) (eV 4)))))
  (sSet 2 (eBin gAdd (eV 2) (eUn gInt (eBinV gIdx 3 (eUn gNeg (eC (.int 1)))))))))
  (sSeq (sSetO 5 (lLst lNil))
  (sSeq (sFor (lRng2 (eV 2) (eUn gLen (eV 1))) (tN 6)
  (sSeq (sSet 7 (eFz (lSplit (eBin gIdx (eV 1) (eV 6)) (eC (.str " ")))))
  (sSeq (sIf (bOr (bNot (bV (eCall g_is_hand (aV (eV 7) aNil)))) (bV (eBin gEq (eUn gLen (eO 5)) c_MOST_HANDS_texts)))
  sNo
  sNil)
  (sExpr (eMut mAppend 5 (eTup (lCons (eUn gIntT (eBin gIdx (eV 7) (eC (.int 1)))) (lCons (eUn gIntT (eBin gIdx (eV 7) (eC (.int 2)))) (lCons (eBin gIdx (eV 7) (eC (.int 3))) lNil)))))))))
  (sSeq (sIf (bV (eBinV gEq 5 (eFz (lLst lNil))))
  sNo
  sNil)
  (sFrz 5 (sRet (eCall (g_made_clock w) (aV (eUn gIntT (eBin gIdx (eFz (lSplit (eBin gIdx (eV 1) (eC (.int 0))) (eC (.str " ")))) (eC (.int 1)))) (aV (eV 5) (aV (eBinV gIdx 3 (eC (.int 0))) (aV (eBinV gIdx 3 (eC (.int 1))) aNil)))))))))))))))
def g_read_clock (w : World) : Gf := fnRun 8 1 (b_read_clock w)
def b__law_pot : Sf :=
  (sSeq (sSet 2 (eBin gMod (eBin gAdd (eV 0) (eBin gMul (eC (.int 7919)) (eBin gAdd (eV 1) (eC (.int 1))))) (eC (.int 2147483647))))
  (sSeq (sSetO 3 (lLst (lCons (eC (.int 0)) lNil)))
  (sSeq (sFor (lRng1 (eC (.int 24))) (tN 4)
  (sSeq (sSet 2 (eBin gMod (eBin gAdd (eBin gAdd (eBin gAdd (eBin gMul (eV 2) (eV 2)) (eBin gMul (eC (.int 48271)) (eV 2))) (eBin gMul (eC (.int 3)) (eV 4))) (eV 1)) (eC (.int 2147483629))))
  (sPutI 3 (eC (.int 0)) (eBin gAdd (eBin gMul (eBinV gIdx 3 (eC (.int 0))) (eC (.int 2147483629))) (eV 2)))))
  (sSeq (sIf (bV (eBin gGe (eV 0) (eBin gPow (eC (.int 10)) (eC (.int 18)))))
  (sExpr (eMut mAppend 3 (eV 0)))
  sNil)
  (sRetO 3)))))
def g__law_pot : Hf := fnNew 5 2 b__law_pot
def b__law_take : Sf :=
  (sSeq (sSet 2 (eBin gMod (eBinV gIdx 0 (eUn gNeg (eC (.int 1)))) (eV 1)))
  (sSeq (sPutI 0 (eUn gNeg (eC (.int 1))) (eBin gDiv (eBinV gIdx 0 (eUn gNeg (eC (.int 1)))) (eV 1)))
  (sSeq (sIf (bAnd (bV (eBin gEq (eBinV gIdx 0 (eUn gNeg (eC (.int 1)))) (eC (.int 0)))) (bV (eBin gGt (eUn gLen (eO 0)) (eC (.int 1)))))
  (sExpr (eMut0 mPop 0))
  sNil)
  (sRet (eV 2)))))
def g__law_take : Gf := fnRun 3 2 b__law_take
def b__law_folded : Sf :=
  (sSeq (sSetO 2 (lMulE (eFz (lLst (lCons (eC (.int 0)) lNil))) (eV 1)))
  (sSeq (sFor (lEnum (eFz (lSlV 0 pNo (pE (eC (.int 63)))))) (tT 2 (gsC (tN 3) (gsC (tN 4) gsN)))
  (sPutI 2 (eBin gMod (eV 3) (eV 1)) (eBin gAdd (eBin gMul (eBin gMod (eBinV gIdx 2 (eBin gMod (eV 3) (eV 1))) (eBin gPow (eC (.int 10)) (eC (.int 60)))) (eC (.int 31))) (eV 4))))
  (sFrz 2 (sRet (eV 2)))))
def g__law_folded : Gf := fnRun 5 2 b__law_folded
def b__law_cells : Sf :=
  (sSeq (sIf (bV (eBinV gEq 0 (eFz (lLst lNil))))
  (sRet (eFz (lLst (lCons (eC (.int 0)) lNil))))
  sNil)
  (sRet (eCall g__law_folded (aO 0 (aV (eBin gMin2 (eV 1) (eUn gLen (eO 0))) aNil)))))
def g__law_cells : Gf := fnRun 2 2 b__law_cells
def b__law_order : Sf :=
  (sSeq (sSetO 2 (lRg1 (eV 1)))
  (sRet (eFz (lComp (lRng1 (eV 1)) [3] (tN 3) bYes (eMut mPopAt 2 (eCall g__law_take (aR 0 (aV (eUn gLen (eO 2)) aNil))))))))
def g__law_order : Gf := fnRun 4 2 b__law_order
def b__law_many : Sf :=
  (sSeq (sSet 1 (eCall g__law_take (aR 0 (aV (eC (.int 8)) aNil))))
  (sSeq (sIf (bV (eBin gLt (eV 1) (eC (.int 3))))
  (sRet (eBin gAdd (eC (.int 2)) (eCall g__law_take (aR 0 (aV (eBin gIdx (eFz (lLst (lCons (eC (.int 11)) (lCons (eC (.int 59)) (lCons (eC (.int 59)) lNil))))) (eV 1)) aNil)))))
  sNil)
  (sSeq (sIf (bV (eBin gEq (eV 1) (eC (.int 3))))
  (sRet (eBin gIdx (eFz (lLst (lCons (eC (.int 64)) (lCons (eC (.int 720)) (lCons (eC (.int 1155)) (lCons (eC (.int 1716)) (lCons (eC (.int 5040)) (lCons (eC (.int 27720)) (lCons (eBin gPow (eC (.int 2)) (eC (.int 20))) (lCons (eBin gPow (eC (.int 3)) (eC (.int 13))) lNil)))))))))) (eCall g__law_take (aR 0 (aV (eC (.int 8)) aNil)))))
  sNil)
  (sSeq (sIf (bV (eBin gEq (eV 1) (eC (.int 4))))
  (sRet (eUn gIntT (eBin gAdd (eC (.str "1")) (eBin gMulT (eC (.str "0")) (eBin gAdd (eC (.int 1)) (eCall g__law_take (aR 0 (aV (eC (.int 60)) aNil))))))))
  sNil)
  (sSeq (sIf (bV (eBin gEq (eV 1) (eC (.int 5))))
  (sRet (eBin gMul (eBin gIdx (eFz (lLst (lCons (eC (.int 2)) (lCons (eC (.int 6)) (lCons (eC (.int 12)) (lCons (eC (.int 60)) (lCons (eC (.int 64)) (lCons (eC (.int 210)) lNil)))))))) (eCall g__law_take (aR 0 (aV (eC (.int 6)) aNil)))) (eBin gAdd (eC (.int 1)) (eCall g__law_take (aR 0 (aV (eBin gPow (eC (.int 10)) (eC (.int 57))) aNil))))))
  sNil)
  (sSeq (sIf (bV (eBin gEq (eV 1) (eC (.int 6))))
  (sRet (eBin gSub (eBin gPow (eC (.int 10)) (eC (.int 60))) (eCall g__law_take (aR 0 (aV (eC (.int 3)) aNil)))))
  sNil)
  (sRet (eBin gAdd (eC (.int 2)) (eCall g__law_take (aR 0 (aV (eBin gPow (eC (.int 10)) (eC (.int 18))) aNil)))))))))))
def g__law_many : Gf := fnRun 2 1 b__law_many
def b__law_gear : Sf :=
  (sSeq (sSet 2 (eCall g__law_take (aR 0 (aV (eC (.int 5)) aNil))))
  (sSeq (sIf (bV (eBin gEq (eV 2) (eC (.int 0))))
  (sRet (eCall g__law_take (aR 0 (aV (eV 1) aNil))))
  sNil)
  (sSeq (sIf (bV (eBin gEq (eV 2) (eC (.int 1))))
  (sRet (eBin gMod (eBin gIdx (eFz (lLst (lCons (eC (.int 0)) (lCons (eC (.int 1)) (lCons (eC (.int 2)) (lCons (eC (.int 3)) (lCons (eBin gSub (eV 1) (eC (.int 1))) (lCons (eBin gDiv (eV 1) (eC (.int 2))) lNil)))))))) (eCall g__law_take (aR 0 (aV (eC (.int 6)) aNil)))) (eV 1)))
  sNil)
  (sSeq (sIf (bV (eBin gEq (eV 2) (eC (.int 2))))
  (sRet (eBin gMod (eBin gAdd (eC (.int 1)) (eCall g__law_take (aR 0 (aV (eC (.int 12)) aNil)))) (eV 1)))
  sNil)
  (sSeq (sIf (bV (eBin gEq (eV 2) (eC (.int 3))))
  (sRet (eBin gMod (eBin gMul (eBin gIdx (eFz (lLst (lCons (eC (.int 2)) (lCons (eC (.int 3)) (lCons (eC (.int 4)) (lCons (eC (.int 5)) (lCons (eC (.int 6)) (lCons (eC (.int 10)) (lCons (eC (.int 12)) lNil))))))))) (eCall g__law_take (aR 0 (aV (eC (.int 7)) aNil)))) (eCall g__law_take (aR 0 (aV (eV 1) aNil)))) (eV 1)))
  sNil)
  (sRet (eBin gMod (eBin gSub (eBin gSub (eC (.int 0)) (eC (.int 1))) (eCall g__law_take (aR 0 (aV (eC (.int 12)) aNil)))) (eV 1))))))))
def g__law_gear : Gf := fnRun 3 2 b__law_gear
def b__law_start : Sf :=
  (sSeq (sSet 2 (eCall g__law_take (aR 0 (aV (eC (.int 4)) aNil))))
  (sSeq (sIf (bV (eBin gEq (eV 2) (eC (.int 0))))
  (sRet (eC (.int 0)))
  sNil)
  (sSeq (sIf (bV (eBin gEq (eV 2) (eC (.int 1))))
  (sRet (eBin gMul (eBin gDiv (eV 1) (eC (.int 2))) (eCall g__law_take (aR 0 (aV (eC (.int 2)) aNil)))))
  sNil)
  (sRet (eCall g__law_take (aR 0 (aV (eV 1) aNil)))))))
def g__law_start : Gf := fnRun 3 2 b__law_start
def b__law_looks : Sf :=
  (sSeq (sSet 3 (eCall g__law_take (aR 0 (aV (eC (.int 26)) aNil))))
  (sSeq (sSet 4 (eBin gIdx (eFz (lLst (lCons (eC (.int 1)) (lCons (eC (.int 3)) (lCons (eC (.int 5)) (lCons (eC (.int 7)) (lCons (eC (.int 9)) (lCons (eC (.int 11)) (lCons (eC (.int 15)) (lCons (eC (.int 17)) (lCons (eC (.int 19)) (lCons (eC (.int 21)) (lCons (eC (.int 23)) (lCons (eC (.int 25)) lNil)))))))))))))) (eCall g__law_take (aR 0 (aV (eC (.int 12)) aNil)))))
  (sSeq (sSetO 5 (lComp (lRng1 (eV 1)) [7] (tN 7) bYes (eBin gIdx (eC (.str "abcdefghijklmnopqrstuvwxyz")) (eBin gMod (eBin gAdd (eV 3) (eBin gMul (eV 4) (eV 7))) (eC (.int 26))))))
  (sSeq (sSet 6 (eCall g__law_order (aR 0 (aV (eV 1) aNil))))
  (sSeq (sIf (bAnd (bV (eBin gGt (eV 2) (eC (.int 0)))) (bV (eBin gGt (eV 1) (eC (.int 1)))))
  (sPutI 5 (eBin gIdx (eV 6) (eC (.int 1))) (eBinV gIdx 5 (eBin gIdx (eV 6) (eC (.int 0)))))
  sNil)
  (sSeq (sIf (bAnd (bV (eBin gEq (eV 2) (eC (.int 2)))) (bV (eBin gGt (eV 1) (eC (.int 3)))))
  (sPutI 5 (eBin gIdx (eV 6) (eC (.int 3))) (eBinV gIdx 5 (eBin gIdx (eV 6) (eC (.int 2)))))
  sNil)
  (sSeq (sIf (bAnd (bV (eBin gEq (eV 2) (eC (.int 3)))) (bV (eBin gGt (eV 1) (eC (.int 2)))))
  (sPutI 5 (eBin gIdx (eV 6) (eC (.int 2))) (eBinV gIdx 5 (eBin gIdx (eV 6) (eC (.int 0)))))
  sNil)
  (sFrz 5 (sRet (eV 5))))))))))
def g__law_looks : Gf := fnRun 8 3 b__law_looks
def b__law_clock_of : Sf :=
  (sSeq (sSet 2 (eBin gAdd (eC (.int 1)) (eCall g__law_take (aR 0 (aV (eC (.int 5)) aNil)))))
  (sSeq (sSet 3 (eBin gIdx (eFz (lLst (lCons (eC (.int 0)) (lCons (eC (.int 0)) (lCons (eC (.int 1)) (lCons (eC (.int 1)) (lCons (eC (.int 2)) (lCons (eC (.int 3)) lNil)))))))) (eCall g__law_take (aR 0 (aV (eC (.int 6)) aNil)))))
  (sSeq (sSet 4 (eCall g__law_looks (aR 0 (aV (eV 2) (aV (eV 3) aNil)))))
  (sSeq (sSetO 5 (lLst lNil))
  (sSeq (sFor (lRng1 (eV 2)) (tN 6)
  (sSeq (sSet 7 (eCall g__law_gear (aR 0 (aV (eV 1) aNil))))
  (sExpr (eMut mAppend 5 (eTup (lCons (eV 7) (lCons (eCall g__law_start (aR 0 (aV (eV 1) aNil))) (lCons (eBin gIdx (eV 4) (eV 6)) lNil))))))))
  (sSeq (sSet 8 (eAnd (eBin gLt (eV 3) (eC (.int 2))) (eBin gEq (eCall g__law_take (aR 0 (aV (eC (.int 3)) aNil))) (eC (.int 0)))))
  (sRet (eTup (lCons (eV 1) (lCons (eUn gTuple (eO 5)) (lCons (eBin gEq (eCall g__law_take (aR 0 (aV (eC (.int 3)) aNil))) (eC (.int 0))) (lCons (eV 8) lNil))))))))))))
def g__law_clock_of : Gf := fnRun 9 2 b__law_clock_of
def b__law_rows : Sf :=
  (sSeq (sAsg (eV 1) (tT 4 (gsC (tN 2) (gsC (tN 3) (gsC (tN 4) (gsC (tN 5) gsN))))))
  (sSeq (sSetO 6 (lAddE (eBin gAdd (eFz (lLst (lCons (eBin gAdd (eC (.str "dial ")) (eUn gStr (eV 2))) lNil))) (eBin gMul (eFz (lLst (lCons (eC (.str "blank")) lNil))) (eUn gInt (eV 4)))) (eBin gMul (eFz (lLst (lCons (eC (.str "mirror")) lNil))) (eUn gInt (eV 5)))))
  (sSeq (sFor (lIt (eV 3)) (tT 3 (gsC (tN 7) (gsC (tN 8) (gsC (tN 9) gsN))))
  (sSeq (sSet 10 (eFz (lLst (lCons (eBin gAdd (eV 7) (eBin gMul (eV 2) (eCall g__law_take (aR 0 (aV (eBin gDiv (eBin gPow (eC (.int 10)) (eC (.int 61))) (eV 2)) aNil))))) (lCons (eBin gAdd (eV 8) (eBin gMul (eV 2) (eCall g__law_take (aR 0 (aV (eBin gDiv (eBin gPow (eC (.int 10)) (eC (.int 61))) (eV 2)) aNil))))) lNil)))))
  (sExpr (eMut mAppend 6 (eBin gAdd (eBin gAdd (eBin gAdd (eBin gAdd (eBin gAdd (eC (.str "hand ")) (eUn gStr (eBin gIdx (eV 10) (eC (.int 0))))) (eC (.str " "))) (eUn gStr (eBin gIdx (eV 10) (eC (.int 1))))) (eC (.str " "))) (eV 9))))))
  (sFrz 6 (sRet (eV 6))))))
def g__law_rows : Gf := fnRun 11 2 b__law_rows
def b__law_whole : Sf :=
  (sRet (eAnd (eUn (gIsi .int) (eV 0)) (eNot (eUn (gIsi .bool) (eV 0)))))
def g__law_whole : Gf := fnRun 1 1 b__law_whole
def b__law_form : Sf :=
  (sSeq (sIf (bOr (bNot (bV (eUn (gIsi .tup) (eV 0)))) (bOr (bV (eBin gNe (eUn gLen (eV 0)) (eC (.int 4)))) (bOr (bNot (bV (eCall g__law_whole (aV (eBin gIdx (eV 0) (eC (.int 0))) aNil)))) (bNot (bV (eUn (gIsi .tup) (eBin gIdx (eV 0) (eC (.int 1)))))))))
  (sRet (eC (.bool false)))
  sNil)
  (sSeq (sFor (lIt (eBin gIdx (eV 0) (eC (.int 1)))) (tN 1)
  (sSeq (sIf (bOr (bNot (bV (eUn (gIsi .tup) (eV 1)))) (bOr (bV (eBin gNe (eUn gLen (eV 1)) (eC (.int 3)))) (bOr (bNot (bV (eCall g__law_whole (aV (eBin gIdx (eV 1) (eC (.int 0))) aNil)))) (bNot (bV (eCall g__law_whole (aV (eBin gIdx (eV 1) (eC (.int 1))) aNil)))))))
  (sRet (eC (.bool false)))
  sNil)
  (sIf (bOr (bNot (bV (eUn (gIsi .str) (eBin gIdx (eV 1) (eC (.int 2)))))) (bOr (bNot (bV (eBin gLe (eC (.int 0)) (eUn gMinT (eSl (eV 1) pNo (pE (eC (.int 2)))))))) (bV (eBin gGe (eUn gMaxT (eSl (eV 1) pNo (pE (eC (.int 2))))) (eBin gIdx (eV 0) (eC (.int 0)))))))
  (sRet (eC (.bool false)))
  sNil)))
  (sRet (eAnd (eUn (gIsi .bool) (eBin gIdx (eV 0) (eC (.int 2)))) (eUn (gIsi .bool) (eBin gIdx (eV 0) (eC (.int 3))))))))
def g__law_form : Gf := fnRun 2 1 b__law_form
def b_law (w : World) : Sf :=
  (sSeq (sFor (lEnum (eCall g__law_cells (aO 0 (aV (eC (.int 8)) aNil)))) (tT 2 (gsC (tN 1) (gsC (tN 2) gsN)))
  (sSeq (sSetO 3 (lCall g__law_pot (aV (eV 2) (aV (eV 1) aNil))))
  (sSeq (sSet 4 (eCall g__law_clock_of (aR 3 (aV (eCall g__law_many (aR 3 aNil)) aNil))))
  (sSeq (sAsg (eV 4) (tT 4 (gsC (tN 5) (gsC (tN 6) (gsC (tN 7) (gsC (tN 8) gsN))))))
  (sSeq (sSetO 9 (lLst (lCons (eBin gAdd (eC (.str "dial ")) (eUn gStr (eV 5))) lNil)))
  (sSeq (sIf (bV (eV 7))
  (sExpr (eMut mAppend 9 (eC (.str "blank"))))
  sNil)
  (sSeq (sIf (bV (eV 8))
  (sExpr (eMut mAppend 9 (eC (.str "mirror"))))
  sNil)
  (sSeq (sFor (lIt (eV 6)) (tT 3 (gsC (tN 10) (gsC (tN 11) (gsC (tN 12) gsN))))
  (sExpr (eMut mAppend 9 (eBin gAdd (eBin gAdd (eBin gAdd (eBin gAdd (eBin gAdd (eC (.str "hand ")) (eUn gStr (eV 10))) (eC (.str " "))) (eUn gStr (eV 11))) (eC (.str " "))) (eV 12)))))
  (sSeq (sSet 13 (eCall g_clock_text (aV (eV 4) aNil)))
  (sSeq (sIf (bOr (bNot (bV (eUn (gIsi .str) (eV 13)))) (bV (eBin gNe (eV 13) (eBin gJoin (eC (.str "\n")) (eO 9)))))
  (sRet (eC (.bool false)))
  sNil)
  (sFor (lIt (eFz (lLst (lCons (eV 13) (lCons (eBin gJoin (eC (.str "\n")) (eCall g__law_rows (aR 3 (aV (eV 4) aNil)))) (lCons (eV 13) lNil)))))) (tN 14)
  (sSeq (sSet 15 (eCall (g_read_clock w) (aV (eV 14) aNil)))
  (sIf (bOr (bNot (bV (eCall g__law_form (aV (eV 15) aNil)))) (bV (eBin gNe (eV 15) (eV 4))))
  (sRet (eC (.bool false)))
  sNil)))))))))))))
  (sRet (eC (.bool true))))
def g_law (w : World) : Gf := fnRun 16 1 (b_law w)
end
/-! ### what the top has left -/
structure Tx (K : Frg) (mg : Str → Option Value) where
  f_is_look : Addr
  d_is_look : FuncData
  F_is_look : Fun K "is_look" "is_look" s_is_look f_is_look d_is_look
  m_is_look : mg "is_look" = some (.ref f_is_look)
  b_is_look : Binds K d_is_look ["text"] []
  f_many_readings : Addr
  d_many_readings : FuncData
  F_many_readings : Fun K "many_readings" "many_readings" s_many_readings f_many_readings d_many_readings
  m_many_readings : mg "many_readings" = some (.ref f_many_readings)
  b_many_readings : Binds K d_many_readings ["hands", "mirror"] []
  f_made_clock : Addr
  d_made_clock : FuncData
  F_made_clock : Fun K "made_clock" "made_clock" s_made_clock f_made_clock d_made_clock
  m_made_clock : mg "made_clock" = some (.ref f_made_clock)
  b_made_clock : Binds K d_made_clock ["many", "hands", "blank", "mirror"] []
  f_clock_text : Addr
  d_clock_text : FuncData
  F_clock_text : Fun K "clock_text" "clock_text" s_clock_text f_clock_text d_clock_text
  m_clock_text : mg "clock_text" = some (.ref f_clock_text)
  b_clock_text : Binds K d_clock_text ["clock"] []
  f_is_number : Addr
  d_is_number : FuncData
  F_is_number : Fun K "is_number" "is_number" s_is_number f_is_number d_is_number
  m_is_number : mg "is_number" = some (.ref f_is_number)
  b_is_number : Binds K d_is_number ["word"] []
  f_is_hand : Addr
  d_is_hand : FuncData
  F_is_hand : Fun K "is_hand" "is_hand" s_is_hand f_is_hand d_is_hand
  m_is_hand : mg "is_hand" = some (.ref f_is_hand)
  b_is_hand : Binds K d_is_hand ["words"] []
  f_row_of_dial : Addr
  d_row_of_dial : FuncData
  F_row_of_dial : Fun K "row_of_dial" "row_of_dial" s_row_of_dial f_row_of_dial d_row_of_dial
  m_row_of_dial : mg "row_of_dial" = some (.ref f_row_of_dial)
  b_row_of_dial : Binds K d_row_of_dial ["words"] []
  f_read_clock : Addr
  d_read_clock : FuncData
  F_read_clock : Fun K "read_clock" "read_clock" s_read_clock f_read_clock d_read_clock
  m_read_clock : mg "read_clock" = some (.ref f_read_clock)
  b_read_clock : Binds K d_read_clock ["text"] []
  f__law_pot : Addr
  d__law_pot : FuncData
  F__law_pot : Fun K "_law_pot" "_law_pot" s__law_pot f__law_pot d__law_pot
  m__law_pot : mg "_law_pot" = some (.ref f__law_pot)
  b__law_pot : Binds K d__law_pot ["cell", "k"] []
  f__law_take : Addr
  d__law_take : FuncData
  F__law_take : Fun K "_law_take" "_law_take" s__law_take f__law_take d__law_take
  m__law_take : mg "_law_take" = some (.ref f__law_take)
  b__law_take : Binds K d__law_take ["pot", "many"] []
  f__law_folded : Addr
  d__law_folded : FuncData
  F__law_folded : Fun K "_law_folded" "_law_folded" s__law_folded f__law_folded d__law_folded
  m__law_folded : mg "_law_folded" = some (.ref f__law_folded)
  b__law_folded : Binds K d__law_folded ["script", "many"] []
  f__law_cells : Addr
  d__law_cells : FuncData
  F__law_cells : Fun K "_law_cells" "_law_cells" s__law_cells f__law_cells d__law_cells
  m__law_cells : mg "_law_cells" = some (.ref f__law_cells)
  b__law_cells : Binds K d__law_cells ["script", "most"] []
  f__law_order : Addr
  d__law_order : FuncData
  F__law_order : Fun K "_law_order" "_law_order" s__law_order f__law_order d__law_order
  m__law_order : mg "_law_order" = some (.ref f__law_order)
  b__law_order : Binds K d__law_order ["pot", "count"] []
  f__law_many : Addr
  d__law_many : FuncData
  F__law_many : Fun K "_law_many" "_law_many" s__law_many f__law_many d__law_many
  m__law_many : mg "_law_many" = some (.ref f__law_many)
  b__law_many : Binds K d__law_many ["pot"] []
  f__law_gear : Addr
  d__law_gear : FuncData
  F__law_gear : Fun K "_law_gear" "_law_gear" s__law_gear f__law_gear d__law_gear
  m__law_gear : mg "_law_gear" = some (.ref f__law_gear)
  b__law_gear : Binds K d__law_gear ["pot", "many"] []
  f__law_start : Addr
  d__law_start : FuncData
  F__law_start : Fun K "_law_start" "_law_start" s__law_start f__law_start d__law_start
  m__law_start : mg "_law_start" = some (.ref f__law_start)
  b__law_start : Binds K d__law_start ["pot", "many"] []
  f__law_looks : Addr
  d__law_looks : FuncData
  F__law_looks : Fun K "_law_looks" "_law_looks" s__law_looks f__law_looks d__law_looks
  m__law_looks : mg "_law_looks" = some (.ref f__law_looks)
  b__law_looks : Binds K d__law_looks ["pot", "count", "way"] []
  f__law_clock_of : Addr
  d__law_clock_of : FuncData
  F__law_clock_of : Fun K "_law_clock_of" "_law_clock_of" s__law_clock_of f__law_clock_of d__law_clock_of
  m__law_clock_of : mg "_law_clock_of" = some (.ref f__law_clock_of)
  b__law_clock_of : Binds K d__law_clock_of ["pot", "many"] []
  f__law_rows : Addr
  d__law_rows : FuncData
  F__law_rows : Fun K "_law_rows" "_law_rows" s__law_rows f__law_rows d__law_rows
  m__law_rows : mg "_law_rows" = some (.ref f__law_rows)
  b__law_rows : Binds K d__law_rows ["pot", "clock"] []
  f__law_whole : Addr
  d__law_whole : FuncData
  F__law_whole : Fun K "_law_whole" "_law_whole" s__law_whole f__law_whole d__law_whole
  m__law_whole : mg "_law_whole" = some (.ref f__law_whole)
  b__law_whole : Binds K d__law_whole ["thing"] []
  f__law_form : Addr
  d__law_form : FuncData
  F__law_form : Fun K "_law_form" "_law_form" s__law_form f__law_form d__law_form
  m__law_form : mg "_law_form" = some (.ref f__law_form)
  b__law_form : Binds K d__law_form ["clock"] []
  f_law : Addr
  d_law : FuncData
  F_law : Fun K "law" "law" s_law f_law d_law
  m_law : mg "law" = some (.ref f_law)
  b_law : Binds K d_law ["script"] []
  t_FIGURES : Tok
  m_FIGURES : mg "FIGURES" = some (.str "0123456789" t_FIGURES)
  t_LETTERS : Tok
  m_LETTERS : mg "LETTERS" = some (.str "abcdefghijklmnopqrstuvwxyz" t_LETTERS)
  t_MOST_FIGURES : Tok
  m_MOST_FIGURES : mg "MOST_FIGURES" = some (.int (61) t_MOST_FIGURES)
  t_MOST_HANDS_clocks : Tok
  m_MOST_HANDS_clocks : mg "MOST_HANDS_clocks" = some (.int (5) t_MOST_HANDS_clocks)
  t_MOST_HANDS_texts : Tok
  m_MOST_HANDS_texts : mg "MOST_HANDS_texts" = some (.int (5) t_MOST_HANDS_texts)
  t_MOST_MARKS : Tok
  m_MOST_MARKS : mg "MOST_MARKS" = some (.int (1000000000000000000000000000000000000000000000000000000000000) t_MOST_MARKS)
  t_MOST_READINGS : Tok
  m_MOST_READINGS : mg "MOST_READINGS" = some (.int (6) t_MOST_READINGS)
  t_SMALL : Tok
  m_SMALL : mg "SMALL" = some (.str "abcdefghijklmnopqrstuvwxyz" t_SMALL)
  z_all : mg "all" = none
  z_bool : mg "bool" = none
  z_enumerate : mg "enumerate" = none
  z_int : mg "int" = none
  z_isinstance : mg "isinstance" = none
  z_len : mg "len" = none
  z_list : mg "list" = none
  z_max : mg "max" = none
  z_min : mg "min" = none
  z_range : mg "range" = none
  z_str : mg "str" = none
  z_tuple : mg "tuple" = none
section
variable {P : Program} {w : World} {K : Frg} {mg : Str → Option Value} {base : Heap} (T : Tx K mg)
include T
theorem ok_is_look : FnOk P w K mg base CX0 1 T.f_is_look T.d_is_look ["text"] (spF K g_is_look) :=
  fn_okE (k := 0) b_is_look 1 1 T.F_is_look sc_is_look rfl rfl rfl fun cdv A outer s H E hr =>
  (xss_one (xs_ret (xe_and (xe_cmp (op_eqD hr.units) gq_eq (xe_len T.z_len (XE.xo (xv 0))) xe_int (nomark _)) (xe_one (xe_in (hu65 hr) (xv 0) (XE.xo (xe_glob (v := .str _) (by rfl) T.m_LETTERS ⟨_, rfl⟩ (fun _ => .str _))))))))
theorem ok_many_readings : FnOk P w K mg base CX0 1 T.f_many_readings T.d_many_readings ["hands", "mirror"] (spF K (g_many_readings w)) :=
  fn_okE (k := 0) (b_many_readings w) 7 2 T.F_many_readings sc_many_readings rfl rfl rfl fun cdv A outer s H E hr =>
  (xss_cons (xs_set 2 (xe_add xe_int (xe_int1 T.z_int (XE.xo (xv 1)))) sc_many_readings.nd)
  (xss_cons (xs_dnew 3 sc_many_readings.nd)
  (xss_cons (xs_for PassesOwn.never (xi_seq (xv 0)) (xg_tup (xgs_cons (xg_name 4 sc_many_readings.nd) (xgs_cons (xg_name 5 sc_many_readings.nd) (xgs_cons (xg_name 6 sc_many_readings.nd) xgs_nil))))
  (xss_cons (xs_dput 3 (hu65 hr) (xe_add (xe_dget2 3 (hu65 hr) (xv 6) xe_int) xe_int) (xv 6))
  (xss_one (xs_set 2 (xe_mul (xv 2) (xe_didx 3 (hu65 hr) (xv 6))) sc_many_readings.nd))))
  (xss_one (xs_ret (xv 2))))))
theorem ok_made_clock : FnOk P w K mg base CX0 2 T.f_made_clock T.d_made_clock ["many", "hands", "blank", "mirror"] (spF K (g_made_clock w)) :=
  fn_okE (k := 1) (b_made_clock w) 8 4 T.F_made_clock sc_made_clock rfl rfl rfl fun cdv A outer s H E hr =>
  (xss_cons (xs_if (xb_w (xw_or (xb_not (xb_chain op_le gq_le op_le gq_le xe_int (xv 0) (xe_glob (v := .int _) (by rfl) T.m_MOST_MARKS ⟨_, rfl⟩ (fun _ => .int _)))) (xw_or1 (xb_not (xb_chain op_le gq_le op_le gq_le xe_int (xe_len T.z_len (XE.xo (xv 1))) (xe_glob (v := .int _) (by rfl) T.m_MOST_HANDS_clocks ⟨_, rfl⟩ (fun _ => .int _)))))))
  (xss_one xs_never)
  xss_nil)
  (xss_cons (xs_if (xb_not (xb_val (xe_all T.z_all (XE.xo (XN.xe (xn_comp (own := [("gear", 5), ("start", 6), ("look", 7)]) (xi_seq (xv 1)) sc_made_clock.nd (blkOk_by (N := N_made_clock) (sc := defScope s_made_clock) (by decide +kernel)) (fun _ _ _ _ _ => (xg_tup (xgs_cons (xg_name 5 sc_made_clock.nd) (xgs_cons (xg_name 6 sc_made_clock.nd) (xgs_cons (xg_name 7 sc_made_clock.nd) xgs_nil))))) (fun _ _ _ _ _ => xts_nil) (fun _ _ _ _ _ => (xe_call ((ok_is_look T).mono (by decide)) hr T.m_is_look T.F_is_look.kp T.b_is_look (xa_v (xv 7) xa_nil)))))))))
  (xss_one xs_never)
  xss_nil)
  (xss_cons (xs_if (xb_cmp op_gt gq_gt (xe_call ((ok_many_readings T).mono (by decide)) hr T.m_many_readings T.F_many_readings.kp T.b_many_readings (xa_v (xv 1) (xa_v (xv 3) xa_nil))) (xe_glob (v := .int _) (by rfl) T.m_MOST_READINGS ⟨_, rfl⟩ (fun _ => .int _)) (nomark _))
  (xss_one xs_never)
  xss_nil)
  (xss_cons (xs_set 4 (xe_tuple T.z_tuple (XE.xo (XN.xe (xn_comp (own := [("gear", 5), ("start", 6), ("look", 7)]) (xi_seq (xv 1)) sc_made_clock.nd (blkOk_by (N := N_made_clock) (sc := defScope s_made_clock) (by decide +kernel)) (fun _ _ _ _ _ => (xg_tup (xgs_cons (xg_name 5 sc_made_clock.nd) (xgs_cons (xg_name 6 sc_made_clock.nd) (xgs_cons (xg_name 7 sc_made_clock.nd) xgs_nil))))) (fun _ _ _ _ _ => xts_nil) (fun _ _ _ _ _ => (xe_tup (xl_cons (xe_mod (xv 5) (xv 0)) (xl_cons (xe_mod (xv 6) (xv 0)) (xl_cons (xv 7) xl_nil))))))))) sc_made_clock.nd)
  (xss_one (xs_ret (xe_tup (xl_cons (xv 0) (xl_cons (xv 4) (xl_cons (xv 2) (xl_cons (xv 3) xl_nil)))))))))))
theorem ok_clock_text : FnOk P w K mg base CX0 1 T.f_clock_text T.d_clock_text ["clock"] (spF K g_clock_text) :=
  fn_okE (k := 0) b_clock_text 9 1 T.F_clock_text sc_clock_text rfl rfl rfl fun cdv A outer s H E hr =>
  (xss_cons (xs_asg (xv 0) (xg_tup (xgs_cons (xg_name 1 sc_clock_text.nd) (xgs_cons (xg_name 2 sc_clock_text.nd) (xgs_cons (xg_name 3 sc_clock_text.nd) (xgs_cons (xg_name 4 sc_clock_text.nd) xgs_nil))))))
  (xss_cons (xs_setO 5 (xn_addE (xe_add (XN.xe (xn_lst (xl_cons (xe_add xe_str (xe_str1 T.z_str (XE.xo (xv 1)))) xl_nil))) (xe_mul (XN.xe (xn_lst (xl_cons xe_str xl_nil))) (xe_int1 T.z_int (XE.xo (xv 3))))) (xe_mul (XN.xe (xn_lst (xl_cons xe_str xl_nil))) (xe_int1 T.z_int (XE.xo (xv 4))))) sc_clock_text.nd)
  (xss_cons (xs_for PassesOwn.never (xi_seq (xv 2)) (xg_tup (xgs_cons (xg_name 6 sc_clock_text.nd) (xgs_cons (xg_name 7 sc_clock_text.nd) (xgs_cons (xg_name 8 sc_clock_text.nd) xgs_nil))))
  (xss_one (xs_expr (xe_mut 5 PySem.F.slot_list_append PySem.F.type_list_append mt_append gm_append (xe_add (xe_add (xe_add (xe_add (xe_add xe_str (xe_str1 T.z_str (XE.xo (xv 6)))) xe_str) (xe_str1 T.z_str (XE.xo (xv 7)))) xe_str) (xv 8))))))
  (xss_one (xs_ret (xe_join xe_str (xvo 5)))))))
theorem ok_is_number : FnOk P w K mg base CX0 1 T.f_is_number T.d_is_number ["word"] (spF K g_is_number) :=
  fn_okE (k := 0) b_is_number 2 1 T.F_is_number sc_is_number rfl rfl rfl fun cdv A outer s H E hr =>
  (xss_cons (xs_if (xb_w (xw_or (xb_cmp (op_eqD hr.units) gq_eq (xv 0) xe_str (nomark _)) (xw_or (xb_cmp op_gt gq_gt (xe_len T.z_len (XE.xo (xv 0))) (xe_glob (v := .int _) (by rfl) T.m_MOST_FIGURES ⟨_, rfl⟩ (fun _ => .int _)) (nomark _)) (xw_or1 (xb_w (xw_and (xb_cmp (op_eqD hr.units) gq_eq (xe_idx (xv 0) xe_int) xe_str (nomark _)) (xw_and1 (xb_cmp op_gt gq_gt (xe_len T.z_len (XE.xo (xv 0))) xe_int (nomark _)))))))))
  (xss_one (xs_ret xe_bl))
  xss_nil)
  (xss_one (xs_ret (xe_all T.z_all (XE.xo (XN.xe (xn_comp (own := [("sign", 1)]) (xi_seq (xv 0)) sc_is_number.nd (blkOk_by (N := N_is_number) (sc := defScope s_is_number) (by decide +kernel)) (fun _ _ _ _ _ => (xg_name 1 sc_is_number.nd)) (fun _ _ _ _ _ => xts_nil) (fun _ _ _ _ _ => (xe_in (hu65 hr) (xv 1) (XE.xo (xe_glob (v := .str _) (by rfl) T.m_FIGURES ⟨_, rfl⟩ (fun _ => .str _))))))))))))
theorem ok_is_hand : FnOk P w K mg base CX0 2 T.f_is_hand T.d_is_hand ["words"] (spF K g_is_hand) :=
  fn_okE (k := 1) b_is_hand 1 1 T.F_is_hand sc_is_hand rfl rfl rfl fun cdv A outer s H E hr =>
  (xss_cons (xs_if (xb_w (xw_or (xb_cmp (op_neD hr.units) gq_ne (xe_len T.z_len (XE.xo (xv 0))) xe_int (nomark _)) (xw_or (xb_cmp (op_neD hr.units) gq_ne (xe_idx (xv 0) xe_int) xe_str (nomark _)) (xw_or (xb_not (xb_val (xe_call ((ok_is_number T).mono (by decide)) hr T.m_is_number T.F_is_number.kp T.b_is_number (xa_v (xe_idx (xv 0) xe_int) xa_nil)))) (xw_or1 (xb_not (xb_val (xe_call ((ok_is_number T).mono (by decide)) hr T.m_is_number T.F_is_number.kp T.b_is_number (xa_v (xe_idx (xv 0) xe_int) xa_nil)))))))))
  (xss_one (xs_ret xe_bl))
  xss_nil)
  (xss_one (xs_ret (xe_and (xe_cmp (op_eqD hr.units) gq_eq (xe_len T.z_len (XE.xo (xe_idx (xv 0) xe_int))) xe_int (nomark _)) (xe_one (xe_in (hu65 hr) (xe_idx (xv 0) xe_int) (XE.xo (xe_glob (v := .str _) (by rfl) T.m_SMALL ⟨_, rfl⟩ (fun _ => .str _)))))))))
theorem ok_row_of_dial : FnOk P w K mg base CX0 2 T.f_row_of_dial T.d_row_of_dial ["words"] (spF K g_row_of_dial) :=
  fn_okE (k := 1) b_row_of_dial 1 1 T.F_row_of_dial sc_row_of_dial rfl rfl rfl fun cdv A outer s H E hr =>
  (xss_one (xs_ret (xe_and (xe_cmp (op_eqD hr.units) gq_eq (xe_len T.z_len (XE.xo (xv 0))) xe_int (nomark _)) (xe_and (xe_cmp (op_eqD hr.units) gq_eq (xe_idx (xv 0) xe_int) xe_str (nomark _)) (xe_one (xe_call ((ok_is_number T).mono (by decide)) hr T.m_is_number T.F_is_number.kp T.b_is_number (xa_v (xe_idx (xv 0) xe_int) xa_nil)))))))
theorem ok_read_clock : FnOk P w K mg base CX0 3 T.f_read_clock T.d_read_clock ["text"] (spF K (g_read_clock w)) :=
  fn_okE (k := 2) (b_read_clock w) 8 1 T.F_read_clock sc_read_clock rfl rfl rfl fun cdv A outer s H E hr =>
  (xss_cons (xs_set 1 (XN.xe (xn_split (xv 0) xe_str)) sc_read_clock.nd)
  (xss_cons (xs_if (xb_not (xb_val (xe_call ((ok_row_of_dial T).mono (by decide)) hr T.m_row_of_dial T.F_row_of_dial.kp T.b_row_of_dial (xa_v (XN.xe (xn_split (xe_idx (xv 1) xe_int) xe_str)) xa_nil))))
  (xss_one xs_never)
  xss_nil)
  (xss_cons (xs_set 2 xe_int sc_read_clock.nd)
  (xss_cons (xs_setO 3 (xn_lst xl_nil) sc_read_clock.nd)
  (xss_cons (xs_for PassesOwn.never (xi_seq (XN.xe (xn_lst (xl_cons xe_str (xl_cons xe_str xl_nil))))) (xg_name 4 sc_read_clock.nd)
  (xss_cons (xs_expr (xe_mut 3 PySem.F.slot_list_append PySem.F.type_list_append mt_append gm_append (xe_and (xe_cmp op_lt gq_lt (xv 2) (xe_len T.z_len (XE.xo (xv 1))) (nomark _)) (xe_one (xe_cmp (op_eqD hr.units) gq_eq (xe_idx (xv 1) (xv 2)) (xv 4) (nomark _))))))
  (xss_one (xs_set 2 (xe_add (xv 2) (xe_int1 T.z_int (XE.xo (xe_idxV 3 (xe_neg xe_int))))) sc_read_clock.nd))))
  (xss_cons (xs_setO 5 (xn_lst xl_nil) sc_read_clock.nd)
  (xss_cons (xs_for PassesOwn.never (xi_rng2 (xv 2) (xe_len T.z_len (XE.xo (xv 1))) T.z_range) (xg_name 6 sc_read_clock.nd)
  (xss_cons (xs_set 7 (XN.xe (xn_split (xe_idx (xv 1) (xv 6)) xe_str)) sc_read_clock.nd)
  (xss_cons (xs_if (xb_w (xw_or (xb_not (xb_val (xe_call ((ok_is_hand T).mono (by decide)) hr T.m_is_hand T.F_is_hand.kp T.b_is_hand (xa_v (xv 7) xa_nil)))) (xw_or1 (xb_cmp (op_eqD hr.units) gq_eq (xe_len T.z_len (xvo 5)) (xe_glob (v := .int _) (by rfl) T.m_MOST_HANDS_texts ⟨_, rfl⟩ (fun _ => .int _)) (nomark _)))))
  (xss_one xs_never)
  xss_nil)
  (xss_one (xs_expr (xe_mut 5 PySem.F.slot_list_append PySem.F.type_list_append mt_append gm_append (xe_tup (xl_cons (xe_intT T.z_int (XE.xo (xe_idx (xv 7) xe_int))) (xl_cons (xe_intT T.z_int (XE.xo (xe_idx (xv 7) xe_int))) (xl_cons (xe_idx (xv 7) xe_int) xl_nil))))))))))
  (xss_cons (xs_if (xb_cmpV 5 (op_eqD hr.units) gq_eq (XN.xe (xn_lst xl_nil)) (nomark _))
  (xss_one xs_never)
  xss_nil)
  (xss_one (xs_frz 5 (xs_ret (xe_call ((ok_made_clock T).mono (by decide)) hr T.m_made_clock T.F_made_clock.kp T.b_made_clock (xa_v (xe_intT T.z_int (XE.xo (xe_idx (XN.xe (xn_split (xe_idx (xv 1) xe_int) xe_str)) xe_int))) (xa_v (xv 5) (xa_v (xe_idxV 3 xe_int) (xa_v (xe_idxV 3 xe_int) xa_nil))))))))))))))))
theorem ok__law_pot : FnOk P w K mg base CX0 1 T.f__law_pot T.d__law_pot ["cell", "k"] (spN K g__law_pot) :=
  fn_newE (k := 0) b__law_pot 5 2 T.F__law_pot sc__law_pot rfl rfl rfl fun cdv A outer s H E hr =>
  (xss_cons (xs_set 2 (xe_mod (xe_add (xv 0) (xe_mul xe_int (xe_add (xv 1) xe_int))) xe_int) sc__law_pot.nd)
  (xss_cons (xs_setO 3 (xn_lst (xl_cons xe_int xl_nil)) sc__law_pot.nd)
  (xss_cons (xs_for PassesOwn.never (xi_rng1 xe_int T.z_range) (xg_name 4 sc__law_pot.nd)
  (xss_cons (xs_set 2 (xe_mod (xe_add (xe_add (xe_add (xe_mul (xv 2) (xv 2)) (xe_mul xe_int (xv 2))) (xe_mul xe_int (xv 4))) (xv 1)) xe_int) sc__law_pot.nd)
  (xss_one (xs_put 3 (xe_add (xe_mul (xe_idxV 3 xe_int) xe_int) (xv 2)) xe_int))))
  (xss_cons (xs_if (xb_cmp op_ge gq_ge (xv 0) (xe_pow xe_int xe_int) (nomark _))
  (xss_one (xs_expr (xe_mut 3 PySem.F.slot_list_append PySem.F.type_list_append mt_append gm_append (xv 0))))
  xss_nil)
  (xss_one (xs_retO 3))))))
theorem ok__law_take : FnOk P w K mg base CX0 1 T.f__law_take T.d__law_take ["pot", "many"] (spF K g__law_take) :=
  fn_okE (k := 0) b__law_take 3 2 T.F__law_take sc__law_take rfl rfl rfl fun cdv A outer s H E hr =>
  (xss_cons (xs_set 2 (xe_mod (xe_idxV 0 (xe_neg xe_int)) (xv 1)) sc__law_take.nd)
  (xss_cons (xs_put 0 (xe_div (xe_idxV 0 (xe_neg xe_int)) (xv 1)) (xe_neg xe_int))
  (xss_cons (xs_if (xb_w (xw_and (xb_cmp (op_eqD hr.units) gq_eq (xe_idxV 0 (xe_neg xe_int)) xe_int (nomark _)) (xw_and1 (xb_cmp op_gt gq_gt (xe_len T.z_len (xvo 0)) xe_int (nomark _)))))
  (xss_one (xs_expr (xe_mut0 0 PySem.F.slot_list_pop PySem.F.type_list_pop mt_pop gm_pop)))
  xss_nil)
  (xss_one (xs_ret (xv 2))))))
theorem ok__law_folded : FnOk P w K mg base CX0 1 T.f__law_folded T.d__law_folded ["script", "many"] (spF K g__law_folded) :=
  fn_okE (k := 0) b__law_folded 5 2 T.F__law_folded sc__law_folded rfl rfl rfl fun cdv A outer s H E hr =>
  (xss_cons (xs_setO 2 (xn_mulE (XN.xe (xn_lst (xl_cons xe_int xl_nil))) (xv 1)) sc__law_folded.nd)
  (xss_cons (xs_for PassesOwn.never (xi_enum (XN.xe (xn_sliceV 0 xp_none (xp_some xe_int))) T.z_enumerate) (xg_tup (xgs_cons (xg_name 3 sc__law_folded.nd) (xgs_cons (xg_name 4 sc__law_folded.nd) xgs_nil)))
  (xss_one (xs_put 2 (xe_add (xe_mul (xe_mod (xe_idxV 2 (xe_mod (xv 3) (xv 1))) (xe_pow xe_int xe_int)) xe_int) (xv 4)) (xe_mod (xv 3) (xv 1)))))
  (xss_one (xs_frz 2 (xs_ret (xv 2))))))
theorem ok__law_cells : FnOk P w K mg base CX0 2 T.f__law_cells T.d__law_cells ["script", "most"] (spF K g__law_cells) :=
  fn_okE (k := 1) b__law_cells 2 2 T.F__law_cells sc__law_cells rfl rfl rfl fun cdv A outer s H E hr =>
  (xss_cons (xs_if (xb_cmpV 0 (op_eqD hr.units) gq_eq (XN.xe (xn_lst xl_nil)) (nomark _))
  (xss_one (xs_ret (XN.xe (xn_lst (xl_cons xe_int xl_nil)))))
  xss_nil)
  (xss_one (xs_ret (xe_call ((ok__law_folded T).mono (by decide)) hr T.m__law_folded T.F__law_folded.kp T.b__law_folded (xa_o 0 (xa_v (xe_min2 T.z_min (xv 1) (xe_len T.z_len (xvo 0))) xa_nil))))))
theorem ok__law_order : FnOk P w K mg base CX0 2 T.f__law_order T.d__law_order ["pot", "count"] (spF K g__law_order) :=
  fn_okE (k := 1) b__law_order 4 2 T.F__law_order sc__law_order rfl rfl rfl fun cdv A outer s H E hr =>
  (xss_cons (xs_setO 2 (xn_listRg T.z_list T.z_range (xv 1)) sc__law_order.nd)
  (xss_one (xs_ret (XN.xe (xn_comp (own := [("k", 3)]) (xi_rng1 (xv 1) T.z_range) sc__law_order.nd (blkOk_by (N := N__law_order) (sc := defScope s__law_order) (by decide +kernel)) (fun _ _ _ _ _ => (xg_name 3 sc__law_order.nd)) (fun _ _ _ _ _ => xts_nil) (fun _ _ _ _ _ => (xe_mut 2 PySem.F.slot_list_pop PySem.F.type_list_pop mt_popAt gm_popAt (xe_call ((ok__law_take T).mono (by decide)) hr T.m__law_take T.F__law_take.kp T.b__law_take (xa_r 0 (xa_v (xe_len T.z_len (xvo 2)) xa_nil))))))))))
theorem ok__law_many : FnOk P w K mg base CX0 2 T.f__law_many T.d__law_many ["pot"] (spF K g__law_many) :=
  fn_okE (k := 1) b__law_many 2 1 T.F__law_many sc__law_many rfl rfl rfl fun cdv A outer s H E hr =>
  (xss_cons (xs_set 1 (xe_call ((ok__law_take T).mono (by decide)) hr T.m__law_take T.F__law_take.kp T.b__law_take (xa_r 0 (xa_v xe_int xa_nil))) sc__law_many.nd)
  (xss_cons (xs_if (xb_cmp op_lt gq_lt (xv 1) xe_int (nomark _))
  (xss_one (xs_ret (xe_add xe_int (xe_call ((ok__law_take T).mono (by decide)) hr T.m__law_take T.F__law_take.kp T.b__law_take (xa_r 0 (xa_v (xe_idx (XN.xe (xn_lst (xl_cons xe_int (xl_cons xe_int (xl_cons xe_int xl_nil))))) (xv 1)) xa_nil))))))
  xss_nil)
  (xss_cons (xs_if (xb_cmp (op_eqD hr.units) gq_eq (xv 1) xe_int (nomark _))
  (xss_one (xs_ret (xe_idx (XN.xe (xn_lst (xl_cons xe_int (xl_cons xe_int (xl_cons xe_int (xl_cons xe_int (xl_cons xe_int (xl_cons xe_int (xl_cons (xe_pow xe_int xe_int) (xl_cons (xe_pow xe_int xe_int) xl_nil)))))))))) (xe_call ((ok__law_take T).mono (by decide)) hr T.m__law_take T.F__law_take.kp T.b__law_take (xa_r 0 (xa_v xe_int xa_nil))))))
  xss_nil)
  (xss_cons (xs_if (xb_cmp (op_eqD hr.units) gq_eq (xv 1) xe_int (nomark _))
  (xss_one (xs_ret (xe_intT T.z_int (XE.xo (xe_add xe_str (xe_mulT xe_str (xe_add xe_int (xe_call ((ok__law_take T).mono (by decide)) hr T.m__law_take T.F__law_take.kp T.b__law_take (xa_r 0 (xa_v xe_int xa_nil))))))))))
  xss_nil)
  (xss_cons (xs_if (xb_cmp (op_eqD hr.units) gq_eq (xv 1) xe_int (nomark _))
  (xss_one (xs_ret (xe_mul (xe_idx (XN.xe (xn_lst (xl_cons xe_int (xl_cons xe_int (xl_cons xe_int (xl_cons xe_int (xl_cons xe_int (xl_cons xe_int xl_nil)))))))) (xe_call ((ok__law_take T).mono (by decide)) hr T.m__law_take T.F__law_take.kp T.b__law_take (xa_r 0 (xa_v xe_int xa_nil)))) (xe_add xe_int (xe_call ((ok__law_take T).mono (by decide)) hr T.m__law_take T.F__law_take.kp T.b__law_take (xa_r 0 (xa_v (xe_pow xe_int xe_int) xa_nil)))))))
  xss_nil)
  (xss_cons (xs_if (xb_cmp (op_eqD hr.units) gq_eq (xv 1) xe_int (nomark _))
  (xss_one (xs_ret (xe_sub (xe_pow xe_int xe_int) (xe_call ((ok__law_take T).mono (by decide)) hr T.m__law_take T.F__law_take.kp T.b__law_take (xa_r 0 (xa_v xe_int xa_nil))))))
  xss_nil)
  (xss_one (xs_ret (xe_add xe_int (xe_call ((ok__law_take T).mono (by decide)) hr T.m__law_take T.F__law_take.kp T.b__law_take (xa_r 0 (xa_v (xe_pow xe_int xe_int) xa_nil))))))))))))
theorem ok__law_gear : FnOk P w K mg base CX0 2 T.f__law_gear T.d__law_gear ["pot", "many"] (spF K g__law_gear) :=
  fn_okE (k := 1) b__law_gear 3 2 T.F__law_gear sc__law_gear rfl rfl rfl fun cdv A outer s H E hr =>
  (xss_cons (xs_set 2 (xe_call ((ok__law_take T).mono (by decide)) hr T.m__law_take T.F__law_take.kp T.b__law_take (xa_r 0 (xa_v xe_int xa_nil))) sc__law_gear.nd)
  (xss_cons (xs_if (xb_cmp (op_eqD hr.units) gq_eq (xv 2) xe_int (nomark _))
  (xss_one (xs_ret (xe_call ((ok__law_take T).mono (by decide)) hr T.m__law_take T.F__law_take.kp T.b__law_take (xa_r 0 (xa_v (xv 1) xa_nil)))))
  xss_nil)
  (xss_cons (xs_if (xb_cmp (op_eqD hr.units) gq_eq (xv 2) xe_int (nomark _))
  (xss_one (xs_ret (xe_mod (xe_idx (XN.xe (xn_lst (xl_cons xe_int (xl_cons xe_int (xl_cons xe_int (xl_cons xe_int (xl_cons (xe_sub (xv 1) xe_int) (xl_cons (xe_div (xv 1) xe_int) xl_nil)))))))) (xe_call ((ok__law_take T).mono (by decide)) hr T.m__law_take T.F__law_take.kp T.b__law_take (xa_r 0 (xa_v xe_int xa_nil)))) (xv 1))))
  xss_nil)
  (xss_cons (xs_if (xb_cmp (op_eqD hr.units) gq_eq (xv 2) xe_int (nomark _))
  (xss_one (xs_ret (xe_mod (xe_add xe_int (xe_call ((ok__law_take T).mono (by decide)) hr T.m__law_take T.F__law_take.kp T.b__law_take (xa_r 0 (xa_v xe_int xa_nil)))) (xv 1))))
  xss_nil)
  (xss_cons (xs_if (xb_cmp (op_eqD hr.units) gq_eq (xv 2) xe_int (nomark _))
  (xss_one (xs_ret (xe_mod (xe_mul (xe_idx (XN.xe (xn_lst (xl_cons xe_int (xl_cons xe_int (xl_cons xe_int (xl_cons xe_int (xl_cons xe_int (xl_cons xe_int (xl_cons xe_int xl_nil))))))))) (xe_call ((ok__law_take T).mono (by decide)) hr T.m__law_take T.F__law_take.kp T.b__law_take (xa_r 0 (xa_v xe_int xa_nil)))) (xe_call ((ok__law_take T).mono (by decide)) hr T.m__law_take T.F__law_take.kp T.b__law_take (xa_r 0 (xa_v (xv 1) xa_nil)))) (xv 1))))
  xss_nil)
  (xss_one (xs_ret (xe_mod (xe_sub (xe_sub xe_int xe_int) (xe_call ((ok__law_take T).mono (by decide)) hr T.m__law_take T.F__law_take.kp T.b__law_take (xa_r 0 (xa_v xe_int xa_nil)))) (xv 1)))))))))
theorem ok__law_start : FnOk P w K mg base CX0 2 T.f__law_start T.d__law_start ["pot", "many"] (spF K g__law_start) :=
  fn_okE (k := 1) b__law_start 3 2 T.F__law_start sc__law_start rfl rfl rfl fun cdv A outer s H E hr =>
  (xss_cons (xs_set 2 (xe_call ((ok__law_take T).mono (by decide)) hr T.m__law_take T.F__law_take.kp T.b__law_take (xa_r 0 (xa_v xe_int xa_nil))) sc__law_start.nd)
  (xss_cons (xs_if (xb_cmp (op_eqD hr.units) gq_eq (xv 2) xe_int (nomark _))
  (xss_one (xs_ret xe_int))
  xss_nil)
  (xss_cons (xs_if (xb_cmp (op_eqD hr.units) gq_eq (xv 2) xe_int (nomark _))
  (xss_one (xs_ret (xe_mul (xe_div (xv 1) xe_int) (xe_call ((ok__law_take T).mono (by decide)) hr T.m__law_take T.F__law_take.kp T.b__law_take (xa_r 0 (xa_v xe_int xa_nil))))))
  xss_nil)
  (xss_one (xs_ret (xe_call ((ok__law_take T).mono (by decide)) hr T.m__law_take T.F__law_take.kp T.b__law_take (xa_r 0 (xa_v (xv 1) xa_nil))))))))
theorem ok__law_looks : FnOk P w K mg base CX0 3 T.f__law_looks T.d__law_looks ["pot", "count", "way"] (spF K g__law_looks) :=
  fn_okE (k := 2) b__law_looks 8 3 T.F__law_looks sc__law_looks rfl rfl rfl fun cdv A outer s H E hr =>
  (xss_cons (xs_set 3 (xe_call ((ok__law_take T).mono (by decide)) hr T.m__law_take T.F__law_take.kp T.b__law_take (xa_r 0 (xa_v xe_int xa_nil))) sc__law_looks.nd)
  (xss_cons (xs_set 4 (xe_idx (XN.xe (xn_lst (xl_cons xe_int (xl_cons xe_int (xl_cons xe_int (xl_cons xe_int (xl_cons xe_int (xl_cons xe_int (xl_cons xe_int (xl_cons xe_int (xl_cons xe_int (xl_cons xe_int (xl_cons xe_int (xl_cons xe_int xl_nil)))))))))))))) (xe_call ((ok__law_take T).mono (by decide)) hr T.m__law_take T.F__law_take.kp T.b__law_take (xa_r 0 (xa_v xe_int xa_nil)))) sc__law_looks.nd)
  (xss_cons (xs_setCompO 5 (own := [("k", 7)]) (xi_rng1 (xv 1) T.z_range) sc__law_looks.nd (blkOk_by (N := N__law_looks) (sc := defScope s__law_looks) (by decide +kernel)) (fun _ _ _ _ _ => (xg_name 7 sc__law_looks.nd)) (fun _ _ _ _ _ => xts_nil) (fun _ _ _ _ _ => (xe_idx xe_str (xe_mod (xe_add (xv 3) (xe_mul (xv 4) (xv 7))) xe_int))) (sw_true rfl rfl rfl (by decide +kernel)))
  (xss_cons (xs_set 6 (xe_call ((ok__law_order T).mono (by decide)) hr T.m__law_order T.F__law_order.kp T.b__law_order (xa_r 0 (xa_v (xv 1) xa_nil))) sc__law_looks.nd)
  (xss_cons (xs_if (xb_w (xw_and (xb_cmp op_gt gq_gt (xv 2) xe_int (nomark _)) (xw_and1 (xb_cmp op_gt gq_gt (xv 1) xe_int (nomark _)))))
  (xss_one (xs_put 5 (xe_idxV 5 (xe_idx (xv 6) xe_int)) (xe_idx (xv 6) xe_int)))
  xss_nil)
  (xss_cons (xs_if (xb_w (xw_and (xb_cmp (op_eqD hr.units) gq_eq (xv 2) xe_int (nomark _)) (xw_and1 (xb_cmp op_gt gq_gt (xv 1) xe_int (nomark _)))))
  (xss_one (xs_put 5 (xe_idxV 5 (xe_idx (xv 6) xe_int)) (xe_idx (xv 6) xe_int)))
  xss_nil)
  (xss_cons (xs_if (xb_w (xw_and (xb_cmp (op_eqD hr.units) gq_eq (xv 2) xe_int (nomark _)) (xw_and1 (xb_cmp op_gt gq_gt (xv 1) xe_int (nomark _)))))
  (xss_one (xs_put 5 (xe_idxV 5 (xe_idx (xv 6) xe_int)) (xe_idx (xv 6) xe_int)))
  xss_nil)
  (xss_one (xs_frz 5 (xs_ret (xv 5)))))))))))
theorem ok__law_clock_of : FnOk P w K mg base CX0 4 T.f__law_clock_of T.d__law_clock_of ["pot", "many"] (spF K g__law_clock_of) :=
  fn_okE (k := 3) b__law_clock_of 9 2 T.F__law_clock_of sc__law_clock_of rfl rfl rfl fun cdv A outer s H E hr =>
  (xss_cons (xs_set 2 (xe_add xe_int (xe_call ((ok__law_take T).mono (by decide)) hr T.m__law_take T.F__law_take.kp T.b__law_take (xa_r 0 (xa_v xe_int xa_nil)))) sc__law_clock_of.nd)
  (xss_cons (xs_set 3 (xe_idx (XN.xe (xn_lst (xl_cons xe_int (xl_cons xe_int (xl_cons xe_int (xl_cons xe_int (xl_cons xe_int (xl_cons xe_int xl_nil)))))))) (xe_call ((ok__law_take T).mono (by decide)) hr T.m__law_take T.F__law_take.kp T.b__law_take (xa_r 0 (xa_v xe_int xa_nil)))) sc__law_clock_of.nd)
  (xss_cons (xs_set 4 (xe_call ((ok__law_looks T).mono (by decide)) hr T.m__law_looks T.F__law_looks.kp T.b__law_looks (xa_r 0 (xa_v (xv 2) (xa_v (xv 3) xa_nil)))) sc__law_clock_of.nd)
  (xss_cons (xs_setO 5 (xn_lst xl_nil) sc__law_clock_of.nd)
  (xss_cons (xs_for PassesOwn.never (xi_rng1 (xv 2) T.z_range) (xg_name 6 sc__law_clock_of.nd)
  (xss_cons (xs_set 7 (xe_call ((ok__law_gear T).mono (by decide)) hr T.m__law_gear T.F__law_gear.kp T.b__law_gear (xa_r 0 (xa_v (xv 1) xa_nil))) sc__law_clock_of.nd)
  (xss_one (xs_expr (xe_mut 5 PySem.F.slot_list_append PySem.F.type_list_append mt_append gm_append (xe_tup (xl_cons (xv 7) (xl_cons (xe_call ((ok__law_start T).mono (by decide)) hr T.m__law_start T.F__law_start.kp T.b__law_start (xa_r 0 (xa_v (xv 1) xa_nil))) (xl_cons (xe_idx (xv 4) (xv 6)) xl_nil)))))))))
  (xss_cons (xs_set 8 (xe_and (xe_cmp op_lt gq_lt (xv 3) xe_int (nomark _)) (xe_one (xe_cmp (op_eqD hr.units) gq_eq (xe_call ((ok__law_take T).mono (by decide)) hr T.m__law_take T.F__law_take.kp T.b__law_take (xa_r 0 (xa_v xe_int xa_nil))) xe_int (nomark _)))) sc__law_clock_of.nd)
  (xss_one (xs_ret (xe_tup (xl_cons (xv 1) (xl_cons (xe_tuple T.z_tuple (xvo 5)) (xl_cons (xe_cmp (op_eqD hr.units) gq_eq (xe_call ((ok__law_take T).mono (by decide)) hr T.m__law_take T.F__law_take.kp T.b__law_take (xa_r 0 (xa_v xe_int xa_nil))) xe_int (nomark _)) (xl_cons (xv 8) xl_nil)))))))))))))
theorem ok__law_rows : FnOk P w K mg base CX0 2 T.f__law_rows T.d__law_rows ["pot", "clock"] (spF K g__law_rows) :=
  fn_okE (k := 1) b__law_rows 11 2 T.F__law_rows sc__law_rows rfl rfl rfl fun cdv A outer s H E hr =>
  (xss_cons (xs_asg (xv 1) (xg_tup (xgs_cons (xg_name 2 sc__law_rows.nd) (xgs_cons (xg_name 3 sc__law_rows.nd) (xgs_cons (xg_name 4 sc__law_rows.nd) (xgs_cons (xg_name 5 sc__law_rows.nd) xgs_nil))))))
  (xss_cons (xs_setO 6 (xn_addE (xe_add (XN.xe (xn_lst (xl_cons (xe_add xe_str (xe_str1 T.z_str (XE.xo (xv 2)))) xl_nil))) (xe_mul (XN.xe (xn_lst (xl_cons xe_str xl_nil))) (xe_int1 T.z_int (XE.xo (xv 4))))) (xe_mul (XN.xe (xn_lst (xl_cons xe_str xl_nil))) (xe_int1 T.z_int (XE.xo (xv 5))))) sc__law_rows.nd)
  (xss_cons (xs_for PassesOwn.never (xi_seq (xv 3)) (xg_tup (xgs_cons (xg_name 7 sc__law_rows.nd) (xgs_cons (xg_name 8 sc__law_rows.nd) (xgs_cons (xg_name 9 sc__law_rows.nd) xgs_nil))))
  (xss_cons (xs_set 10 (XN.xe (xn_lst (xl_cons (xe_add (xv 7) (xe_mul (xv 2) (xe_call ((ok__law_take T).mono (by decide)) hr T.m__law_take T.F__law_take.kp T.b__law_take (xa_r 0 (xa_v (xe_div (xe_pow xe_int xe_int) (xv 2)) xa_nil))))) (xl_cons (xe_add (xv 8) (xe_mul (xv 2) (xe_call ((ok__law_take T).mono (by decide)) hr T.m__law_take T.F__law_take.kp T.b__law_take (xa_r 0 (xa_v (xe_div (xe_pow xe_int xe_int) (xv 2)) xa_nil))))) xl_nil)))) sc__law_rows.nd)
  (xss_one (xs_expr (xe_mut 6 PySem.F.slot_list_append PySem.F.type_list_append mt_append gm_append (xe_add (xe_add (xe_add (xe_add (xe_add xe_str (xe_str1 T.z_str (XE.xo (xe_idx (xv 10) xe_int)))) xe_str) (xe_str1 T.z_str (XE.xo (xe_idx (xv 10) xe_int)))) xe_str) (xv 9)))))))
  (xss_one (xs_frz 6 (xs_ret (xv 6)))))))
theorem ok__law_whole : FnOk P w K mg base CX0 1 T.f__law_whole T.d__law_whole ["thing"] (spF K g__law_whole) :=
  fn_okE (k := 0) b__law_whole 1 1 T.F__law_whole sc__law_whole rfl rfl rfl fun cdv A outer s H E hr =>
  (xss_one (xs_ret (xe_and (xe_isi .int boot_int T.z_isinstance T.z_int (xv 0)) (xe_one (xe_not (xe_isi .bool boot_bool T.z_isinstance T.z_bool (xv 0)))))))
theorem ok__law_form : FnOk P w K mg base CX0 2 T.f__law_form T.d__law_form ["clock"] (spF K g__law_form) :=
  fn_okE (k := 1) b__law_form 2 1 T.F__law_form sc__law_form rfl rfl rfl fun cdv A outer s H E hr =>
  (xss_cons (xs_if (xb_w (xw_or (xb_not (xb_val (xe_isi .tup boot_tuple T.z_isinstance T.z_tuple (xv 0)))) (xw_or (xb_cmp (op_neD hr.units) gq_ne (xe_len T.z_len (XE.xo (xv 0))) xe_int (nomark _)) (xw_or (xb_not (xb_val (xe_call ((ok__law_whole T).mono (by decide)) hr T.m__law_whole T.F__law_whole.kp T.b__law_whole (xa_v (xe_idx (xv 0) xe_int) xa_nil)))) (xw_or1 (xb_not (xb_val (xe_isi .tup boot_tuple T.z_isinstance T.z_tuple (xe_idx (xv 0) xe_int)))))))))
  (xss_one (xs_ret xe_bl))
  xss_nil)
  (xss_cons (xs_for PassesOwn.never (xi_seq (xe_idx (xv 0) xe_int)) (xg_name 1 sc__law_form.nd)
  (xss_cons (xs_if (xb_w (xw_or (xb_not (xb_val (xe_isi .tup boot_tuple T.z_isinstance T.z_tuple (xv 1)))) (xw_or (xb_cmp (op_neD hr.units) gq_ne (xe_len T.z_len (XE.xo (xv 1))) xe_int (nomark _)) (xw_or (xb_not (xb_val (xe_call ((ok__law_whole T).mono (by decide)) hr T.m__law_whole T.F__law_whole.kp T.b__law_whole (xa_v (xe_idx (xv 1) xe_int) xa_nil)))) (xw_or1 (xb_not (xb_val (xe_call ((ok__law_whole T).mono (by decide)) hr T.m__law_whole T.F__law_whole.kp T.b__law_whole (xa_v (xe_idx (xv 1) xe_int) xa_nil)))))))))
  (xss_one (xs_ret xe_bl))
  xss_nil)
  (xss_one (xs_if (xb_w (xw_or (xb_not (xb_val (xe_isi .str boot_str T.z_isinstance T.z_str (xe_idx (xv 1) xe_int)))) (xw_or (xb_not (xb_cmp op_le gq_le xe_int (xe_minT (hu65 hr) T.z_min (XE.xo (xe_slice (xv 1) xp_none (xp_some xe_int)))) (nomark _))) (xw_or1 (xb_cmp op_ge gq_ge (xe_maxT (hu65 hr) T.z_max (XE.xo (xe_slice (xv 1) xp_none (xp_some xe_int)))) (xe_idx (xv 0) xe_int) (nomark _))))))
  (xss_one (xs_ret xe_bl))
  xss_nil))))
  (xss_one (xs_ret (xe_and (xe_isi .bool boot_bool T.z_isinstance T.z_bool (xe_idx (xv 0) xe_int)) (xe_one (xe_isi .bool boot_bool T.z_isinstance T.z_bool (xe_idx (xv 0) xe_int))))))))
theorem ok_law : FnOk P w K mg base CX0 5 T.f_law T.d_law ["script"] (spF K (g_law w)) :=
  fn_okE (k := 4) (b_law w) 16 1 T.F_law sc_law rfl rfl rfl fun cdv A outer s H E hr =>
  (xss_cons (xs_for PassesOwn.never (xi_enum (xe_call ((ok__law_cells T).mono (by decide)) hr T.m__law_cells T.F__law_cells.kp T.b__law_cells (xa_o 0 (xa_v xe_int xa_nil))) T.z_enumerate) (xg_tup (xgs_cons (xg_name 1 sc_law.nd) (xgs_cons (xg_name 2 sc_law.nd) xgs_nil)))
  (xss_cons (xs_setO 3 (xn_call ((ok__law_pot T).mono (by decide)) hr T.m__law_pot T.F__law_pot.kp T.b__law_pot (xa_v (xv 2) (xa_v (xv 1) xa_nil))) sc_law.nd)
  (xss_cons (xs_set 4 (xe_call ((ok__law_clock_of T).mono (by decide)) hr T.m__law_clock_of T.F__law_clock_of.kp T.b__law_clock_of (xa_r 3 (xa_v (xe_call ((ok__law_many T).mono (by decide)) hr T.m__law_many T.F__law_many.kp T.b__law_many (xa_r 3 xa_nil)) xa_nil))) sc_law.nd)
  (xss_cons (xs_asg (xv 4) (xg_tup (xgs_cons (xg_name 5 sc_law.nd) (xgs_cons (xg_name 6 sc_law.nd) (xgs_cons (xg_name 7 sc_law.nd) (xgs_cons (xg_name 8 sc_law.nd) xgs_nil))))))
  (xss_cons (xs_setO 9 (xn_lst (xl_cons (xe_add xe_str (xe_str1 T.z_str (XE.xo (xv 5)))) xl_nil)) sc_law.nd)
  (xss_cons (xs_if (xb_val (xv 7))
  (xss_one (xs_expr (xe_mut 9 PySem.F.slot_list_append PySem.F.type_list_append mt_append gm_append xe_str)))
  xss_nil)
  (xss_cons (xs_if (xb_val (xv 8))
  (xss_one (xs_expr (xe_mut 9 PySem.F.slot_list_append PySem.F.type_list_append mt_append gm_append xe_str)))
  xss_nil)
  (xss_cons (xs_for PassesOwn.never (xi_seq (xv 6)) (xg_tup (xgs_cons (xg_name 10 sc_law.nd) (xgs_cons (xg_name 11 sc_law.nd) (xgs_cons (xg_name 12 sc_law.nd) xgs_nil))))
  (xss_one (xs_expr (xe_mut 9 PySem.F.slot_list_append PySem.F.type_list_append mt_append gm_append (xe_add (xe_add (xe_add (xe_add (xe_add xe_str (xe_str1 T.z_str (XE.xo (xv 10)))) xe_str) (xe_str1 T.z_str (XE.xo (xv 11)))) xe_str) (xv 12))))))
  (xss_cons (xs_set 13 (xe_call ((ok_clock_text T).mono (by decide)) hr T.m_clock_text T.F_clock_text.kp T.b_clock_text (xa_v (xv 4) xa_nil)) sc_law.nd)
  (xss_cons (xs_if (xb_w (xw_or (xb_not (xb_val (xe_isi .str boot_str T.z_isinstance T.z_str (xv 13)))) (xw_or1 (xb_cmp (op_neD hr.units) gq_ne (xv 13) (xe_join xe_str (xvo 9)) (nomark _)))))
  (xss_one (xs_ret xe_bl))
  xss_nil)
  (xss_one (xs_for PassesOwn.never (xi_seq (XN.xe (xn_lst (xl_cons (xv 13) (xl_cons (xe_join xe_str (XE.xo (xe_call ((ok__law_rows T).mono (by decide)) hr T.m__law_rows T.F__law_rows.kp T.b__law_rows (xa_r 3 (xa_v (xv 4) xa_nil))))) (xl_cons (xv 13) xl_nil)))))) (xg_name 14 sc_law.nd)
  (xss_cons (xs_set 15 (xe_call ((ok_read_clock T).mono (by decide)) hr T.m_read_clock T.F_read_clock.kp T.b_read_clock (xa_v (xv 14) xa_nil)) sc_law.nd)
  (xss_one (xs_if (xb_w (xw_or (xb_not (xb_val (xe_call ((ok__law_form T).mono (by decide)) hr T.m__law_form T.F__law_form.kp T.b__law_form (xa_v (xv 15) xa_nil)))) (xw_or1 (xb_cmp (op_neD hr.units) gq_ne (xv 15) (xv 4) (nomark _)))))
  (xss_one (xs_ret xe_bl))
  xss_nil)))))))))))))))
  (xss_one (xs_ret xe_bl)))
end
end Lw

namespace Lw
open PySem PySem.Spec PyProof.Rows L2 M
theorem tx_mk {K : Frg} {h : Heap} {mg : Str → Option Value} (X : K.In h) (G : h.Ns mainGlobals mg)
    {od0 an0 : Option Addr} {sl0 : Array (Option Value)} {oc0 kV0 dc0 pm0 cd0 ct0 : Value} {f0 : Addr}
    (a0 : PySem.W.nsIn K mainGlobals "is_look" = some (some (.ref f0))) (l0 : K.lookup f0 = some ⟨oc0, od0, .func (PySem.W.fnOf "is_look" "is_look" (defArgs s_is_look) (defBody s_is_look) (defScope s_is_look) .none kV0 dc0 pm0 an0 cd0 ct0), sl0⟩) (c0 : PySem.W.codeIn K cd0 "is_look" = true) (k0 : PySem.W.keepIn K (.ref f0) = true)
    {od1 an1 : Option Addr} {sl1 : Array (Option Value)} {oc1 kV1 dc1 pm1 cd1 ct1 : Value} {f1 : Addr}
    (a1 : PySem.W.nsIn K mainGlobals "many_readings" = some (some (.ref f1))) (l1 : K.lookup f1 = some ⟨oc1, od1, .func (PySem.W.fnOf "many_readings" "many_readings" (defArgs s_many_readings) (defBody s_many_readings) (defScope s_many_readings) .none kV1 dc1 pm1 an1 cd1 ct1), sl1⟩) (c1 : PySem.W.codeIn K cd1 "many_readings" = true) (k1 : PySem.W.keepIn K (.ref f1) = true)
    {od2 an2 : Option Addr} {sl2 : Array (Option Value)} {oc2 kV2 dc2 pm2 cd2 ct2 : Value} {f2 : Addr}
    (a2 : PySem.W.nsIn K mainGlobals "made_clock" = some (some (.ref f2))) (l2 : K.lookup f2 = some ⟨oc2, od2, .func (PySem.W.fnOf "made_clock" "made_clock" (defArgs s_made_clock) (defBody s_made_clock) (defScope s_made_clock) .none kV2 dc2 pm2 an2 cd2 ct2), sl2⟩) (c2 : PySem.W.codeIn K cd2 "made_clock" = true) (k2 : PySem.W.keepIn K (.ref f2) = true)
    {od3 an3 : Option Addr} {sl3 : Array (Option Value)} {oc3 kV3 dc3 pm3 cd3 ct3 : Value} {f3 : Addr}
    (a3 : PySem.W.nsIn K mainGlobals "clock_text" = some (some (.ref f3))) (l3 : K.lookup f3 = some ⟨oc3, od3, .func (PySem.W.fnOf "clock_text" "clock_text" (defArgs s_clock_text) (defBody s_clock_text) (defScope s_clock_text) .none kV3 dc3 pm3 an3 cd3 ct3), sl3⟩) (c3 : PySem.W.codeIn K cd3 "clock_text" = true) (k3 : PySem.W.keepIn K (.ref f3) = true)
    {od4 an4 : Option Addr} {sl4 : Array (Option Value)} {oc4 kV4 dc4 pm4 cd4 ct4 : Value} {f4 : Addr}
    (a4 : PySem.W.nsIn K mainGlobals "is_number" = some (some (.ref f4))) (l4 : K.lookup f4 = some ⟨oc4, od4, .func (PySem.W.fnOf "is_number" "is_number" (defArgs s_is_number) (defBody s_is_number) (defScope s_is_number) .none kV4 dc4 pm4 an4 cd4 ct4), sl4⟩) (c4 : PySem.W.codeIn K cd4 "is_number" = true) (k4 : PySem.W.keepIn K (.ref f4) = true)
    {od5 an5 : Option Addr} {sl5 : Array (Option Value)} {oc5 kV5 dc5 pm5 cd5 ct5 : Value} {f5 : Addr}
    (a5 : PySem.W.nsIn K mainGlobals "is_hand" = some (some (.ref f5))) (l5 : K.lookup f5 = some ⟨oc5, od5, .func (PySem.W.fnOf "is_hand" "is_hand" (defArgs s_is_hand) (defBody s_is_hand) (defScope s_is_hand) .none kV5 dc5 pm5 an5 cd5 ct5), sl5⟩) (c5 : PySem.W.codeIn K cd5 "is_hand" = true) (k5 : PySem.W.keepIn K (.ref f5) = true)
    {od6 an6 : Option Addr} {sl6 : Array (Option Value)} {oc6 kV6 dc6 pm6 cd6 ct6 : Value} {f6 : Addr}
    (a6 : PySem.W.nsIn K mainGlobals "row_of_dial" = some (some (.ref f6))) (l6 : K.lookup f6 = some ⟨oc6, od6, .func (PySem.W.fnOf "row_of_dial" "row_of_dial" (defArgs s_row_of_dial) (defBody s_row_of_dial) (defScope s_row_of_dial) .none kV6 dc6 pm6 an6 cd6 ct6), sl6⟩) (c6 : PySem.W.codeIn K cd6 "row_of_dial" = true) (k6 : PySem.W.keepIn K (.ref f6) = true)
    {od7 an7 : Option Addr} {sl7 : Array (Option Value)} {oc7 kV7 dc7 pm7 cd7 ct7 : Value} {f7 : Addr}
    (a7 : PySem.W.nsIn K mainGlobals "read_clock" = some (some (.ref f7))) (l7 : K.lookup f7 = some ⟨oc7, od7, .func (PySem.W.fnOf "read_clock" "read_clock" (defArgs s_read_clock) (defBody s_read_clock) (defScope s_read_clock) .none kV7 dc7 pm7 an7 cd7 ct7), sl7⟩) (c7 : PySem.W.codeIn K cd7 "read_clock" = true) (k7 : PySem.W.keepIn K (.ref f7) = true)
    {od8 an8 : Option Addr} {sl8 : Array (Option Value)} {oc8 kV8 dc8 pm8 cd8 ct8 : Value} {f8 : Addr}
    (a8 : PySem.W.nsIn K mainGlobals "_law_pot" = some (some (.ref f8))) (l8 : K.lookup f8 = some ⟨oc8, od8, .func (PySem.W.fnOf "_law_pot" "_law_pot" (defArgs s__law_pot) (defBody s__law_pot) (defScope s__law_pot) .none kV8 dc8 pm8 an8 cd8 ct8), sl8⟩) (c8 : PySem.W.codeIn K cd8 "_law_pot" = true) (k8 : PySem.W.keepIn K (.ref f8) = true)
    {od9 an9 : Option Addr} {sl9 : Array (Option Value)} {oc9 kV9 dc9 pm9 cd9 ct9 : Value} {f9 : Addr}
    (a9 : PySem.W.nsIn K mainGlobals "_law_take" = some (some (.ref f9))) (l9 : K.lookup f9 = some ⟨oc9, od9, .func (PySem.W.fnOf "_law_take" "_law_take" (defArgs s__law_take) (defBody s__law_take) (defScope s__law_take) .none kV9 dc9 pm9 an9 cd9 ct9), sl9⟩) (c9 : PySem.W.codeIn K cd9 "_law_take" = true) (k9 : PySem.W.keepIn K (.ref f9) = true)
    {od10 an10 : Option Addr} {sl10 : Array (Option Value)} {oc10 kV10 dc10 pm10 cd10 ct10 : Value} {f10 : Addr}
    (a10 : PySem.W.nsIn K mainGlobals "_law_folded" = some (some (.ref f10))) (l10 : K.lookup f10 = some ⟨oc10, od10, .func (PySem.W.fnOf "_law_folded" "_law_folded" (defArgs s__law_folded) (defBody s__law_folded) (defScope s__law_folded) .none kV10 dc10 pm10 an10 cd10 ct10), sl10⟩) (c10 : PySem.W.codeIn K cd10 "_law_folded" = true) (k10 : PySem.W.keepIn K (.ref f10) = true)
    {od11 an11 : Option Addr} {sl11 : Array (Option Value)} {oc11 kV11 dc11 pm11 cd11 ct11 : Value} {f11 : Addr}
    (a11 : PySem.W.nsIn K mainGlobals "_law_cells" = some (some (.ref f11))) (l11 : K.lookup f11 = some ⟨oc11, od11, .func (PySem.W.fnOf "_law_cells" "_law_cells" (defArgs s__law_cells) (defBody s__law_cells) (defScope s__law_cells) .none kV11 dc11 pm11 an11 cd11 ct11), sl11⟩) (c11 : PySem.W.codeIn K cd11 "_law_cells" = true) (k11 : PySem.W.keepIn K (.ref f11) = true)
    {od12 an12 : Option Addr} {sl12 : Array (Option Value)} {oc12 kV12 dc12 pm12 cd12 ct12 : Value} {f12 : Addr}
    (a12 : PySem.W.nsIn K mainGlobals "_law_order" = some (some (.ref f12))) (l12 : K.lookup f12 = some ⟨oc12, od12, .func (PySem.W.fnOf "_law_order" "_law_order" (defArgs s__law_order) (defBody s__law_order) (defScope s__law_order) .none kV12 dc12 pm12 an12 cd12 ct12), sl12⟩) (c12 : PySem.W.codeIn K cd12 "_law_order" = true) (k12 : PySem.W.keepIn K (.ref f12) = true)
    {od13 an13 : Option Addr} {sl13 : Array (Option Value)} {oc13 kV13 dc13 pm13 cd13 ct13 : Value} {f13 : Addr}
    (a13 : PySem.W.nsIn K mainGlobals "_law_many" = some (some (.ref f13))) (l13 : K.lookup f13 = some ⟨oc13, od13, .func (PySem.W.fnOf "_law_many" "_law_many" (defArgs s__law_many) (defBody s__law_many) (defScope s__law_many) .none kV13 dc13 pm13 an13 cd13 ct13), sl13⟩) (c13 : PySem.W.codeIn K cd13 "_law_many" = true) (k13 : PySem.W.keepIn K (.ref f13) = true)
    {od14 an14 : Option Addr} {sl14 : Array (Option Value)} {oc14 kV14 dc14 pm14 cd14 ct14 : Value} {f14 : Addr}
    (a14 : PySem.W.nsIn K mainGlobals "_law_gear" = some (some (.ref f14))) (l14 : K.lookup f14 = some ⟨oc14, od14, .func (PySem.W.fnOf "_law_gear" "_law_gear" (defArgs s__law_gear) (defBody s__law_gear) (defScope s__law_gear) .none kV14 dc14 pm14 an14 cd14 ct14), sl14⟩) (c14 : PySem.W.codeIn K cd14 "_law_gear" = true) (k14 : PySem.W.keepIn K (.ref f14) = true)
    {od15 an15 : Option Addr} {sl15 : Array (Option Value)} {oc15 kV15 dc15 pm15 cd15 ct15 : Value} {f15 : Addr}
    (a15 : PySem.W.nsIn K mainGlobals "_law_start" = some (some (.ref f15))) (l15 : K.lookup f15 = some ⟨oc15, od15, .func (PySem.W.fnOf "_law_start" "_law_start" (defArgs s__law_start) (defBody s__law_start) (defScope s__law_start) .none kV15 dc15 pm15 an15 cd15 ct15), sl15⟩) (c15 : PySem.W.codeIn K cd15 "_law_start" = true) (k15 : PySem.W.keepIn K (.ref f15) = true)
    {od16 an16 : Option Addr} {sl16 : Array (Option Value)} {oc16 kV16 dc16 pm16 cd16 ct16 : Value} {f16 : Addr}
    (a16 : PySem.W.nsIn K mainGlobals "_law_looks" = some (some (.ref f16))) (l16 : K.lookup f16 = some ⟨oc16, od16, .func (PySem.W.fnOf "_law_looks" "_law_looks" (defArgs s__law_looks) (defBody s__law_looks) (defScope s__law_looks) .none kV16 dc16 pm16 an16 cd16 ct16), sl16⟩) (c16 : PySem.W.codeIn K cd16 "_law_looks" = true) (k16 : PySem.W.keepIn K (.ref f16) = true)
    {od17 an17 : Option Addr} {sl17 : Array (Option Value)} {oc17 kV17 dc17 pm17 cd17 ct17 : Value} {f17 : Addr}
    (a17 : PySem.W.nsIn K mainGlobals "_law_clock_of" = some (some (.ref f17))) (l17 : K.lookup f17 = some ⟨oc17, od17, .func (PySem.W.fnOf "_law_clock_of" "_law_clock_of" (defArgs s__law_clock_of) (defBody s__law_clock_of) (defScope s__law_clock_of) .none kV17 dc17 pm17 an17 cd17 ct17), sl17⟩) (c17 : PySem.W.codeIn K cd17 "_law_clock_of" = true) (k17 : PySem.W.keepIn K (.ref f17) = true)
    {od18 an18 : Option Addr} {sl18 : Array (Option Value)} {oc18 kV18 dc18 pm18 cd18 ct18 : Value} {f18 : Addr}
    (a18 : PySem.W.nsIn K mainGlobals "_law_rows" = some (some (.ref f18))) (l18 : K.lookup f18 = some ⟨oc18, od18, .func (PySem.W.fnOf "_law_rows" "_law_rows" (defArgs s__law_rows) (defBody s__law_rows) (defScope s__law_rows) .none kV18 dc18 pm18 an18 cd18 ct18), sl18⟩) (c18 : PySem.W.codeIn K cd18 "_law_rows" = true) (k18 : PySem.W.keepIn K (.ref f18) = true)
    {od19 an19 : Option Addr} {sl19 : Array (Option Value)} {oc19 kV19 dc19 pm19 cd19 ct19 : Value} {f19 : Addr}
    (a19 : PySem.W.nsIn K mainGlobals "_law_whole" = some (some (.ref f19))) (l19 : K.lookup f19 = some ⟨oc19, od19, .func (PySem.W.fnOf "_law_whole" "_law_whole" (defArgs s__law_whole) (defBody s__law_whole) (defScope s__law_whole) .none kV19 dc19 pm19 an19 cd19 ct19), sl19⟩) (c19 : PySem.W.codeIn K cd19 "_law_whole" = true) (k19 : PySem.W.keepIn K (.ref f19) = true)
    {od20 an20 : Option Addr} {sl20 : Array (Option Value)} {oc20 kV20 dc20 pm20 cd20 ct20 : Value} {f20 : Addr}
    (a20 : PySem.W.nsIn K mainGlobals "_law_form" = some (some (.ref f20))) (l20 : K.lookup f20 = some ⟨oc20, od20, .func (PySem.W.fnOf "_law_form" "_law_form" (defArgs s__law_form) (defBody s__law_form) (defScope s__law_form) .none kV20 dc20 pm20 an20 cd20 ct20), sl20⟩) (c20 : PySem.W.codeIn K cd20 "_law_form" = true) (k20 : PySem.W.keepIn K (.ref f20) = true)
    {od21 an21 : Option Addr} {sl21 : Array (Option Value)} {oc21 kV21 dc21 pm21 cd21 ct21 : Value} {f21 : Addr}
    (a21 : PySem.W.nsIn K mainGlobals "law" = some (some (.ref f21))) (l21 : K.lookup f21 = some ⟨oc21, od21, .func (PySem.W.fnOf "law" "law" (defArgs s_law) (defBody s_law) (defScope s_law) .none kV21 dc21 pm21 an21 cd21 ct21), sl21⟩) (c21 : PySem.W.codeIn K cd21 "law" = true) (k21 : PySem.W.keepIn K (.ref f21) = true)
    {t0 : Tok} (v0 : PySem.W.nsIn K mainGlobals "FIGURES" = some (some (.str "0123456789" t0)))
    {t1 : Tok} (v1 : PySem.W.nsIn K mainGlobals "LETTERS" = some (some (.str "abcdefghijklmnopqrstuvwxyz" t1)))
    {t2 : Tok} (v2 : PySem.W.nsIn K mainGlobals "MOST_FIGURES" = some (some (.int (61) t2)))
    {t3 : Tok} (v3 : PySem.W.nsIn K mainGlobals "MOST_HANDS_clocks" = some (some (.int (5) t3)))
    {t4 : Tok} (v4 : PySem.W.nsIn K mainGlobals "MOST_HANDS_texts" = some (some (.int (5) t4)))
    {t5 : Tok} (v5 : PySem.W.nsIn K mainGlobals "MOST_MARKS" = some (some (.int (1000000000000000000000000000000000000000000000000000000000000) t5)))
    {t6 : Tok} (v6 : PySem.W.nsIn K mainGlobals "MOST_READINGS" = some (some (.int (6) t6)))
    {t7 : Tok} (v7 : PySem.W.nsIn K mainGlobals "SMALL" = some (some (.str "abcdefghijklmnopqrstuvwxyz" t7)))
    (z0 : PySem.W.nsIn K mainGlobals "all" = some none)
    (z1 : PySem.W.nsIn K mainGlobals "bool" = some none)
    (z2 : PySem.W.nsIn K mainGlobals "enumerate" = some none)
    (z3 : PySem.W.nsIn K mainGlobals "int" = some none)
    (z4 : PySem.W.nsIn K mainGlobals "isinstance" = some none)
    (z5 : PySem.W.nsIn K mainGlobals "len" = some none)
    (z6 : PySem.W.nsIn K mainGlobals "list" = some none)
    (z7 : PySem.W.nsIn K mainGlobals "max" = some none)
    (z8 : PySem.W.nsIn K mainGlobals "min" = some none)
    (z9 : PySem.W.nsIn K mainGlobals "range" = some none)
    (z10 : PySem.W.nsIn K mainGlobals "str" = some none)
    (z11 : PySem.W.nsIn K mainGlobals "tuple" = some none) :
    ∃ T : Tx K mg, T.f_law = f21 ∧ T.d_law = PySem.W.fnOf "law" "law" (defArgs s_law) (defBody s_law) (defScope s_law) .none kV21 dc21 pm21 an21 cd21 ct21 := by
  have F0 := fun_mk (st := s_is_look) l0 c0 k0
  have B0 := F0.binds (ps := ["text"]) fun _ _ _ _ _ _ us hl => match us, hl with | [_], _ => rfl
  have F1 := fun_mk (st := s_many_readings) l1 c1 k1
  have B1 := F1.binds (ps := ["hands", "mirror"]) fun _ _ _ _ _ _ us hl => match us, hl with | [_, _], _ => rfl
  have F2 := fun_mk (st := s_made_clock) l2 c2 k2
  have B2 := F2.binds (ps := ["many", "hands", "blank", "mirror"]) fun _ _ _ _ _ _ us hl => match us, hl with | [_, _, _, _], _ => rfl
  have F3 := fun_mk (st := s_clock_text) l3 c3 k3
  have B3 := F3.binds (ps := ["clock"]) fun _ _ _ _ _ _ us hl => match us, hl with | [_], _ => rfl
  have F4 := fun_mk (st := s_is_number) l4 c4 k4
  have B4 := F4.binds (ps := ["word"]) fun _ _ _ _ _ _ us hl => match us, hl with | [_], _ => rfl
  have F5 := fun_mk (st := s_is_hand) l5 c5 k5
  have B5 := F5.binds (ps := ["words"]) fun _ _ _ _ _ _ us hl => match us, hl with | [_], _ => rfl
  have F6 := fun_mk (st := s_row_of_dial) l6 c6 k6
  have B6 := F6.binds (ps := ["words"]) fun _ _ _ _ _ _ us hl => match us, hl with | [_], _ => rfl
  have F7 := fun_mk (st := s_read_clock) l7 c7 k7
  have B7 := F7.binds (ps := ["text"]) fun _ _ _ _ _ _ us hl => match us, hl with | [_], _ => rfl
  have F8 := fun_mk (st := s__law_pot) l8 c8 k8
  have B8 := F8.binds (ps := ["cell", "k"]) fun _ _ _ _ _ _ us hl => match us, hl with | [_, _], _ => rfl
  have F9 := fun_mk (st := s__law_take) l9 c9 k9
  have B9 := F9.binds (ps := ["pot", "many"]) fun _ _ _ _ _ _ us hl => match us, hl with | [_, _], _ => rfl
  have F10 := fun_mk (st := s__law_folded) l10 c10 k10
  have B10 := F10.binds (ps := ["script", "many"]) fun _ _ _ _ _ _ us hl => match us, hl with | [_, _], _ => rfl
  have F11 := fun_mk (st := s__law_cells) l11 c11 k11
  have B11 := F11.binds (ps := ["script", "most"]) fun _ _ _ _ _ _ us hl => match us, hl with | [_, _], _ => rfl
  have F12 := fun_mk (st := s__law_order) l12 c12 k12
  have B12 := F12.binds (ps := ["pot", "count"]) fun _ _ _ _ _ _ us hl => match us, hl with | [_, _], _ => rfl
  have F13 := fun_mk (st := s__law_many) l13 c13 k13
  have B13 := F13.binds (ps := ["pot"]) fun _ _ _ _ _ _ us hl => match us, hl with | [_], _ => rfl
  have F14 := fun_mk (st := s__law_gear) l14 c14 k14
  have B14 := F14.binds (ps := ["pot", "many"]) fun _ _ _ _ _ _ us hl => match us, hl with | [_, _], _ => rfl
  have F15 := fun_mk (st := s__law_start) l15 c15 k15
  have B15 := F15.binds (ps := ["pot", "many"]) fun _ _ _ _ _ _ us hl => match us, hl with | [_, _], _ => rfl
  have F16 := fun_mk (st := s__law_looks) l16 c16 k16
  have B16 := F16.binds (ps := ["pot", "count", "way"]) fun _ _ _ _ _ _ us hl => match us, hl with | [_, _, _], _ => rfl
  have F17 := fun_mk (st := s__law_clock_of) l17 c17 k17
  have B17 := F17.binds (ps := ["pot", "many"]) fun _ _ _ _ _ _ us hl => match us, hl with | [_, _], _ => rfl
  have F18 := fun_mk (st := s__law_rows) l18 c18 k18
  have B18 := F18.binds (ps := ["pot", "clock"]) fun _ _ _ _ _ _ us hl => match us, hl with | [_, _], _ => rfl
  have F19 := fun_mk (st := s__law_whole) l19 c19 k19
  have B19 := F19.binds (ps := ["thing"]) fun _ _ _ _ _ _ us hl => match us, hl with | [_], _ => rfl
  have F20 := fun_mk (st := s__law_form) l20 c20 k20
  have B20 := F20.binds (ps := ["clock"]) fun _ _ _ _ _ _ us hl => match us, hl with | [_], _ => rfl
  have F21 := fun_mk (st := s_law) l21 c21 k21
  have B21 := F21.binds (ps := ["script"]) fun _ _ _ _ _ _ us hl => match us, hl with | [_], _ => rfl
  exact ⟨{ f_is_look := _, d_is_look := _, F_is_look := F0, m_is_look := PySem.W.mg_of X G a0, b_is_look := B0, f_many_readings := _, d_many_readings := _, F_many_readings := F1, m_many_readings := PySem.W.mg_of X G a1, b_many_readings := B1, f_made_clock := _, d_made_clock := _, F_made_clock := F2, m_made_clock := PySem.W.mg_of X G a2, b_made_clock := B2, f_clock_text := _, d_clock_text := _, F_clock_text := F3, m_clock_text := PySem.W.mg_of X G a3, b_clock_text := B3, f_is_number := _, d_is_number := _, F_is_number := F4, m_is_number := PySem.W.mg_of X G a4, b_is_number := B4, f_is_hand := _, d_is_hand := _, F_is_hand := F5, m_is_hand := PySem.W.mg_of X G a5, b_is_hand := B5, f_row_of_dial := _, d_row_of_dial := _, F_row_of_dial := F6, m_row_of_dial := PySem.W.mg_of X G a6, b_row_of_dial := B6, f_read_clock := _, d_read_clock := _, F_read_clock := F7, m_read_clock := PySem.W.mg_of X G a7, b_read_clock := B7, f__law_pot := _, d__law_pot := _, F__law_pot := F8, m__law_pot := PySem.W.mg_of X G a8, b__law_pot := B8, f__law_take := _, d__law_take := _, F__law_take := F9, m__law_take := PySem.W.mg_of X G a9, b__law_take := B9, f__law_folded := _, d__law_folded := _, F__law_folded := F10, m__law_folded := PySem.W.mg_of X G a10, b__law_folded := B10, f__law_cells := _, d__law_cells := _, F__law_cells := F11, m__law_cells := PySem.W.mg_of X G a11, b__law_cells := B11, f__law_order := _, d__law_order := _, F__law_order := F12, m__law_order := PySem.W.mg_of X G a12, b__law_order := B12, f__law_many := _, d__law_many := _, F__law_many := F13, m__law_many := PySem.W.mg_of X G a13, b__law_many := B13, f__law_gear := _, d__law_gear := _, F__law_gear := F14, m__law_gear := PySem.W.mg_of X G a14, b__law_gear := B14, f__law_start := _, d__law_start := _, F__law_start := F15, m__law_start := PySem.W.mg_of X G a15, b__law_start := B15, f__law_looks := _, d__law_looks := _, F__law_looks := F16, m__law_looks := PySem.W.mg_of X G a16, b__law_looks := B16, f__law_clock_of := _, d__law_clock_of := _, F__law_clock_of := F17, m__law_clock_of := PySem.W.mg_of X G a17, b__law_clock_of := B17, f__law_rows := _, d__law_rows := _, F__law_rows := F18, m__law_rows := PySem.W.mg_of X G a18, b__law_rows := B18, f__law_whole := _, d__law_whole := _, F__law_whole := F19, m__law_whole := PySem.W.mg_of X G a19, b__law_whole := B19, f__law_form := _, d__law_form := _, F__law_form := F20, m__law_form := PySem.W.mg_of X G a20, b__law_form := B20, f_law := _, d_law := _, F_law := F21, m_law := PySem.W.mg_of X G a21, b_law := B21, t_FIGURES := _, m_FIGURES := PySem.W.mg_of X G v0, t_LETTERS := _, m_LETTERS := PySem.W.mg_of X G v1, t_MOST_FIGURES := _, m_MOST_FIGURES := PySem.W.mg_of X G v2, t_MOST_HANDS_clocks := _, m_MOST_HANDS_clocks := PySem.W.mg_of X G v3, t_MOST_HANDS_texts := _, m_MOST_HANDS_texts := PySem.W.mg_of X G v4, t_MOST_MARKS := _, m_MOST_MARKS := PySem.W.mg_of X G v5, t_MOST_READINGS := _, m_MOST_READINGS := PySem.W.mg_of X G v6, t_SMALL := _, m_SMALL := PySem.W.mg_of X G v7, z_all := PySem.W.mg_none_of X G z0, z_bool := PySem.W.mg_none_of X G z1, z_enumerate := PySem.W.mg_none_of X G z2, z_int := PySem.W.mg_none_of X G z3, z_isinstance := PySem.W.mg_none_of X G z4, z_len := PySem.W.mg_none_of X G z5, z_list := PySem.W.mg_none_of X G z6, z_max := PySem.W.mg_none_of X G z7, z_min := PySem.W.mg_none_of X G z8, z_range := PySem.W.mg_none_of X G z9, z_str := PySem.W.mg_none_of X G z10, z_tuple := PySem.W.mg_none_of X G z11 }, rfl, rfl⟩
theorem all_mk {l : PySem.W.OpenLaw} {w : World} {K : Frg} {h : Heap} {mg : Str → Option Value} {fa : Addr} (X : K.In h) (G : h.Ns mainGlobals mg) (hfa : mg "law" = some (.ref fa))
    {od0 an0 : Option Addr} {sl0 : Array (Option Value)} {oc0 kV0 dc0 pm0 cd0 ct0 : Value} {f0 : Addr}
    (a0 : PySem.W.nsIn K mainGlobals "is_look" = some (some (.ref f0))) (l0 : K.lookup f0 = some ⟨oc0, od0, .func (PySem.W.fnOf "is_look" "is_look" (defArgs s_is_look) (defBody s_is_look) (defScope s_is_look) .none kV0 dc0 pm0 an0 cd0 ct0), sl0⟩) (c0 : PySem.W.codeIn K cd0 "is_look" = true) (k0 : PySem.W.keepIn K (.ref f0) = true)
    {od1 an1 : Option Addr} {sl1 : Array (Option Value)} {oc1 kV1 dc1 pm1 cd1 ct1 : Value} {f1 : Addr}
    (a1 : PySem.W.nsIn K mainGlobals "many_readings" = some (some (.ref f1))) (l1 : K.lookup f1 = some ⟨oc1, od1, .func (PySem.W.fnOf "many_readings" "many_readings" (defArgs s_many_readings) (defBody s_many_readings) (defScope s_many_readings) .none kV1 dc1 pm1 an1 cd1 ct1), sl1⟩) (c1 : PySem.W.codeIn K cd1 "many_readings" = true) (k1 : PySem.W.keepIn K (.ref f1) = true)
    {od2 an2 : Option Addr} {sl2 : Array (Option Value)} {oc2 kV2 dc2 pm2 cd2 ct2 : Value} {f2 : Addr}
    (a2 : PySem.W.nsIn K mainGlobals "made_clock" = some (some (.ref f2))) (l2 : K.lookup f2 = some ⟨oc2, od2, .func (PySem.W.fnOf "made_clock" "made_clock" (defArgs s_made_clock) (defBody s_made_clock) (defScope s_made_clock) .none kV2 dc2 pm2 an2 cd2 ct2), sl2⟩) (c2 : PySem.W.codeIn K cd2 "made_clock" = true) (k2 : PySem.W.keepIn K (.ref f2) = true)
    {od3 an3 : Option Addr} {sl3 : Array (Option Value)} {oc3 kV3 dc3 pm3 cd3 ct3 : Value} {f3 : Addr}
    (a3 : PySem.W.nsIn K mainGlobals "clock_text" = some (some (.ref f3))) (l3 : K.lookup f3 = some ⟨oc3, od3, .func (PySem.W.fnOf "clock_text" "clock_text" (defArgs s_clock_text) (defBody s_clock_text) (defScope s_clock_text) .none kV3 dc3 pm3 an3 cd3 ct3), sl3⟩) (c3 : PySem.W.codeIn K cd3 "clock_text" = true) (k3 : PySem.W.keepIn K (.ref f3) = true)
    {od4 an4 : Option Addr} {sl4 : Array (Option Value)} {oc4 kV4 dc4 pm4 cd4 ct4 : Value} {f4 : Addr}
    (a4 : PySem.W.nsIn K mainGlobals "is_number" = some (some (.ref f4))) (l4 : K.lookup f4 = some ⟨oc4, od4, .func (PySem.W.fnOf "is_number" "is_number" (defArgs s_is_number) (defBody s_is_number) (defScope s_is_number) .none kV4 dc4 pm4 an4 cd4 ct4), sl4⟩) (c4 : PySem.W.codeIn K cd4 "is_number" = true) (k4 : PySem.W.keepIn K (.ref f4) = true)
    {od5 an5 : Option Addr} {sl5 : Array (Option Value)} {oc5 kV5 dc5 pm5 cd5 ct5 : Value} {f5 : Addr}
    (a5 : PySem.W.nsIn K mainGlobals "is_hand" = some (some (.ref f5))) (l5 : K.lookup f5 = some ⟨oc5, od5, .func (PySem.W.fnOf "is_hand" "is_hand" (defArgs s_is_hand) (defBody s_is_hand) (defScope s_is_hand) .none kV5 dc5 pm5 an5 cd5 ct5), sl5⟩) (c5 : PySem.W.codeIn K cd5 "is_hand" = true) (k5 : PySem.W.keepIn K (.ref f5) = true)
    {od6 an6 : Option Addr} {sl6 : Array (Option Value)} {oc6 kV6 dc6 pm6 cd6 ct6 : Value} {f6 : Addr}
    (a6 : PySem.W.nsIn K mainGlobals "row_of_dial" = some (some (.ref f6))) (l6 : K.lookup f6 = some ⟨oc6, od6, .func (PySem.W.fnOf "row_of_dial" "row_of_dial" (defArgs s_row_of_dial) (defBody s_row_of_dial) (defScope s_row_of_dial) .none kV6 dc6 pm6 an6 cd6 ct6), sl6⟩) (c6 : PySem.W.codeIn K cd6 "row_of_dial" = true) (k6 : PySem.W.keepIn K (.ref f6) = true)
    {od7 an7 : Option Addr} {sl7 : Array (Option Value)} {oc7 kV7 dc7 pm7 cd7 ct7 : Value} {f7 : Addr}
    (a7 : PySem.W.nsIn K mainGlobals "read_clock" = some (some (.ref f7))) (l7 : K.lookup f7 = some ⟨oc7, od7, .func (PySem.W.fnOf "read_clock" "read_clock" (defArgs s_read_clock) (defBody s_read_clock) (defScope s_read_clock) .none kV7 dc7 pm7 an7 cd7 ct7), sl7⟩) (c7 : PySem.W.codeIn K cd7 "read_clock" = true) (k7 : PySem.W.keepIn K (.ref f7) = true)
    {od8 an8 : Option Addr} {sl8 : Array (Option Value)} {oc8 kV8 dc8 pm8 cd8 ct8 : Value} {f8 : Addr}
    (a8 : PySem.W.nsIn K mainGlobals "_law_pot" = some (some (.ref f8))) (l8 : K.lookup f8 = some ⟨oc8, od8, .func (PySem.W.fnOf "_law_pot" "_law_pot" (defArgs s__law_pot) (defBody s__law_pot) (defScope s__law_pot) .none kV8 dc8 pm8 an8 cd8 ct8), sl8⟩) (c8 : PySem.W.codeIn K cd8 "_law_pot" = true) (k8 : PySem.W.keepIn K (.ref f8) = true)
    {od9 an9 : Option Addr} {sl9 : Array (Option Value)} {oc9 kV9 dc9 pm9 cd9 ct9 : Value} {f9 : Addr}
    (a9 : PySem.W.nsIn K mainGlobals "_law_take" = some (some (.ref f9))) (l9 : K.lookup f9 = some ⟨oc9, od9, .func (PySem.W.fnOf "_law_take" "_law_take" (defArgs s__law_take) (defBody s__law_take) (defScope s__law_take) .none kV9 dc9 pm9 an9 cd9 ct9), sl9⟩) (c9 : PySem.W.codeIn K cd9 "_law_take" = true) (k9 : PySem.W.keepIn K (.ref f9) = true)
    {od10 an10 : Option Addr} {sl10 : Array (Option Value)} {oc10 kV10 dc10 pm10 cd10 ct10 : Value} {f10 : Addr}
    (a10 : PySem.W.nsIn K mainGlobals "_law_folded" = some (some (.ref f10))) (l10 : K.lookup f10 = some ⟨oc10, od10, .func (PySem.W.fnOf "_law_folded" "_law_folded" (defArgs s__law_folded) (defBody s__law_folded) (defScope s__law_folded) .none kV10 dc10 pm10 an10 cd10 ct10), sl10⟩) (c10 : PySem.W.codeIn K cd10 "_law_folded" = true) (k10 : PySem.W.keepIn K (.ref f10) = true)
    {od11 an11 : Option Addr} {sl11 : Array (Option Value)} {oc11 kV11 dc11 pm11 cd11 ct11 : Value} {f11 : Addr}
    (a11 : PySem.W.nsIn K mainGlobals "_law_cells" = some (some (.ref f11))) (l11 : K.lookup f11 = some ⟨oc11, od11, .func (PySem.W.fnOf "_law_cells" "_law_cells" (defArgs s__law_cells) (defBody s__law_cells) (defScope s__law_cells) .none kV11 dc11 pm11 an11 cd11 ct11), sl11⟩) (c11 : PySem.W.codeIn K cd11 "_law_cells" = true) (k11 : PySem.W.keepIn K (.ref f11) = true)
    {od12 an12 : Option Addr} {sl12 : Array (Option Value)} {oc12 kV12 dc12 pm12 cd12 ct12 : Value} {f12 : Addr}
    (a12 : PySem.W.nsIn K mainGlobals "_law_order" = some (some (.ref f12))) (l12 : K.lookup f12 = some ⟨oc12, od12, .func (PySem.W.fnOf "_law_order" "_law_order" (defArgs s__law_order) (defBody s__law_order) (defScope s__law_order) .none kV12 dc12 pm12 an12 cd12 ct12), sl12⟩) (c12 : PySem.W.codeIn K cd12 "_law_order" = true) (k12 : PySem.W.keepIn K (.ref f12) = true)
    {od13 an13 : Option Addr} {sl13 : Array (Option Value)} {oc13 kV13 dc13 pm13 cd13 ct13 : Value} {f13 : Addr}
    (a13 : PySem.W.nsIn K mainGlobals "_law_many" = some (some (.ref f13))) (l13 : K.lookup f13 = some ⟨oc13, od13, .func (PySem.W.fnOf "_law_many" "_law_many" (defArgs s__law_many) (defBody s__law_many) (defScope s__law_many) .none kV13 dc13 pm13 an13 cd13 ct13), sl13⟩) (c13 : PySem.W.codeIn K cd13 "_law_many" = true) (k13 : PySem.W.keepIn K (.ref f13) = true)
    {od14 an14 : Option Addr} {sl14 : Array (Option Value)} {oc14 kV14 dc14 pm14 cd14 ct14 : Value} {f14 : Addr}
    (a14 : PySem.W.nsIn K mainGlobals "_law_gear" = some (some (.ref f14))) (l14 : K.lookup f14 = some ⟨oc14, od14, .func (PySem.W.fnOf "_law_gear" "_law_gear" (defArgs s__law_gear) (defBody s__law_gear) (defScope s__law_gear) .none kV14 dc14 pm14 an14 cd14 ct14), sl14⟩) (c14 : PySem.W.codeIn K cd14 "_law_gear" = true) (k14 : PySem.W.keepIn K (.ref f14) = true)
    {od15 an15 : Option Addr} {sl15 : Array (Option Value)} {oc15 kV15 dc15 pm15 cd15 ct15 : Value} {f15 : Addr}
    (a15 : PySem.W.nsIn K mainGlobals "_law_start" = some (some (.ref f15))) (l15 : K.lookup f15 = some ⟨oc15, od15, .func (PySem.W.fnOf "_law_start" "_law_start" (defArgs s__law_start) (defBody s__law_start) (defScope s__law_start) .none kV15 dc15 pm15 an15 cd15 ct15), sl15⟩) (c15 : PySem.W.codeIn K cd15 "_law_start" = true) (k15 : PySem.W.keepIn K (.ref f15) = true)
    {od16 an16 : Option Addr} {sl16 : Array (Option Value)} {oc16 kV16 dc16 pm16 cd16 ct16 : Value} {f16 : Addr}
    (a16 : PySem.W.nsIn K mainGlobals "_law_looks" = some (some (.ref f16))) (l16 : K.lookup f16 = some ⟨oc16, od16, .func (PySem.W.fnOf "_law_looks" "_law_looks" (defArgs s__law_looks) (defBody s__law_looks) (defScope s__law_looks) .none kV16 dc16 pm16 an16 cd16 ct16), sl16⟩) (c16 : PySem.W.codeIn K cd16 "_law_looks" = true) (k16 : PySem.W.keepIn K (.ref f16) = true)
    {od17 an17 : Option Addr} {sl17 : Array (Option Value)} {oc17 kV17 dc17 pm17 cd17 ct17 : Value} {f17 : Addr}
    (a17 : PySem.W.nsIn K mainGlobals "_law_clock_of" = some (some (.ref f17))) (l17 : K.lookup f17 = some ⟨oc17, od17, .func (PySem.W.fnOf "_law_clock_of" "_law_clock_of" (defArgs s__law_clock_of) (defBody s__law_clock_of) (defScope s__law_clock_of) .none kV17 dc17 pm17 an17 cd17 ct17), sl17⟩) (c17 : PySem.W.codeIn K cd17 "_law_clock_of" = true) (k17 : PySem.W.keepIn K (.ref f17) = true)
    {od18 an18 : Option Addr} {sl18 : Array (Option Value)} {oc18 kV18 dc18 pm18 cd18 ct18 : Value} {f18 : Addr}
    (a18 : PySem.W.nsIn K mainGlobals "_law_rows" = some (some (.ref f18))) (l18 : K.lookup f18 = some ⟨oc18, od18, .func (PySem.W.fnOf "_law_rows" "_law_rows" (defArgs s__law_rows) (defBody s__law_rows) (defScope s__law_rows) .none kV18 dc18 pm18 an18 cd18 ct18), sl18⟩) (c18 : PySem.W.codeIn K cd18 "_law_rows" = true) (k18 : PySem.W.keepIn K (.ref f18) = true)
    {od19 an19 : Option Addr} {sl19 : Array (Option Value)} {oc19 kV19 dc19 pm19 cd19 ct19 : Value} {f19 : Addr}
    (a19 : PySem.W.nsIn K mainGlobals "_law_whole" = some (some (.ref f19))) (l19 : K.lookup f19 = some ⟨oc19, od19, .func (PySem.W.fnOf "_law_whole" "_law_whole" (defArgs s__law_whole) (defBody s__law_whole) (defScope s__law_whole) .none kV19 dc19 pm19 an19 cd19 ct19), sl19⟩) (c19 : PySem.W.codeIn K cd19 "_law_whole" = true) (k19 : PySem.W.keepIn K (.ref f19) = true)
    {od20 an20 : Option Addr} {sl20 : Array (Option Value)} {oc20 kV20 dc20 pm20 cd20 ct20 : Value} {f20 : Addr}
    (a20 : PySem.W.nsIn K mainGlobals "_law_form" = some (some (.ref f20))) (l20 : K.lookup f20 = some ⟨oc20, od20, .func (PySem.W.fnOf "_law_form" "_law_form" (defArgs s__law_form) (defBody s__law_form) (defScope s__law_form) .none kV20 dc20 pm20 an20 cd20 ct20), sl20⟩) (c20 : PySem.W.codeIn K cd20 "_law_form" = true) (k20 : PySem.W.keepIn K (.ref f20) = true)
    {od21 an21 : Option Addr} {sl21 : Array (Option Value)} {oc21 kV21 dc21 pm21 cd21 ct21 : Value} {f21 : Addr}
    (a21 : PySem.W.nsIn K mainGlobals "law" = some (some (.ref f21))) (l21 : K.lookup f21 = some ⟨oc21, od21, .func (PySem.W.fnOf "law" "law" (defArgs s_law) (defBody s_law) (defScope s_law) .none kV21 dc21 pm21 an21 cd21 ct21), sl21⟩) (c21 : PySem.W.codeIn K cd21 "law" = true) (k21 : PySem.W.keepIn K (.ref f21) = true)
    {t0 : Tok} (v0 : PySem.W.nsIn K mainGlobals "FIGURES" = some (some (.str "0123456789" t0)))
    {t1 : Tok} (v1 : PySem.W.nsIn K mainGlobals "LETTERS" = some (some (.str "abcdefghijklmnopqrstuvwxyz" t1)))
    {t2 : Tok} (v2 : PySem.W.nsIn K mainGlobals "MOST_FIGURES" = some (some (.int (61) t2)))
    {t3 : Tok} (v3 : PySem.W.nsIn K mainGlobals "MOST_HANDS_clocks" = some (some (.int (5) t3)))
    {t4 : Tok} (v4 : PySem.W.nsIn K mainGlobals "MOST_HANDS_texts" = some (some (.int (5) t4)))
    {t5 : Tok} (v5 : PySem.W.nsIn K mainGlobals "MOST_MARKS" = some (some (.int (1000000000000000000000000000000000000000000000000000000000000) t5)))
    {t6 : Tok} (v6 : PySem.W.nsIn K mainGlobals "MOST_READINGS" = some (some (.int (6) t6)))
    {t7 : Tok} (v7 : PySem.W.nsIn K mainGlobals "SMALL" = some (some (.str "abcdefghijklmnopqrstuvwxyz" t7)))
    (z0 : PySem.W.nsIn K mainGlobals "all" = some none)
    (z1 : PySem.W.nsIn K mainGlobals "bool" = some none)
    (z2 : PySem.W.nsIn K mainGlobals "enumerate" = some none)
    (z3 : PySem.W.nsIn K mainGlobals "int" = some none)
    (z4 : PySem.W.nsIn K mainGlobals "isinstance" = some none)
    (z5 : PySem.W.nsIn K mainGlobals "len" = some none)
    (z6 : PySem.W.nsIn K mainGlobals "list" = some none)
    (z7 : PySem.W.nsIn K mainGlobals "max" = some none)
    (z8 : PySem.W.nsIn K mainGlobals "min" = some none)
    (z9 : PySem.W.nsIn K mainGlobals "range" = some none)
    (z10 : PySem.W.nsIn K mainGlobals "str" = some none)
    (z11 : PySem.W.nsIn K mainGlobals "tuple" = some none) :
    ∃ fd : FuncData, (∀ (s : Shared) (v : Value), BindsTo s fd ⟨[v], []⟩ [("script", v)]) ∧ ∀ base : Heap, K.In base → base.Ns mainGlobals mg → FnOk l.prog w K mg base CX0 5 fa fd ["script"] (spF K (g_law w)) := by
  have e := hfa.symm.trans (PySem.W.mg_of X G a21)
  cases e
  obtain ⟨T, e1, e2⟩ := tx_mk X G a0 l0 c0 k0 a1 l1 c1 k1 a2 l2 c2 k2 a3 l3 c3 k3 a4 l4 c4 k4 a5 l5 c5 k5 a6 l6 c6 k6 a7 l7 c7 k7 a8 l8 c8 k8 a9 l9 c9 k9 a10 l10 c10 k10 a11 l11 c11 k11 a12 l12 c12 k12 a13 l13 c13 k13 a14 l14 c14 k14 a15 l15 c15 k15 a16 l16 c16 k16 a17 l17 c17 k17 a18 l18 c18 k18 a19 l19 c19 k19 a20 l20 c20 k20 a21 l21 c21 k21 v0 v1 v2 v3 v4 v5 v6 v7 z0 z1 z2 z3 z4 z5 z6 z7 z8 z9 z10 z11
  refine ⟨T.d_law, fun s v => ?_, fun base _ _ => ?_⟩
  · rw [e2]; exact .of_eq rfl
  · have := ok_law (P := l.prog) (w := w) (base := base) T
    rw [e1] at this
    exact this
end Lw

section
open PySem PySem.W PyProof.Rows
set_option maxHeartbeats 0 in
theorem Lw.walked (hlaw : ∀ (w : PySem.World) (ns : List Int), ns.length ≤ 63 → ∃ args', Lw.g_law w [.ro (ns.map .int)] = some (.bool true, args')) : PySem.Challenge.rw_dialdoubt_k53_clocks_written_and_read.Holds := by
  w_on
  refine Lw.wrap ?_
  k_fill
  refine L2.walk_of (l := PySem.Challenge.rw_dialdoubt_k53_clocks_written_and_read) (n := 63) (k := 5) (x := "script") (CX := fun _ => L2.CX0) (sp := fun w => M.spF _ (Lw.g_law w)) rfl (by decide) rfl ⟨rfl, by decide, by decide⟩ (fun w h Y => PySem.W.kIn_of Y) ?F (fun _ _ a ns hl _ hS => M.law_sp hS (hlaw _ ns hl)) (fun _ _ _ _ _ h => h)
  case F =>
    intro w mg fa h KX G hmg
    refine' Lw.all_mk KX G hmg ?a0 ?l0 ?c0 ?k0 ?a1 ?l1 ?c1 ?k1 ?a2 ?l2 ?c2 ?k2 ?a3 ?l3 ?c3 ?k3 ?a4 ?l4 ?c4 ?k4 ?a5 ?l5 ?c5 ?k5 ?a6 ?l6 ?c6 ?k6 ?a7 ?l7 ?c7 ?k7 ?a8 ?l8 ?c8 ?k8 ?a9 ?l9 ?c9 ?k9 ?a10 ?l10 ?c10 ?k10 ?a11 ?l11 ?c11 ?k11 ?a12 ?l12 ?c12 ?k12 ?a13 ?l13 ?c13 ?k13 ?a14 ?l14 ?c14 ?k14 ?a15 ?l15 ?c15 ?k15 ?a16 ?l16 ?c16 ?k16 ?a17 ?l17 ?c17 ?k17 ?a18 ?l18 ?c18 ?k18 ?a19 ?l19 ?c19 ?k19 ?a20 ?l20 ?c20 ?k20 ?a21 ?l21 ?c21 ?k21 ?v0 ?v1 ?v2 ?v3 ?v4 ?v5 ?v6 ?v7 ?z0 ?z1 ?z2 ?z3 ?z4 ?z5 ?z6 ?z7 ?z8 ?z9 ?z10 ?z11
    (case a0 => k_is); (case l0 => k_is); (case c0 => k_is); (case k0 => k_is); (case a1 => k_is); (case l1 => k_is); (case c1 => k_is); (case k1 => k_is); (case a2 => k_is); (case l2 => k_is); (case c2 => k_is); (case k2 => k_is); (case a3 => k_is); (case l3 => k_is); (case c3 => k_is); (case k3 => k_is); (case a4 => k_is); (case l4 => k_is); (case c4 => k_is); (case k4 => k_is); (case a5 => k_is); (case l5 => k_is); (case c5 => k_is); (case k5 => k_is); (case a6 => k_is); (case l6 => k_is); (case c6 => k_is); (case k6 => k_is); (case a7 => k_is); (case l7 => k_is); (case c7 => k_is); (case k7 => k_is); (case a8 => k_is); (case l8 => k_is); (case c8 => k_is); (case k8 => k_is); (case a9 => k_is); (case l9 => k_is); (case c9 => k_is); (case k9 => k_is); (case a10 => k_is); (case l10 => k_is); (case c10 => k_is); (case k10 => k_is); (case a11 => k_is); (case l11 => k_is); (case c11 => k_is); (case k11 => k_is); (case a12 => k_is); (case l12 => k_is); (case c12 => k_is); (case k12 => k_is); (case a13 => k_is); (case l13 => k_is); (case c13 => k_is); (case k13 => k_is); (case a14 => k_is); (case l14 => k_is); (case c14 => k_is); (case k14 => k_is); (case a15 => k_is); (case l15 => k_is); (case c15 => k_is); (case k15 => k_is); (case a16 => k_is); (case l16 => k_is); (case c16 => k_is); (case k16 => k_is); (case a17 => k_is); (case l17 => k_is); (case c17 => k_is); (case k17 => k_is); (case a18 => k_is); (case l18 => k_is); (case c18 => k_is); (case k18 => k_is); (case a19 => k_is); (case l19 => k_is); (case c19 => k_is); (case k19 => k_is); (case a20 => k_is); (case l20 => k_is); (case c20 => k_is); (case k20 => k_is); (case a21 => k_is); (case l21 => k_is); (case c21 => k_is); (case k21 => k_is); (case v0 => k_is); (case v1 => k_is); (case v2 => k_is); (case v3 => k_is); (case v4 => k_is); (case v5 => k_is); (case v6 => k_is); (case v7 => k_is); (case z0 => k_is); (case z1 => k_is); (case z2 => k_is); (case z3 => k_is); (case z4 => k_is); (case z5 => k_is); (case z6 => k_is); (case z7 => k_is); (case z8 => k_is); (case z9 => k_is); (case z10 => k_is); (case z11 => k_is)

end

namespace M
open PySem PySem.Spec PyProof.Rows L2
/-! ### all orders, rising -/
/-! rising -/
/-! sorted readings -/
end M

namespace M
open PySem PySem.Spec PyProof.Rows L2
theorem irange_nat (n : Nat) : irange 0 n = (List.range n).map fun (j : Nat) => PyData.int (j : Int) := by
  unfold irange
  exact List.map_congr_left fun j _ => by rw [Int.zero_add]
theorem wo_idxS {ls : List Str} {j : Nat} {Q : D → Prop} (h : j < ls.length) (q : Q (.str ls[j])) : WO (gIdx (.list (ls.map .str)) (.int (j : Int))) Q := by
  refine wo_idxL (by omega) (by rw [List.length_map]; omega) fun d hd _ => ?_
  rw [List.getElem?_map, Int.toNat_natCast, List.getElem?_eq_getElem h] at hd
  cases hd
  exact q
end M

namespace M
open PySem PySem.Spec PyProof.Rows L2
end M

namespace M
open PySem PySem.Spec PyProof.Rows L2
/-! ### pictures -/
abbrev Pc := Str × Int
def markI (h : Hd) (t : Int) : Int := h.2.1 + h.1 * t
def picL (m : Int) (hs : List Hd) (t : Int) : List Pc := hs.map fun h => (h.2.2, markI h t % m)
def movL (m sg r : Int) (l : List Pc) : List Pc := l.map fun p => (p.1, (sg * p.2 + r) % m)
def InM (m : Int) (l : List Pc) : Prop := ∀ p ∈ l, 0 ≤ p.2 ∧ p.2 < m
theorem picL_in {m : Int} (hm : 0 < m) (hs : List Hd) (t : Int) : InM m (picL m hs t) := fun p hp => by
  obtain ⟨h, _, rfl⟩ := List.mem_map.mp hp
  exact ⟨Int.emod_nonneg _ (by omega), Int.emod_lt_of_pos _ hm⟩
theorem movL_comp {m a r b s : Int} (l : List Pc) : movL m b s (movL m a r l) = movL m (b * a) (b * r + s) l := by
  unfold movL
  rw [List.map_map]
  refine List.map_congr_left fun p _ => ?_
  show (p.1, (b * ((a * p.2 + r) % m) + s) % m) = (p.1, (b * a * p.2 + (b * r + s)) % m)
  have e := Int.mul_ediv_add_emod (a * p.2 + r) m
  refine congrArg (Prod.mk p.1) (Int.emod_eq_emod_iff_emod_sub_eq_zero.mpr (Int.emod_eq_zero_of_dvd ⟨-(b * ((a * p.2 + r) / m)), ?_⟩))
  generalize (a * p.2 + r) / m = q at *
  generalize (a * p.2 + r) % m = w at *
  grind
theorem movL_id {m r : Int} {l : List Pc} (h : InM m l) (hr : m ∣ r) : movL m 1 r l = l := by
  unfold movL
  have : ∀ p ∈ l, (p.1, (1 * p.2 + r) % m) = p := fun p hp => by
    obtain ⟨c, rfl⟩ := hr
    rw [Int.one_mul, Int.add_mul_emod_self_left, Int.emod_eq_of_lt (h p hp).1 (h p hp).2]
  rw [List.map_congr_left this, List.map_id'']
  exact fun _ => rfl
/-- a sign that the clock allows -/
def SgOk (mir : Bool) (sg : Int) : Prop := sg = 1 ∨ (mir = true ∧ sg = -1)
/-- two ticks show one picture -/
def Show (m : Int) (hs : List Hd) (bl mir : Bool) (t u : Int) : Prop := ∃ sg r : Int, SgOk mir sg ∧ (bl = false → r = 0) ∧ (movL m sg r (picL m hs t)).Perm (picL m hs u)
theorem SgOk.sq {mir : Bool} {sg : Int} (h : SgOk mir sg) : sg * sg = 1 := by
  rcases h with h | ⟨_, h⟩ <;> subst h <;> rfl
theorem SgOk.mul {mir : Bool} {a b : Int} (h : SgOk mir a) (k : SgOk mir b) : SgOk mir (b * a) := by
  rcases h with rfl | ⟨h, rfl⟩
  · rcases k with rfl | ⟨k, rfl⟩
    · exact .inl rfl
    · exact .inr ⟨k, rfl⟩
  · rcases k with rfl | ⟨k, rfl⟩
    · exact .inr ⟨h, rfl⟩
    · exact .inl rfl
theorem Show.refl {m : Int} (hm : 0 < m) (hs : List Hd) (bl mir : Bool) (t : Int) : Show m hs bl mir t t := ⟨1, 0, .inl rfl, fun _ => rfl, by rw [movL_id (picL_in hm hs t) ⟨0, by omega⟩]⟩
theorem Show.symm {m : Int} (hm : 0 < m) {hs : List Hd} {bl mir : Bool} {t u : Int} (h : Show m hs bl mir t u) : Show m hs bl mir u t := by
  obtain ⟨sg, r, h1, h2, h3⟩ := h
  refine ⟨sg, -(sg * r), h1, fun b => by rw [h2 b]; omega, ?_⟩
  have h4 : (movL m sg (-(sg * r)) (movL m sg r (picL m hs t))).Perm (movL m sg (-(sg * r)) (picL m hs u)) := h3.map _
  rw [movL_comp, h1.sq, movL_id (picL_in hm hs t) ⟨0, by omega⟩] at h4
  exact h4.symm
theorem Show.trans {m : Int} {hs : List Hd} {bl mir : Bool} {t u w : Int} (h : Show m hs bl mir t u) (k : Show m hs bl mir u w) : Show m hs bl mir t w := by
  obtain ⟨a, r, h1, h2, h3⟩ := h
  obtain ⟨b, s, k1, k2, k3⟩ := k
  refine ⟨b * a, b * r + s, h1.mul k1, fun e => by rw [h2 e, k2 e]; omega, ?_⟩
  have h4 : (movL m b s (movL m a r (picL m hs t))).Perm (movL m b s (picL m hs u)) := h3.map _
  rw [movL_comp] at h4
  exact h4.trans k3
/-! by readings -/
end M

namespace M
open PySem PySem.Spec PyProof.Rows L2
theorem irange_at {n k : Nat} {d : D} (h : (irange 0 n)[k]? = some d) : d = .int (k : Int) ∧ k < n := by
  rw [irange_nat, List.getElem?_map] at h
  by_cases hk : k < n
  · rw [List.getElem?_range hk] at h
    cases h
    exact ⟨rfl, hk⟩
  · rw [List.getElem?_eq_none (by rw [List.length_range]; omega)] at h
    cases h
/-! rows of a table -/
end M

namespace M
open PySem PySem.Spec PyProof.Rows L2
/-! ### numbers solved -/
def natsI (n : Nat) : List Int := (List.range n).map fun (k : Nat) => (k : Int)
theorem irange_ints0 (n : Nat) : irange 0 n = (natsI n).map .int := by
  unfold natsI
  rw [irange_nat, List.map_map]
  rfl
theorem natsI_len (n : Nat) : (natsI n).length = n := by unfold natsI; rw [List.length_map, List.length_range]
theorem natsI_mem {n : Nat} {i : Int} (h : i ∈ natsI n) : 0 ≤ i ∧ i < n := by
  unfold natsI at h
  obtain ⟨k, hk, rfl⟩ := List.mem_map.mp h
  have := List.mem_range.mp hk
  omega
end M

namespace M
open PySem PySem.Spec PyProof.Rows L2
/-! ### a pot of draws: one number or two -/
inductive PotOk : List Int → Prop
  | one (a : Int) : PotOk [a]
  | two (a b : Int) : PotOk [a, b]
theorem map_erase {α β : Type} (f : α → β) : ∀ (l : List α) (k : Nat), (l.map f).eraseIdx k = (l.eraseIdx k).map f
  | [], _ => rfl
  | _ :: _, 0 => rfl
  | a :: l, k + 1 => by rw [List.map_cons, List.eraseIdx_cons_succ, List.eraseIdx_cons_succ, List.map_cons, map_erase f l k]
theorem rep_zero : ∀ k : Nat, (List.replicate k [PyData.int 0]).flatten = (List.replicate k (0 : Int)).map .int
  | 0 => rfl
  | k + 1 => by rw [List.replicate_succ, List.flatten_cons, rep_zero k]; rfl
theorem wo_idxInts {ns : List Int} {k : Int} {Q : D → Prop} (h0 : 0 ≤ k) (h1 : k < ns.length) (q : ∀ n, n ∈ ns → Q (.int n)) : WO (gIdx (.list (ns.map .int)) (.int k)) Q := by
  refine wo_idxL h0 (by rw [List.length_map]; exact h1) fun d _ hd => ?_
  obtain ⟨n, hn, rfl⟩ := List.mem_map.mp hd
  exact q n hn
end M

namespace M
open PySem PySem.Spec PyProof.Rows L2
/-! ### dicts by look-ups -/
theorem dfind_put (kvs : List (D × D)) (kd vd e : D) : dFind (dPut kvs kd vd) e = if nkOf e = nkOf kd then some vd else dFind kvs e := by
  unfold dPut
  cases hd : dFind kvs kd with
  | some d0 =>
    simp only [Option.isSome_some, if_true]
    unfold dFind at hd ⊢
    induction kvs with
    | nil => cases hd
    | cons p ps ih =>
      rw [List.find?_cons] at hd
      rw [List.map_cons, List.find?_cons]
      by_cases hp : nkOf p.1 = nkOf kd
      · rw [if_pos hp]
        by_cases he : nkOf e = nkOf kd
        · rw [if_pos he]
          have : decide (nkOf p.1 = nkOf e) = true := decide_eq_true (hp.trans he.symm)
          dsimp only
          rw [this]
          rfl
        · rw [if_neg he]
          have : decide (nkOf p.1 = nkOf e) = false := decide_eq_false fun z => he (z.symm.trans hp)
          dsimp only
          rw [this, List.find?_cons, this]
          dsimp only
          have hno : ∀ ps : List (D × D), ((ps.map fun p => if nkOf p.1 = nkOf kd then (p.1, vd) else p).find? fun p => decide (nkOf p.1 = nkOf e)).map (·.2) = (ps.find? fun p => decide (nkOf p.1 = nkOf e)).map (·.2) := by
            intro ps
            induction ps with
            | nil => rfl
            | cons q qs ih =>
              rw [List.map_cons, List.find?_cons, List.find?_cons]
              by_cases hq : nkOf q.1 = nkOf kd
              · rw [if_pos hq]
                have : decide (nkOf q.1 = nkOf e) = false := decide_eq_false fun z => he (z.symm.trans hq)
                dsimp only
                rw [this]
                exact ih
              · rw [if_neg hq]
                cases decide (nkOf q.1 = nkOf e)
                · exact ih
                · rfl
          exact hno ps
      · have hp' : decide (nkOf p.1 = nkOf kd) = false := decide_eq_false hp
        rw [hp'] at hd
        rw [if_neg hp, List.find?_cons]
        cases hpe : decide (nkOf p.1 = nkOf e) with
        | true =>
          have := of_decide_eq_true hpe
          rw [if_neg fun z => hp (this.trans z)]
        | false => exact ih hd
  | none =>
    simp only [Option.isSome_none, Bool.false_eq_true, if_false]
    unfold dFind at hd ⊢
    rw [List.find?_append]
    by_cases he : nkOf e = nkOf kd
    · rw [if_pos he]
      have hn : (kvs.find? fun p => decide (nkOf p.1 = nkOf e)) = none := by
        rw [he]
        exact Option.map_eq_none_iff.mp hd
      rw [hn, List.find?_cons]
      have : decide (nkOf kd = nkOf e) = true := decide_eq_true he.symm
      dsimp only
      rw [this]
      rfl
    · rw [if_neg he, List.find?_cons]
      have : decide (nkOf kd = nkOf e) = false := decide_eq_false fun z => he z.symm
      dsimp only
      rw [this]
      simp
theorem dput_all {P : D → Bool} {kvs : List (D × D)} {kd vd : D} (h : (kvs.all fun p => P p.1) = true) (hk : P kd = true) : ((dPut kvs kd vd).all fun p => P p.1) = true := by
  unfold dPut
  split
  · rw [List.all_map, List.all_eq_true]
    intro p hp
    have := List.all_eq_true.mp h p hp
    show P (if _ then _ else _ : D × D).1 = true
    split <;> exact this
  · rw [List.all_append, h]
    simp [hk]
theorem nk_str (x : Str) : nkOf (.str x) = some (.text x) := by unfold nkOf; rfl
theorem nk_str_iff {x y : Str} : nkOf (.str x) = nkOf (.str y) ↔ x = y := by
  rw [nk_str, nk_str]
  exact ⟨fun h => by cases h; rfl, fun h => by rw [h]⟩
/-! ### how many readings -/
def cntR {α : Type} [DecidableEq α] : List α → Nat
  | [] => 1
  | x :: xs => (xs.count x + 1) * cntR xs
structure MetOk (kvs : List (D × D)) (ls : List Str) : Prop where
  lk : (kvs.all fun p => isLK p.1) = true
  len : kvs.length ≤ ls.length
  at' : ∀ x, dFind kvs (.str x) = if ls.count x = 0 then none else some (.int (ls.count x : Nat))
theorem met_nil : MetOk [] [] := ⟨rfl, Nat.le_refl _, fun x => rfl⟩
theorem MetOk.mode {kvs : List (D × D)} {ls : List Str} (h : MetOk kvs ls) (x : Str) : kmode kvs (.str x) = true := by
  unfold kmode
  rw [h.lk]
  show (_ || (true && true)) = true
  rw [Bool.and_self, Bool.or_true]
theorem MetOk.getD {kvs : List (D × D)} {ls : List Str} (h : MetOk kvs ls) (x : Str) : (dFind kvs (.str x)).getD (.int 0) = .int (ls.count x : Nat) := by
  rw [h.at']
  split
  · rename_i e; rw [e]; rfl
  · rfl
theorem MetOk.put {kvs : List (D × D)} {ls : List Str} (h : MetOk kvs ls) (x : Str) : MetOk (dPut kvs (.str x) (.int ((ls.count x : Nat) + 1))) (x :: ls) := by
  refine ⟨dput_all h.lk rfl, ?_, fun y => ?_⟩
  · have := dput_len kvs (.str x) (.int ((ls.count x : Nat) + 1))
    have := h.len
    rw [List.length_cons]; omega
  · rw [dfind_put]
    by_cases e : y = x
    · subst e
      rw [if_pos rfl, List.count_cons_self, if_neg (by omega)]
      rfl
    · rw [if_neg fun z => e (nk_str_iff.mp z), h.at', List.count_cons_of_ne (fun z => e z.symm)]
theorem MetOk.after {kvs : List (D × D)} {ls : List Str} (h : MetOk kvs ls) (x : Str) : dFind (dPut kvs (.str x) (.int ((ls.count x : Nat) + 1))) (.str x) = some (.int ((ls.count x : Nat) + 1)) := by
  rw [dfind_put, if_pos rfl]
theorem cntR_perm {α : Type} [DecidableEq α] {xs ys : List α} (p : xs.Perm ys) : cntR xs = cntR ys := by
  induction p with
  | nil => rfl
  | cons x p ih => unfold cntR; rw [p.count_eq, ih]
  | swap x y l =>
    simp only [cntR]
    by_cases e : x = y
    · subst e; rfl
    · rw [List.count_cons_of_ne e, List.count_cons_of_ne (fun z => e z.symm), Nat.mul_left_comm]
  | trans _ _ h1 h2 => exact h1.trans h2
theorem cntR_le {α : Type} [DecidableEq α] : ∀ xs : List α, xs.length ≤ 6 → cntR xs ≤ 10 ^ 6
  | xs, h => by
    have : ∀ xs : List α, cntR xs ≤ 10 ^ xs.length ∨ 9 < xs.length := fun xs => by
      induction xs with
      | nil => exact .inl (Nat.le_refl _)
      | cons x xs ih =>
        rcases ih with ih | ih
        · by_cases hl : 9 < (x :: xs).length
          · exact .inr hl
          · left
            rw [List.length_cons] at hl ⊢
            have hc : xs.count x ≤ xs.length := List.count_le_length
            unfold cntR
            rw [Nat.pow_succ, Nat.mul_comm]
            exact Nat.mul_le_mul ih (by omega)
        · exact .inr (by rw [List.length_cons]; omega)
    rcases this xs with h1 | h1
    · exact Nat.le_trans h1 (Nat.pow_le_pow_right (by decide) h)
    · omega
def SeqD (ds : List D) (d : D) : Prop := d = .list ds ∨ d = .tuple ds
theorem SeqD.isS {ds : List D} {d : D} (h : SeqD ds d) (Q : List D → Prop) (q : Q ds) : IsS d Q := by
  rcases h with rfl | rfl
  · exact iss_l q
  · exact iss_t q
theorem SeqD.len {ds : List D} {d : D} (h : SeqD ds d) (Q : D → Prop) (q : Q (.int (ds.length : Int))) : WO (gLen d) Q := by
  rcases h with rfl | rfl
  · exact wo_lenL q
  · exact wo_lenT q
theorem lk_in {x : Str} (h : isLk x) (Q : D → Prop) (q : Q (.bool true)) : WO (gIs (.str x) (.str "abcdefghijklmnopqrstuvwxyz")) Q := by
  obtain ⟨c, h1, h2, rfl⟩ := h
  have key : ∀ c ∈ letters, (!(Builtin.Str.occurrences ("abcdefghijklmnopqrstuvwxyz" : Str) ⟨#[c]⟩ 0 ("abcdefghijklmnopqrstuvwxyz" : Str).length 1).isEmpty) = true := by decide +kernel
  have hm : c ∈ letters := by
    have e : letters = (List.range 26).map (· + 97) := by decide
    rw [e]
    exact List.mem_map.mpr ⟨c - 97, List.mem_range.mpr (by omega), by omega⟩
  exact ⟨_, by unfold gIs isIn; dsimp only; rw [key c hm]; rfl, q⟩
theorem lk_len {x : Str} (h : isLk x) : x.length = 1 := by
  obtain ⟨c, _, _, rfl⟩ := h
  rfl
theorem wo_lenS {x : Str} {Q : D → Prop} (q : Q (.int (x.length : Int))) (h : x.length < 1000) : WO (gLen (.str x)) Q :=
  ⟨_, by unfold gLen; dsimp only; rw [if_pos (fits_of (by omega))], q⟩
/-- hands by their rests -/
def redH (m : Int) (hs : List Hd) : List Hd := hs.map fun h => (h.1 % m, h.2.1 % m, h.2.2)
def redD (m : Int) : D → D
  | .tuple [.int g, .int s, x] => .tuple [.int (g % m), .int (s % m), x]
  | d => d
theorem redD_hands (m : Int) (hs : List Hd) : (hs.map hD).map (redD m) = (redH m hs).map hD := by
  unfold redH
  rw [List.map_map, List.map_map]
  rfl
theorem looks_red (m : Int) (hs : List Hd) : looksOf (redH m hs) = looksOf hs := by
  unfold redH
  show List.map _ (List.map _ hs) = _
  rw [List.map_map]
  rfl
end M

namespace M
open PySem PySem.Spec PyProof.Rows L2
/-! ### looks drawn: how many readings they make -/
theorem perm_erase {α : Type} : ∀ {l : List α} {i : Nat} (h : i < l.length), (l[i] :: l.eraseIdx i).Perm l
  | a :: l, 0, _ => by simp
  | a :: l, i + 1, h => (List.Perm.swap _ _ _).trans ((perm_erase (l := l) (by simpa using h)).cons a)
def allL (n : Nat) : Nat → List (List Nat)
  | 0 => [[]]
  | k + 1 => (List.range n).flatMap fun j => (allL n k).map (j :: ·)
theorem allL_mem {n : Nat} : ∀ {k : Nat} {o : List Nat}, o.length = k → (∀ j ∈ o, j < n) → o ∈ allL n k
  | 0, o, h, _ => by
    cases o with
    | nil => exact List.mem_singleton.mpr rfl
    | cons _ _ => simp at h
  | k + 1, o, h, hj => by
    cases o with
    | nil => simp at h
    | cons j o =>
      refine List.mem_flatMap.mpr ⟨j, List.mem_range.mpr (hj j List.mem_cons_self), List.mem_map.mpr ⟨o, allL_mem (by simpa using h) fun i hi => hj i (List.mem_cons_of_mem _ hi), rfl⟩⟩
def pt1 (w : Nat) (o a : List Nat) : List Nat := if 0 < w ∧ 1 < o.length then a.set (o.getD 1 0) (a.getD (o.getD 0 0) 0) else a
def pt2 (w : Nat) (o a : List Nat) : List Nat := if w = 2 ∧ 3 < o.length then a.set (o.getD 3 0) (a.getD (o.getD 2 0) 0) else a
def pt3 (w : Nat) (o a : List Nat) : List Nat := if w = 3 ∧ 2 < o.length then a.set (o.getD 2 0) (a.getD (o.getD 0 0) 0) else a
def pat (w : Nat) (o : List Nat) : List Nat := pt3 w o (pt2 w o (pt1 w o (List.range o.length)))
def patB (w : Nat) (o : List Nat) : Bool := !decide o.Nodup || (decide (cntR (pat w o) ≤ 6) && (decide (2 ≤ w) || decide (cntR (pat w o) ≤ 2)))
theorem pat_all : ((List.range 6).all fun n => (List.range 4).all fun w => (allL n n).all (patB w)) = true := by decide +kernel
theorem pat_le {w : Nat} {o : List Nat} (hn : o.length ≤ 5) (hw : w ≤ 3) (h : o.Nodup) (hj : ∀ j ∈ o, j < o.length) : cntR (pat w o) ≤ 6 ∧ (w < 2 → cntR (pat w o) ≤ 2) := by
  have h1 := List.all_eq_true.mp pat_all o.length (List.mem_range.mpr (by omega))
  have h2 := List.all_eq_true.mp h1 w (List.mem_range.mpr (by omega))
  have h3 := List.all_eq_true.mp h2 o (allL_mem rfl hj)
  unfold patB at h3
  rw [decide_eq_true h] at h3
  simp only [Bool.not_true, Bool.false_or, Bool.and_eq_true, decide_eq_true_eq, Bool.or_eq_true] at h3
  exact ⟨h3.1, fun hw => h3.2.resolve_left (by omega)⟩
theorem cntR_map {α β : Type} [DecidableEq α] [DecidableEq β] (f : α → β) : ∀ (xs : List α), (∀ a ∈ xs, ∀ b ∈ xs, f a = f b → a = b) → cntR (xs.map f) = cntR xs
  | [], _ => rfl
  | x :: xs, h => by
    have ih := cntR_map f xs fun a ha b hb => h a (List.mem_cons_of_mem _ ha) b (List.mem_cons_of_mem _ hb)
    have hc : (xs.map f).count (f x) = xs.count x := by
      have : ∀ ys : List α, (∀ y ∈ ys, y ∈ x :: xs) → (ys.map f).count (f x) = ys.count x := by
        intro ys
        induction ys with
        | nil => intro _; rfl
        | cons y ys ih =>
          intro hy
          have ih := ih fun z hz => hy z (List.mem_cons_of_mem _ hz)
          rw [List.map_cons]
          by_cases e : y = x
          · subst e
            rw [List.count_cons_self, List.count_cons_self, ih]
          · rw [List.count_cons_of_ne e, List.count_cons_of_ne (fun z => e (h y (hy y List.mem_cons_self) x List.mem_cons_self z)), ih]
      exact this xs fun y hy => List.mem_cons_of_mem _ hy
    rw [List.map_cons]
    show ((xs.map f).count (f x) + 1) * cntR (xs.map f) = (xs.count x + 1) * cntR xs
    rw [hc, ih]
/-- the letter of a number -/
def ltr (b s : Int) (i : Nat) : Str := ⟨#[97 + ((b + s * (i : Int)) % 26).toNat]⟩
theorem ltr_lk (b s : Int) (i : Nat) : isLk (ltr b s i) := by
  have h0 := Int.emod_nonneg (b + s * (i : Int)) (show (26 : Int) ≠ 0 by decide)
  have h1 := Int.emod_lt_of_pos (b + s * (i : Int)) (show (0 : Int) < 26 by decide)
  exact ⟨_, by omega, by omega, rfl⟩
theorem ltr_inj {b s : Int} (hs : s ∈ ([1, 3, 5, 7, 9, 11, 15, 17, 19, 21, 23, 25] : List Int)) {i j : Nat} (hi : i < 5) (hj : j < 5) (h : ltr b s i = ltr b s j) : i = j := by
  have h0 := Int.emod_nonneg (b + s * (i : Int)) (show (26 : Int) ≠ 0 by decide)
  have h2 := Int.emod_nonneg (b + s * (j : Int)) (show (26 : Int) ≠ 0 by decide)
  unfold ltr at h
  injection h with h
  have h : (97 + ((b + s * (i : Int)) % 26).toNat) = (97 + ((b + s * (j : Int)) % 26).toNat) := by
    have := congrArg Array.toList h
    simpa using this
  have h : (b + s * (i : Int)) % 26 = (b + s * (j : Int)) % 26 := by omega
  simp only [List.mem_cons, List.not_mem_nil, or_false] at hs
  rcases hs with rfl | rfl | rfl | rfl | rfl | rfl | rfl | rfl | rfl | rfl | rfl | rfl <;> omega
theorem wo_abc2 {k : Int} {Q : D → Prop} (h0 : 0 ≤ k) (h1 : k < 26) (q : Q (.str ⟨#[97 + k.toNat]⟩)) : WO (gIdx (.str "abcdefghijklmnopqrstuvwxyz") (.int k)) Q := by
  have hc : ("abcdefghijklmnopqrstuvwxyz" : Str).cps = letters.toArray := by decide +kernel
  have hl : letters.length = 26 := rfl
  have hk : k.toNat < letters.length := by omega
  have hv : letters[k.toNat] = 97 + k.toNat := by
    have : ∀ j, j < 26 → letters[j]? = some (97 + j) := by decide
    have := this k.toNat (by omega)
    rw [List.getElem?_eq_getElem hk] at this
    exact Option.some.inj this
  refine ⟨.str ⟨#[letters[k.toNat]]⟩, ?_, by rw [hv]; exact q⟩
  unfold gIdx
  dsimp only
  rw [if_pos (by decide +kernel), hc]
  rw [show letters.toArray.toList = letters from rfl]
  unfold atI ixN
  rw [if_pos h0, if_pos (by omega), Option.bind_some, List.getElem?_eq_getElem hk]
  rfl
theorem wo_idxNats {o : List Nat} {k : Nat} {Q : D → Prop} (h : k < o.length) (q : Q (.int (o.getD k 0 : Nat))) : WO (gIdx (.list ((o.map fun (j : Nat) => (j : Int)).map .int)) (.int (k : Int))) Q := by
  refine wo_idxL (by omega) (by rw [List.length_map, List.length_map]; omega) fun d hd _ => ?_
  rw [List.getElem?_map, List.getElem?_map, Int.toNat_natCast, List.getElem?_eq_getElem h] at hd
  rw [List.getD_eq_getElem?_getD, List.getElem?_eq_getElem h] at q
  cases hd
  exact q
theorem wo_idxLs {a : List Nat} {f : Nat → Str} {k : Nat} {Q : D → Prop} (h : k < a.length) (q : Q (.str (f (a.getD k 0)))) : WO (gIdx (.list ((a.map f).map .str)) (.int (k : Int))) Q := by
  refine wo_idxL (by omega) (by rw [List.length_map, List.length_map]; omega) fun d hd _ => ?_
  rw [List.getElem?_map, List.getElem?_map, Int.toNat_natCast, List.getElem?_eq_getElem h] at hd
  rw [List.getD_eq_getElem?_getD, List.getElem?_eq_getElem h] at q
  cases hd
  exact q
/-- looks and a mirror that make six readings at most -/
def RdOk (ls : List Str) (mir : Bool) : Prop := cntR ls * (1 + if mir then 1 else 0) ≤ 6
end M

namespace M
open PySem PySem.Spec PyProof.Rows L2
theorem shp_clock {m : Int} {hs : List Hd} {bl mir : Bool} (hk : HandsOk m hs) : shp (clockD m hs bl mir) = true := (lay_tup (n := 2) fun d hd => by
  simp only [List.mem_cons, List.not_mem_nil, or_false] at hd
  rcases hd with rfl | rfl | rfl | rfl
  · exact lay_int _
  · refine lay_tup (n := 1) fun d hd => ?_
    obtain ⟨h, hh, rfl⟩ := List.mem_map.mp hd
    exact lay_hD (n := 0) (hk h hh).2.2.2.2
  · exact lay_bool _
  · exact lay_bool _).shp (by omega)
end M

namespace M
open PySem PySem.Spec PyProof.Rows L2
/-! ### texts of clocks -/
section
open TL
/-- a number, written -/
abbrev iS (z : Int) : Str := Str.ofString (toString z)
theorem tl_iS {z : Int} (h : 0 ≤ z) : tl (iS z) = numL z.toNat := by
  obtain ⟨n, rfl⟩ := Int.eq_ofNat_of_zero_le h
  exact tl_num n
theorem iS_len {z : Int} (h : 0 ≤ z) (h2 : z < 10 ^ 61) : 1 ≤ (iS z).length ∧ (iS z).length ≤ 61 := by
  rw [len_tl, tl_iS h]
  refine ⟨?_, numL_len (by decide) (by omega)⟩
  cases e : numL z.toNat with
  | nil => exact absurd e (numL_ne _)
  | cons a l => simp
theorem iS_int {z : Int} (h : 0 ≤ z) (h2 : z < 10 ^ 61) : PySem.intText? (iS z) = some z := by
  have hl := (iS_len h h2).2
  rw [len_tl, tl_iS h] at hl
  obtain ⟨n, rfl⟩ := Int.eq_ofNat_of_zero_le h
  exact int_num (by rw [Int.toNat_natCast] at hl; omega)
/-- a nought stands ahead of 0 alone -/
theorem numL_head (n : Nat) : ∀ c l, numL n = c :: l → c = 48 → l = [] := by
  induction n using Nat.strongRecOn with
  | _ n ih =>
    intro c l e hc
    by_cases h : n < 10
    · rw [numL_lt h] at e
      cases e; rfl
    · rw [numL_step (by omega)] at e
      cases e2 : numL (n / 10) with
      | nil => exact absurd e2 (numL_ne _)
      | cons d r =>
        rw [e2, List.cons_append] at e
        injection e with e3 e4
        have h1 := ih (n / 10) (by omega) d r e2 (e3.trans hc)
        subst h1
        have h3 := congrArg NumText.digitsVal e2
        rw [numL_val, e3.trans hc] at h3
        have : n / 10 = 0 := h3
        omega
/-- the row of a hand -/
def rowH (h : Hd) : Str := "hand " ++ iS h.1 ++ " " ++ iS h.2.1 ++ " " ++ h.2.2
def rowM (m : Int) : Str := "dial " ++ iS m
def trowsL (m : Int) (hs : List Hd) (bl mir : Bool) : List Str := [rowM m] ++ (if bl then [("blank" : Str)] else []) ++ (if mir then [("mirror" : Str)] else []) ++ hs.map rowH
def textS (m : Int) (hs : List Hd) (bl mir : Bool) : Str := Txt.join "\n" (trowsL m hs bl mir)
/-- hands that can be written -/
def HandsT (hs : List Hd) : Prop := ∀ h ∈ hs, 0 ≤ h.1 ∧ h.1 < 10 ^ 61 ∧ 0 ≤ h.2.1 ∧ h.2.1 < 10 ^ 61 ∧ isLk h.2.2
theorem tl_lk {x : Str} (h : isLk x) : ∃ c, 97 ≤ c ∧ c ≤ 122 ∧ tl x = [c] := by
  obtain ⟨c, h1, h2, rfl⟩ := h
  exact ⟨c, h1, h2, rfl⟩
theorem iS_free {z : Int} (h : 0 ≤ z) {s : Nat} (hs : s < 48 ∨ 57 < s) : s ∉ tl (iS z) := by rw [tl_iS h]; exact numL_free hs
theorem rowH_words {h : Hd} (h0 : 0 ≤ h.1) (h1 : 0 ≤ h.2.1) (hx : isLk h.2.2) : Txt.split (rowH h) " " = [("hand" : Str), iS h.1, iS h.2.1, h.2.2] := by
  have e : rowH h = Txt.join " " [("hand" : Str), iS h.1, iS h.2.1, h.2.2] := by
    refine ext_tl ?_
    rw [join_eq]
    show tl ("hand " ++ iS h.1 ++ " " ++ iS h.2.1 ++ " " ++ h.2.2) = tl ("hand" ++ " " ++ (iS h.1 ++ " " ++ (iS h.2.1 ++ " " ++ h.2.2)))
    simp only [tl_append, List.append_assoc]
    rfl
  rw [e]
  refine split_join (s := 32) (S := []) (by decide +kernel) (by decide +kernel) (by simp) fun p hp => ?_
  simp only [List.mem_cons, List.not_mem_nil, or_false] at hp
  rcases hp with rfl | rfl | rfl | rfl
  · decide +kernel
  · exact iS_free h0 (by omega)
  · exact iS_free h1 (by omega)
  · obtain ⟨c, c1, c2, e⟩ := tl_lk hx
    rw [e]
    intro hm
    have := List.mem_singleton.mp hm
    omega
theorem rowM_words {m : Int} (h0 : 0 ≤ m) : Txt.split (rowM m) " " = [("dial" : Str), iS m] := by
  have e : rowM m = Txt.join " " [("dial" : Str), iS m] := by
    refine ext_tl ?_
    rw [join_eq]
    show tl ("dial " ++ iS m) = tl ("dial" ++ " " ++ iS m)
    simp only [tl_append, List.append_assoc]
    rfl
  rw [e]
  refine split_join (s := 32) (S := []) (by decide +kernel) (by decide +kernel) (by simp) fun p hp => ?_
  simp only [List.mem_cons, List.not_mem_nil, or_false] at hp
  rcases hp with rfl | rfl
  · decide +kernel
  · exact iS_free h0 (by omega)
theorem rowH_free {h : Hd} (h0 : 0 ≤ h.1) (h1 : 0 ≤ h.2.1) (hx : isLk h.2.2) : 10 ∉ tl (rowH h) := by
  obtain ⟨c, c1, c2, e⟩ := tl_lk hx
  have f1 := iS_free h0 (s := 10) (by omega)
  have f2 := iS_free h1 (s := 10) (by omega)
  have f3 : 10 ∉ tl "hand " := by decide +kernel
  have f4 : 10 ∉ tl " " := by decide +kernel
  unfold rowH
  simp only [tl_append, List.mem_append, not_or]
  refine ⟨⟨⟨⟨⟨f3, f1⟩, f4⟩, f2⟩, f4⟩, ?_⟩
  rw [e]
  intro hm
  have := List.mem_singleton.mp hm
  omega
theorem rowM_free {m : Int} (h0 : 0 ≤ m) : 10 ∉ tl (rowM m) := by
  have f1 := iS_free h0 (s := 10) (by omega)
  have f3 : 10 ∉ tl "dial " := by decide +kernel
  unfold rowM
  simp only [tl_append, List.mem_append, not_or]
  exact ⟨f3, f1⟩
theorem text_rows {m : Int} {hs : List Hd} {bl mir : Bool} (h0 : 0 ≤ m) (hk : HandsT hs) : Txt.split (textS m hs bl mir) "\n" = trowsL m hs bl mir := by
  unfold textS
  refine split_join (s := 10) (S := []) (by decide +kernel) (by decide +kernel) (by simp [trowsL]) fun p hp => ?_
  unfold trowsL at hp
  simp only [List.mem_append, List.mem_singleton, List.mem_map] at hp
  rcases hp with ((rfl | hp) | hp) | ⟨h, hh, rfl⟩
  · exact rowM_free h0
  · cases bl
    · cases hp
    · rw [List.mem_singleton.mp hp]; decide +kernel
  · cases mir
    · cases hp
    · rw [List.mem_singleton.mp hp]; decide +kernel
  · obtain ⟨a1, _, a3, _, a5⟩ := hk h hh
    exact rowH_free a1 a3 a5
theorem rowH_len {h : Hd} (h0 : 0 ≤ h.1) (h1 : h.1 < 10 ^ 61) (h2 : 0 ≤ h.2.1) (h3 : h.2.1 < 10 ^ 61) (hx : isLk h.2.2) : (rowH h).length ≤ 130 := by
  have e1 := (iS_len h0 h1).2
  have e2 := (iS_len h2 h3).2
  obtain ⟨c, c1, c2, e⟩ := tl_lk hx
  rw [len_tl] at e1 e2 ⊢
  unfold rowH
  simp only [tl_append, List.length_append]
  rw [e, show (tl "hand ").length = 5 by decide +kernel, show (tl " ").length = 1 by decide +kernel]
  simp only [List.length_singleton]
  omega
theorem rowM_len {m : Int} (h0 : 0 ≤ m) (h1 : m < 10 ^ 61) : (rowM m).length ≤ 66 := by
  have e1 := (iS_len h0 h1).2
  rw [len_tl] at e1 ⊢
  unfold rowM
  simp only [tl_append, List.length_append]
  rw [show (tl "dial ").length = 5 by decide +kernel]
  omega
theorem rows_len {m : Int} {hs : List Hd} {bl mir : Bool} (hn : hs.length ≤ 6) : (trowsL m hs bl mir).length ≤ 9 := by
  unfold trowsL
  simp only [List.length_append, List.length_map, List.length_singleton]
  cases bl <;> cases mir <;> simp <;> omega
theorem rows_each {m : Int} {hs : List Hd} {bl mir : Bool} (h0 : 0 ≤ m) (h1 : m < 10 ^ 61) (hk : HandsT hs) : ∀ y ∈ trowsL m hs bl mir, y.length ≤ 130 := by
  intro p hp
  unfold trowsL at hp
  simp only [List.mem_append, List.mem_singleton, List.mem_map] at hp
  rcases hp with ((rfl | hp) | hp) | ⟨h, hh, rfl⟩
  · have := rowM_len h0 h1; omega
  · cases bl
    · cases hp
    · rw [List.mem_singleton.mp hp]; decide +kernel
  · cases mir
    · cases hp
    · rw [List.mem_singleton.mp hp]; decide +kernel
  · obtain ⟨a1, a2, a3, a4, a5⟩ := hk h hh
    exact rowH_len a1 a2 a3 a4 a5
theorem sum_le130 {ys : List Str} (h : ∀ y ∈ ys, y.length ≤ 130) : (ys.map (·.length)).sum ≤ ys.length * 130 := by
  induction ys with
  | nil => simp
  | cons y ys ih =>
    have h1 := h y List.mem_cons_self
    have h2 := ih fun z hz => h z (List.mem_cons_of_mem _ hz)
    simp only [List.map_cons, List.sum_cons, List.length_cons]
    omega
theorem text_len {m : Int} {hs : List Hd} {bl mir : Bool} (h0 : 0 ≤ m) (h1 : m < 10 ^ 61) (hn : hs.length ≤ 6) (hk : HandsT hs) : (textS m hs bl mir).length ≤ 2000 := by
  have e1 := sum_le130 (rows_each (bl := bl) (mir := mir) h0 h1 hk)
  have e2 := rows_len (m := m) (bl := bl) (mir := mir) hn
  unfold textS
  rw [join_eq]
  have := StrLaws.join_length_le ("\n" : Str) (trowsL m hs bl mir)
  rw [show ("\n" : Str).length = 1 by decide +kernel] at this
  omega
end

section
open TL
theorem strOk_tl {x : Str} (h : ∀ c ∈ tl x, c < 1114112) : PyData.strOk x = true := by
  unfold PyData.strOk
  rw [← Array.all_toList, List.all_eq_true]
  exact fun c hc => decide_eq_true (h c hc)
theorem strOk_iS {z : Int} (h : 0 ≤ z) : PyData.strOk (iS z) = true := strOk_tl fun c hc => by
  rw [tl_iS h] at hc
  have := numL_digits _ c hc
  omega
theorem lay_txtT {n : Nat} {x : Str} (h : PyData.strOk x = true) : Lay n (.str x) := ⟨h, Nat.zero_le _⟩
theorem wo_eqST {x y : Str} {Q : D → Prop} (h1 : PyData.strOk x = true) (h2 : PyData.strOk y = true) (q : Q (.bool (decide (x = y)))) : WO (gEq (.str x) (.str y)) Q :=
  wo_eqD ((lay_txtT (n := 0) h1).shp (by omega)) ((lay_txtT (n := 0) h2).shp (by omega)) (by rw [eqv_str]; exact q)
theorem wo_neST {x y : Str} {Q : D → Prop} (h1 : PyData.strOk x = true) (h2 : PyData.strOk y = true) (q : Q (.bool (!decide (x = y)))) : WO (gNe (.str x) (.str y)) Q :=
  wo_neD ((lay_txtT (n := 0) h1).shp (by omega)) ((lay_txtT (n := 0) h2).shp (by omega)) (by rw [eqv_str]; exact q)
theorem wl_itS {f : Ef} {env : En} {Q : List D → En → Prop} (h : WE f env fun x e => ∃ s : Str, x = .str s ∧ Q (signs s) e) : WL (lIt f) env Q := by
  obtain ⟨x, e, h1, s, rfl, q⟩ := h
  exact ⟨_, e, by unfold lIt; rw [h1]; rfl, q⟩
theorem wo_lenST {x : Str} {Q : D → Prop} (h : x.length ≤ 16777216) (q : Q (.int (x.length : Int))) : WO (gLen (.str x)) Q := ⟨_, by unfold gLen; dsimp only; rw [if_pos (fits_of h)], q⟩
theorem wo_addST {x y : Str} {Q : D → Prop} (h : x.length + y.length ≤ 16777216) (q : Q (.str (x ++ y))) : WO (gAdd (.str x) (.str y)) Q := ⟨_, by unfold gAdd; dsimp only; rw [if_pos (fits_of h)], q⟩
theorem wo_strI {z : Int} {Q : D → Prop} (h : z.natAbs < 10 ^ 200) (q : Q (.str (iS z))) : WO (gStr (.int z)) Q := ⟨_, by unfold gStr; dsimp only; rw [if_pos (decide_eq_true h)], q⟩
theorem wo_intT {x : Str} {z : Int} {Q : D → Prop} (h : x.length ≤ 640) (h2 : PySem.intText? x = some z) (q : Q (.int z)) : WO (gIntT (.str x)) Q := ⟨_, by unfold gIntT; dsimp only; rw [if_pos (decide_eq_true h), h2]; rfl, q⟩
theorem wo_first {x : Str} {c : Nat} {l : List Nat} {Q : D → Prop} (h : tl x = c :: l) (hl : x.length ≤ 16777216) (q : Q (.str ⟨#[c]⟩)) : WO (gIdx (.str x) (.int 0)) Q := by
  refine ⟨.str ⟨#[c]⟩, ?_, q⟩
  unfold gIdx
  dsimp only
  rw [if_pos (fits_of hl)]
  unfold atI ixN
  rw [show x.cps.toList = c :: l from h]
  simp
theorem fig_in {c : Nat} (h1 : 48 ≤ c) (h2 : c ≤ 57) (Q : D → Prop) (q : Q (.bool true)) : WO (gIs (.str ⟨#[c]⟩) (.str "0123456789")) Q := by
  have key : ∀ c ∈ (List.range 10).map (· + 48), (!(Builtin.Str.occurrences ("0123456789" : Str) ⟨#[c]⟩ 0 ("0123456789" : Str).length 1).isEmpty) = true := by decide +kernel
  have hm : c ∈ (List.range 10).map (· + 48) := List.mem_map.mpr ⟨c - 48, List.mem_range.mpr (by omega), by omega⟩
  exact ⟨_, by unfold gIs isIn; dsimp only; rw [key c hm]; rfl, q⟩
theorem wo_mulIf {x : D} {b : Bool} {Q : D → Prop} (q : Q (.list (if b then [x] else []))) : WO (gMul (.list [x]) (.int (if b then 1 else 0))) Q := by
  cases b
  · exact ⟨_, rfl, q⟩
  · exact ⟨_, rfl, q⟩
theorem wo_addIf {x y : D} {b : Bool} {Q : D → Prop} (q : Q (.list ([x] ++ if b then [y] else []))) : WO (gAdd (.list [x]) (.list (if b then [y] else []))) Q := by
  cases b
  · exact ⟨_, rfl, q⟩
  · exact ⟨_, rfl, q⟩
theorem trows_snoc {m : Int} {hs : List Hd} {h : Hd} {bl mir : Bool} : trowsL m (hs ++ [h]) bl mir = trowsL m hs bl mir ++ [rowH h] := by
  unfold trowsL
  rw [List.map_append, ← List.append_assoc]
  rfl
theorem wo_atS {ys : List Str} {k : Nat} {y : Str} {Q : D → Prop} (h : ys[k]? = some y) (q : Q (.str y)) : WO (gIdx (.list (ys.map .str)) (.int (k : Int))) Q := by
  have hl := (List.getElem?_eq_some_iff.mp h).1
  refine wo_idxL (by omega) (by rw [List.length_map]; omega) fun d hd _ => ?_
  rw [List.getElem?_map, Int.toNat_natCast, h] at hd
  obtain rfl := Option.some.inj hd
  exact q
theorem rowH_tl (h : Hd) : ∃ l, tl (rowH h) = 104 :: l := by
  refine ⟨tl (("and " : Str) ++ iS h.1 ++ " " ++ iS h.2.1 ++ " " ++ h.2.2), ?_⟩
  unfold rowH
  simp only [tl_append]
  rfl
theorem rowH_not {h : Hd} {x : Str} {c : Nat} {l : List Nat} (hx : tl x = c :: l) (hc : c ≠ 104) : rowH h ≠ x := fun e => by
  obtain ⟨l2, h2⟩ := rowH_tl h
  rw [e, hx] at h2
  injection h2 with h3 _
  exact hc h3
theorem row_blank (m : Int) (h : Hd) (t : List Hd) (bl mir : Bool) : ∃ y : Str, (trowsL m (h :: t) bl mir)[1]? = some y ∧ decide (y = "blank") = bl ∧ (y = "blank" ∨ y = "mirror" ∨ y = rowH h) := by
  cases bl
  · cases mir
    · exact ⟨rowH h, rfl, decide_eq_false (rowH_not (c := 98) (l := [108, 97, 110, 107]) (by decide +kernel) (by decide)), .inr (.inr rfl)⟩
    · exact ⟨"mirror", rfl, by decide +kernel, .inr (.inl rfl)⟩
  · exact ⟨"blank", rfl, by decide +kernel, .inl rfl⟩
theorem row_mirror (m : Int) (h : Hd) (t : List Hd) (bl mir : Bool) : ∃ y : Str, (trowsL m (h :: t) bl mir)[1 + (if bl then 1 else 0)]? = some y ∧ decide (y = "mirror") = mir ∧ (y = "mirror" ∨ y = rowH h) := by
  cases mir
  · cases bl
    · exact ⟨rowH h, rfl, decide_eq_false (rowH_not (c := 109) (l := [105, 114, 114, 111, 114]) (by decide +kernel) (by decide)), .inr rfl⟩
    · exact ⟨rowH h, rfl, decide_eq_false (rowH_not (c := 109) (l := [105, 114, 114, 111, 114]) (by decide +kernel) (by decide)), .inr rfl⟩
  · cases bl
    · exact ⟨"mirror", rfl, by decide +kernel, .inl rfl⟩
    · exact ⟨"mirror", rfl, by decide +kernel, .inl rfl⟩
theorem trows_hand {m : Int} {hs : List Hd} {bl mir : Bool} {k : Nat} (hk : k < hs.length) : (trowsL m hs bl mir)[1 + (if bl then 1 else 0) + (if mir then 1 else 0) + k]? = some (rowH hs[k]) := by
  have h2 : (hs.map rowH)[k]? = some (rowH hs[k]) := by rw [List.getElem?_map, List.getElem?_eq_getElem hk]; rfl
  unfold trowsL
  rw [List.getElem?_append_right (by cases bl <;> cases mir <;> simp <;> omega)]
  rw [← h2]
  congr 1
  cases bl <;> cases mir <;> simp <;> omega
theorem trows_len {m : Int} {hs : List Hd} {bl mir : Bool} : (trowsL m hs bl mir).length = 1 + (if bl then 1 else 0) + (if mir then 1 else 0) + hs.length := by
  unfold trowsL
  simp only [List.length_append, List.length_map, List.length_singleton]
  cases bl <;> cases mir <;> simp
theorem strOk_rowH {h : Hd} (h0 : 0 ≤ h.1) (h1 : 0 ≤ h.2.1) (hx : isLk h.2.2) : PyData.strOk (rowH h) = true := strOk_tl fun c hc => by
  obtain ⟨d, d1, d2, e⟩ := tl_lk hx
  unfold rowH at hc
  simp only [tl_append, List.mem_append] at hc
  rw [tl_iS h0, tl_iS h1, e] at hc
  rcases hc with ((((hc | hc) | hc) | hc) | hc) | hc
  · have : ∀ c ∈ tl "hand ", c < 1114112 := by decide +kernel
    exact this c hc
  · have := numL_digits _ c hc; omega
  · have : ∀ c ∈ tl " ", c < 1114112 := by decide +kernel
    exact this c hc
  · have := numL_digits _ c hc; omega
  · have : ∀ c ∈ tl " ", c < 1114112 := by decide +kernel
    exact this c hc
  · have := List.mem_singleton.mp hc; omega
theorem wo_eqNilT {hs : List Hd} {Q : D → Prop} (h : ∀ h ∈ hs, isLk h.2.2) (q : Q (.bool (decide (hs = [])))) : WO (gEq (.list (hs.map hD)) (.list [])) Q := by
  refine wo_eqD ((lay_lst (n := 1) fun d hd => by
    obtain ⟨x, hx, rfl⟩ := List.mem_map.mp hd
    refine lay_tup fun d hd => ?_
    simp only [List.mem_cons, List.not_mem_nil, or_false] at hd
    rcases hd with rfl | rfl | rfl
    · exact lay_int _
    · exact lay_int _
    · exact lay_lk (h x hx)).shp (by omega)) rfl ?_
  rw [show PyData.eqv (.list (hs.map hD)) (.list []) = decide (hs = []) by cases hs <;> rfl]
  exact q
end

end M

namespace Lw
open PySem PySem.Spec PyProof.Rows L2 M
local macro_rules | `(tactic| walk_at "sd") => `(tactic| (first | (with_reducible assumption) | omega | (simp; done) | (simp; omega) | decide))
local macro_rules | `(tactic| walk_at "v1") => `(tactic| (first | ((with_reducible show WE _ _ _); first | with_reducible refine we_chain3 ?_ | with_reducible refine we_callNL ?_ | with_reducible refine we_callN ?_ | with_reducible refine we_c ?_ | with_reducible refine we_un ?_ | with_reducible refine we_bin ?_ | with_reducible refine we_chain ?_ | with_reducible refine we_and ?_ | with_reducible refine we_or ?_ | with_reducible refine we_not ?_ | with_reducible refine we_if ?_ | with_reducible refine we_fz ?_ | with_reducible refine we_tup ?_ | with_reducible refine we_sl ?_ | with_reducible refine we_tupRg ?_ | with_reducible refine we_bor ?_ | with_reducible refine we_call ?_ | with_reducible refine we_din ?_ | with_reducible refine we_borL ?_ | ((with_reducible apply we_v); (· rfl)) | ((with_reducible show WE (eO _) _ _); first | ((with_reducible apply we_oV); (· rfl)) | ((with_reducible apply we_oW); (· rfl)) | ((with_reducible apply we_oR); (· rfl))) | ((with_reducible show WE (eBinV _ _ _) _ _); first | ((with_reducible apply we_bV); (· rfl)) | ((with_reducible apply we_bVr); (· rfl)) | ((with_reducible apply we_bVv); (· rfl))) | ((with_reducible apply we_mut); (· rfl)) | ((with_reducible apply we_mut0); (· rfl)) | ((with_reducible apply we_dget2); (· rfl)) | ((with_reducible apply we_didx); (· rfl))) | ((with_reducible show WO _ _); first | ((with_reducible show WO (gIsO _ _) _); first | with_reducible refine wo_isON ?_ | ((with_reducible refine wo_isO (b := true) ?_ ?_); (· rfl)) | ((with_reducible refine wo_isO (b := false) ?_ ?_); (· rfl))) | with_reducible refine wo_attr ?_ | ((with_reducible show WO (valsA _) _); first | with_reducible refine vals_nil ?_ | with_reducible refine vals_v ?_) | with_reducible refine wo_isB ?_ | with_reducible refine wo_ntB ?_ | ((with_reducible show WO (backAr _ _ _) _); first | with_reducible refine back_nil ?_ | with_reducible refine back_v ?_ | with_reducible refine back_o ?_ | ((with_reducible apply back_r); (· rfl))) | ((with_reducible show WO (resArs _ _) _); first | with_reducible refine res_nil ?_ | with_reducible refine res_v ?_ | ((with_reducible apply res_r); (· rfl)) | ((with_reducible apply res_oO); (· rfl)) | ((with_reducible apply res_oR); (· rfl)) | ((with_reducible apply res_oV); (· rfl))) | ((with_reducible show WO (gAdd _ _) _); first | with_reducible refine wo_add ?_ | ((with_reducible refine wo_addL ?_ ?_); (· first | rfl | (apply fits_of; first | omega | (simp; omega)))) | ((with_reducible refine wo_addT ?_ ?_); (· first | rfl | (apply fits_of; first | omega | (simp; omega))))) | with_reducible refine wo_sub ?_ | with_reducible refine wo_neg ?_ | with_reducible refine wo_lt ?_ | with_reducible refine wo_le ?_ | with_reducible refine wo_gt ?_ | with_reducible refine wo_ge ?_ | ((with_reducible show WO (gEq _ _) _); first | with_reducible refine wo_eq ?_ | with_reducible refine wo_eqB ?_ | ((with_reducible refine wo_eqT ?_ ?_); (· decide +kernel)) | ((with_reducible refine wo_eqF ?_ ?_); (· decide +kernel))) | ((with_reducible show WO (gNe _ _) _); first | with_reducible refine wo_ne ?_ | with_reducible refine wo_neB ?_ | ((with_reducible refine wo_neT ?_ ?_); (· decide +kernel)) | ((with_reducible refine wo_neF ?_ ?_); (· decide +kernel))) | with_reducible refine wo_isN ?_ | with_reducible refine wo_ntN ?_ | ((with_reducible show WO (gLen _) _); first | with_reducible refine wo_lenL ?_ | with_reducible refine wo_lenT ?_) | with_reducible refine wo_abs ?_ | ((with_reducible show WO (gInt _) _); first | with_reducible refine wo_intB ?_ | with_reducible refine wo_intI ?_) | ((with_reducible show WO (gList _) _); first | with_reducible refine wo_listL ?_ | with_reducible refine wo_listT ?_) | ((with_reducible show WO (gTuple _) _); first | with_reducible refine wo_tupL ?_ | with_reducible refine wo_tupT ?_) | with_reducible refine wo_max ?_ | with_reducible refine wo_min ?_ | ((with_reducible show WO (gIsi _ _) _); first | with_reducible refine wo_isiI ?_ | with_reducible refine wo_isiB ?_ | ((with_reducible apply wo_isiE); (· rfl))) | ((with_reducible show WO (cutOf _ _ _) _); first | with_reducible refine wo_cutL ?_ | with_reducible refine wo_cutT ?_) | ((with_reducible show WO (gPow _ _) _); first | with_reducible refine wo_p10_60 ?_ | with_reducible refine wo_p10_18 ?_ | with_reducible refine wo_p10_30 ?_ | with_reducible refine wo_p2_24 ?_ | with_reducible refine wo_p10_8 ?_ | with_reducible refine wo_p10_19 ?_ | with_reducible refine wo_p10_55 ?_ | with_reducible refine wo_p10_59 ?_ | with_reducible refine wo_p3_30 ?_ | with_reducible refine wo_p2_40 ?_ | with_reducible refine wo_p10_54 ?_ | with_reducible refine wo_p3_13 ?_ | with_reducible refine wo_p2_20 ?_ | with_reducible refine wo_p10_57 ?_ | with_reducible refine wo_p10_40 ?_ | with_reducible refine wo_p10_61 ?_ | with_reducible refine wo_p10_50 ?_) | ((with_reducible apply wo_idxE); (· rfl)) | ((with_reducible apply wo_allE); (· rfl)) | ((with_reducible apply wo_anyE); (· rfl)) | ((with_reducible show WO (ixN _ _) _); first | ((with_reducible apply wo_ixE); (· rfl)) | ((with_reducible refine wo_ix ?_ ?_ ?_); (· walk_at "sd"); (· walk_at "sd"))) | ((with_reducible refine wo_mod ?_ ?_); (· walk_at "sd")) | ((with_reducible refine wo_div ?_ ?_ ?_); (· walk_at "sd"); (· walk_at "sd")) | ((with_reducible refine wo_mul ?_ ?_); (· first | exact mul_ok1 (by walk_at "sd") | exact mul_ok2 (by walk_at "sd") | exact mul_ok3 (by omega) (by omega))) | ((with_reducible refine wo_app ?_ ?_); (· first | rfl | (apply fits_of; first | omega | (simp; omega)))) | ((with_reducible refine wo_ext ?_ ?_); (· first | rfl | (apply fits_of; first | omega | (simp; omega))))) | ((with_reducible show WS _ _ _); first | with_reducible refine ws_try ?_ | with_reducible refine ws_retT ?_ | with_reducible refine ws_seq ?_ | with_reducible refine ws_expr ?_ | with_reducible refine ws_ret ?_ | with_reducible refine ws_retL ?_ | with_reducible refine ws_if ?_ | with_reducible refine ws_set ?_ | with_reducible refine ws_setO ?_ | with_reducible refine ws_asg ?_ | with_reducible refine ws_par ?_ | with_reducible refine ws_nil ?_ | with_reducible refine ws_retN ?_ | with_reducible refine ws_dput ?_ | with_reducible refine ws_dnew ?_ | ((with_reducible show WS (sFrz _ _) _ _); first | ((with_reducible apply ws_frz); (· rfl)) | ((with_reducible apply ws_frzV); (· rfl))) | ((with_reducible apply ws_retO); (· rfl)) | ((with_reducible apply ws_putI); (· rfl))) | ((with_reducible apply nrm_); (· (try simp only [wipeE, backE, List.set_cons_zero, List.set_cons_succ, List.getElem?_cons_zero, List.getElem?_cons_succ, List.cons_append, List.nil_append, List.replicate_succ, List.replicate_zero, Nat.reduceSub, unowns_nil, unowns_cons, unown_own, unown_val, unown_no, unown_ro, unown_dct]); rfl)) | ((with_reducible show IfB _ _ _); first | with_reducible refine ifb_not ?_ | with_reducible refine ifb_t ?_ | with_reducible refine ifb_f ?_ | ((with_reducible refine ifb_decT ?_ ?_); (· first | (with_reducible assumption) | omega | (simp only [List.length_cons, List.length_nil]; omega))) | ((with_reducible refine ifb_decF ?_ ?_); (· first | (with_reducible assumption) | omega | (simp only [List.length_cons, List.length_nil]; omega))) | with_reducible refine ifb_dec (fun _ => ?_) (fun _ => ?_) | ((with_reducible apply ifb_eT); (· rfl)) | ((with_reducible apply ifb_eF); (· rfl))) | ((with_reducible show WB _ _ _); first | with_reducible refine wb_bor ?_ | with_reducible refine wb_v ?_ | with_reducible refine wb_and ?_ | with_reducible refine wb_or ?_ | with_reducible refine wb_not ?_ | with_reducible refine wb_yes ?_) | with_reducible refine isb ?_ | ((with_reducible show WL _ _ _); first | with_reducible refine wl_nil ?_ | with_reducible refine wl_cons ?_ | with_reducible refine wl_lst ?_ | with_reducible refine wl_un ?_ | with_reducible refine wl_it ?_ | with_reducible refine wl_rng1 ?_ | with_reducible refine wl_rng2 ?_ | with_reducible refine wl_enum ?_ | with_reducible refine wl_enumA ?_ | with_reducible refine wl_addE ?_ | with_reducible refine wl_rg1 ?_ | with_reducible refine wl_bor ?_ | with_reducible refine wl_call ?_ | ((with_reducible apply wl_addO); (· rfl)) | ((with_reducible show WL (lSlV _ _ _) _ _); first | ((with_reducible apply wl_slO); (· rfl)) | ((with_reducible apply wl_slR); (· rfl)))) | ((with_reducible show WA _ _ _); first | with_reducible refine wa_nil ?_ | with_reducible refine wa_v ?_ | ((with_reducible apply wa_r); (· rfl)) | ((with_reducible show WA (aO _ _) _ _); first | ((with_reducible apply wa_oR); (· rfl)) | ((with_reducible apply wa_oO); (· rfl)) | ((with_reducible apply wa_oV); (· rfl)))) | ((with_reducible show IsS _ _); first | with_reducible refine iss_l ?_ | with_reducible refine iss_t ?_) | ((with_reducible refine fit_ ?_ ?_); (· first | rfl | (apply fits_of; first | omega | (simp; omega)))) | ((with_reducible show CallG _ _ _ _); first | ((with_reducible apply cg0); (· rfl)) | ((with_reducible apply cg1); (· rfl); (· rfl))) | ((with_reducible show WT _ _ _ _); first | with_reducible refine wt_n ?_ | ((with_reducible apply wt_t); (· rfl)) | ((with_reducible apply wt_unl); (· rfl))) | ((with_reducible show WTs _ _ _ _); first | with_reducible refine wts_nil ?_ | with_reducible refine wts_cons ?_) | ((with_reducible apply own_); (· rfl)) | ((with_reducible refine sml_ ?_ ?_ ?_); (· walk_at "sd"); (· walk_at "sd")) | with_reducible refine isi_ ?_ | ((with_reducible show WNl _ _ _); first | with_reducible refine wnl_l ?_ | with_reducible refine wnl_v ?_) | ((with_reducible show WSX _ _ _); first | with_reducible refine wsx_lift ?_ | with_reducible refine wsx_seq ?_ | with_reducible refine wsx_if ?_ | with_reducible refine wsx_raise0 ?_ | with_reducible refine wsx_expr ?_ | with_reducible refine wsx_ret ?_ | with_reducible refine wsx_set ?_) | with_reducible refine wex_call ?_ | ((with_reducible show WPu _ _ _ _); first | with_reducible refine wpu_nil ?_ | with_reducible refine wpu_seq ?_ | with_reducible refine wpu_ret ?_ | with_reducible refine wpu_if ?_) | ((with_reducible show WTd _ _ _ _ _); first | with_reducible refine wtd_P ?_ | with_reducible refine wtd_G ?_ | with_reducible refine wtd_If ?_ | ((with_reducible refine wtd_K ?_ ?_); (· exact ⟨rfl, by decide⟩)) | ((with_reducible refine wtd_U ?_ ?_); (· exact ⟨rfl, by decide⟩)) | ((with_reducible refine wtd_C ?_ ?_); (· rfl)) | ((with_reducible refine wtd_A ?_ ?_ ?_); (· rfl); (· first | rfl | (apply fits_of; first | omega | (simp; omega))))) | with_reducible refine two_ ?_ | ((with_reducible show WC _ _ _ _ _ _ _); first | with_reducible refine wc_nil ?_ | with_reducible refine wc_cons ?_) | ((with_reducible show WP _ _ _); first | with_reducible refine wp_no ?_ | with_reducible refine wp_e ?_) | with_reducible refine isl ?_ | ((with_reducible show RetT _ _ _); first | ((with_reducible apply retT1); (· rfl)) | ((with_reducible apply retT2); (· rfl))) | ((with_reducible show Any _ _); first | ((with_reducible apply any_o); (· rfl)) | ((with_reducible apply any_r); (· rfl))) | ((with_reducible show CallH _ _ _ _); first | ((with_reducible apply ch0); (· rfl)) | ((with_reducible apply ch1); (· rfl); (· rfl))) | ((with_reducible apply cgx0); (· rfl))))
local macro_rules | `(tactic| walk_at "v2") => `(tactic| (first | ((with_reducible show WE _ _ _); first | with_reducible refine we_chain3 ?_ | with_reducible refine we_callNL ?_ | with_reducible refine we_callN ?_ | with_reducible refine we_c ?_ | with_reducible refine we_un ?_ | with_reducible refine we_bin ?_ | with_reducible refine we_chain ?_ | with_reducible refine we_and ?_ | with_reducible refine we_or ?_ | with_reducible refine we_not ?_ | with_reducible refine we_if ?_ | with_reducible refine we_fz ?_ | with_reducible refine we_tup ?_ | with_reducible refine we_sl ?_ | with_reducible refine we_tupRg ?_ | with_reducible refine we_bor ?_ | with_reducible refine we_call ?_ | with_reducible refine we_din ?_ | with_reducible refine we_borL ?_ | ((with_reducible apply we_v); (· rfl)) | ((with_reducible show WE (eO _) _ _); first | ((with_reducible apply we_oV); (· rfl)) | ((with_reducible apply we_oW); (· rfl)) | ((with_reducible apply we_oR); (· rfl))) | ((with_reducible show WE (eBinV _ _ _) _ _); first | ((with_reducible apply we_bV); (· rfl)) | ((with_reducible apply we_bVr); (· rfl)) | ((with_reducible apply we_bVv); (· rfl))) | ((with_reducible apply we_mut); (· rfl)) | ((with_reducible apply we_mut0); (· rfl)) | ((with_reducible apply we_dget2); (· rfl)) | ((with_reducible apply we_didx); (· rfl))) | ((with_reducible show WO _ _); first | ((with_reducible show WO (gIsO _ _) _); first | with_reducible refine wo_isON ?_ | ((with_reducible refine wo_isO (b := true) ?_ ?_); (· rfl)) | ((with_reducible refine wo_isO (b := false) ?_ ?_); (· rfl))) | with_reducible refine wo_attr ?_ | ((with_reducible show WO (valsA _) _); first | with_reducible refine vals_nil ?_ | with_reducible refine vals_v ?_) | with_reducible refine wo_isB ?_ | with_reducible refine wo_ntB ?_ | ((with_reducible show WO (backAr _ _ _) _); first | with_reducible refine back_nil ?_ | with_reducible refine back_v ?_ | with_reducible refine back_o ?_ | ((with_reducible apply back_r); (· rfl))) | ((with_reducible show WO (resArs _ _) _); first | with_reducible refine res_nil ?_ | with_reducible refine res_v ?_ | ((with_reducible apply res_r); (· rfl)) | ((with_reducible apply res_oO); (· rfl)) | ((with_reducible apply res_oR); (· rfl)) | ((with_reducible apply res_oV); (· rfl))) | ((with_reducible show WO (gAdd _ _) _); first | with_reducible refine wo_add ?_ | ((with_reducible refine wo_addL ?_ ?_); (· first | rfl | (apply fits_of; first | omega | (simp; omega)))) | ((with_reducible refine wo_addT ?_ ?_); (· first | rfl | (apply fits_of; first | omega | (simp; omega))))) | with_reducible refine wo_sub ?_ | with_reducible refine wo_neg ?_ | with_reducible refine wo_lt ?_ | with_reducible refine wo_le ?_ | with_reducible refine wo_gt ?_ | with_reducible refine wo_ge ?_ | ((with_reducible show WO (gEq _ _) _); first | with_reducible refine wo_eq ?_ | with_reducible refine wo_eqB ?_ | ((with_reducible refine wo_eqT ?_ ?_); (· decide +kernel)) | ((with_reducible refine wo_eqF ?_ ?_); (· decide +kernel))) | ((with_reducible show WO (gNe _ _) _); first | with_reducible refine wo_ne ?_ | with_reducible refine wo_neB ?_ | ((with_reducible refine wo_neT ?_ ?_); (· decide +kernel)) | ((with_reducible refine wo_neF ?_ ?_); (· decide +kernel))) | with_reducible refine wo_isN ?_ | with_reducible refine wo_ntN ?_ | ((with_reducible show WO (gLen _) _); first | with_reducible refine wo_lenL ?_ | with_reducible refine wo_lenT ?_) | with_reducible refine wo_abs ?_ | ((with_reducible show WO (gInt _) _); first | with_reducible refine wo_intB ?_ | with_reducible refine wo_intI ?_) | ((with_reducible show WO (gList _) _); first | with_reducible refine wo_listL ?_ | with_reducible refine wo_listT ?_) | ((with_reducible show WO (gTuple _) _); first | with_reducible refine wo_tupL ?_ | with_reducible refine wo_tupT ?_) | with_reducible refine wo_max ?_ | with_reducible refine wo_min ?_ | ((with_reducible show WO (gIsi _ _) _); first | with_reducible refine wo_isiI ?_ | with_reducible refine wo_isiB ?_ | ((with_reducible apply wo_isiE); (· rfl))) | ((with_reducible show WO (cutOf _ _ _) _); first | with_reducible refine wo_cutL ?_ | with_reducible refine wo_cutT ?_) | ((with_reducible show WO (gPow _ _) _); first | with_reducible refine wo_p10_60 ?_ | with_reducible refine wo_p10_18 ?_ | with_reducible refine wo_p10_30 ?_ | with_reducible refine wo_p2_24 ?_ | with_reducible refine wo_p10_8 ?_ | with_reducible refine wo_p10_19 ?_ | with_reducible refine wo_p10_55 ?_ | with_reducible refine wo_p10_59 ?_ | with_reducible refine wo_p3_30 ?_ | with_reducible refine wo_p2_40 ?_ | with_reducible refine wo_p10_54 ?_ | with_reducible refine wo_p3_13 ?_ | with_reducible refine wo_p2_20 ?_ | with_reducible refine wo_p10_57 ?_ | with_reducible refine wo_p10_40 ?_ | with_reducible refine wo_p10_61 ?_ | with_reducible refine wo_p10_50 ?_) | ((with_reducible apply wo_idxE); (· rfl)) | ((with_reducible apply wo_allE); (· rfl)) | ((with_reducible apply wo_anyE); (· rfl)) | ((with_reducible show WO (ixN _ _) _); first | ((with_reducible apply wo_ixE); (· rfl)) | ((with_reducible refine wo_ix ?_ ?_ ?_); (· walk_at "sd"); (· walk_at "sd"))) | ((with_reducible refine wo_mod ?_ ?_); (· walk_at "sd")) | ((with_reducible refine wo_div ?_ ?_ ?_); (· walk_at "sd"); (· walk_at "sd")) | ((with_reducible refine wo_mul ?_ ?_); (· first | exact mul_ok1 (by walk_at "sd") | exact mul_ok2 (by walk_at "sd") | exact mul_ok3 (by omega) (by omega))) | ((with_reducible refine wo_app ?_ ?_); (· first | rfl | (apply fits_of; first | omega | (simp; omega)))) | ((with_reducible refine wo_ext ?_ ?_); (· first | rfl | (apply fits_of; first | omega | (simp; omega))))) | ((with_reducible show WS _ _ _); first | with_reducible refine ws_try ?_ | with_reducible refine ws_retT ?_ | with_reducible refine ws_seq ?_ | with_reducible refine ws_expr ?_ | with_reducible refine ws_ret ?_ | with_reducible refine ws_retL ?_ | with_reducible refine ws_set ?_ | with_reducible refine ws_setO ?_ | with_reducible refine ws_asg ?_ | with_reducible refine ws_par ?_ | with_reducible refine ws_nil ?_ | with_reducible refine ws_retN ?_ | with_reducible refine ws_dput ?_ | with_reducible refine ws_dnew ?_ | ((with_reducible show WS (sFrz _ _) _ _); first | ((with_reducible apply ws_frz); (· rfl)) | ((with_reducible apply ws_frzV); (· rfl))) | ((with_reducible apply ws_retO); (· rfl)) | ((with_reducible apply ws_putI); (· rfl))) | ((with_reducible apply nrm_); (· (try simp only [wipeE, backE, List.set_cons_zero, List.set_cons_succ, List.getElem?_cons_zero, List.getElem?_cons_succ, List.cons_append, List.nil_append, List.replicate_succ, List.replicate_zero, Nat.reduceSub, unowns_nil, unowns_cons, unown_own, unown_val, unown_no, unown_ro, unown_dct]); rfl)) | ((with_reducible show IfB _ _ _); first | with_reducible refine ifb_not ?_ | with_reducible refine ifb_t ?_ | with_reducible refine ifb_f ?_ | ((with_reducible refine ifb_decT ?_ ?_); (· first | (with_reducible assumption) | omega | (simp only [List.length_cons, List.length_nil]; omega))) | ((with_reducible refine ifb_decF ?_ ?_); (· first | (with_reducible assumption) | omega | (simp only [List.length_cons, List.length_nil]; omega))) | with_reducible refine ifb_dec (fun _ => ?_) (fun _ => ?_) | ((with_reducible apply ifb_eT); (· rfl)) | ((with_reducible apply ifb_eF); (· rfl))) | ((with_reducible show WB _ _ _); first | with_reducible refine wb_bor ?_ | with_reducible refine wb_v ?_ | with_reducible refine wb_and ?_ | with_reducible refine wb_or ?_ | with_reducible refine wb_not ?_ | with_reducible refine wb_yes ?_) | with_reducible refine isb ?_ | ((with_reducible show WL _ _ _); first | with_reducible refine wl_nil ?_ | with_reducible refine wl_cons ?_ | with_reducible refine wl_lst ?_ | with_reducible refine wl_un ?_ | with_reducible refine wl_it ?_ | with_reducible refine wl_rng1 ?_ | with_reducible refine wl_rng2 ?_ | with_reducible refine wl_enum ?_ | with_reducible refine wl_enumA ?_ | with_reducible refine wl_addE ?_ | with_reducible refine wl_rg1 ?_ | with_reducible refine wl_bor ?_ | with_reducible refine wl_call ?_ | ((with_reducible apply wl_addO); (· rfl)) | ((with_reducible show WL (lSlV _ _ _) _ _); first | ((with_reducible apply wl_slO); (· rfl)) | ((with_reducible apply wl_slR); (· rfl)))) | ((with_reducible show WA _ _ _); first | with_reducible refine wa_nil ?_ | with_reducible refine wa_v ?_ | ((with_reducible apply wa_r); (· rfl)) | ((with_reducible show WA (aO _ _) _ _); first | ((with_reducible apply wa_oR); (· rfl)) | ((with_reducible apply wa_oO); (· rfl)) | ((with_reducible apply wa_oV); (· rfl)))) | ((with_reducible show IsS _ _); first | with_reducible refine iss_l ?_ | with_reducible refine iss_t ?_) | ((with_reducible refine fit_ ?_ ?_); (· first | rfl | (apply fits_of; first | omega | (simp; omega)))) | ((with_reducible show CallG _ _ _ _); first | ((with_reducible apply cg0); (· rfl)) | ((with_reducible apply cg1); (· rfl); (· rfl))) | ((with_reducible show WT _ _ _ _); first | with_reducible refine wt_n ?_ | ((with_reducible apply wt_t); (· rfl)) | ((with_reducible apply wt_unl); (· rfl))) | ((with_reducible show WTs _ _ _ _); first | with_reducible refine wts_nil ?_ | with_reducible refine wts_cons ?_) | ((with_reducible apply own_); (· rfl)) | ((with_reducible refine sml_ ?_ ?_ ?_); (· walk_at "sd"); (· walk_at "sd")) | with_reducible refine isi_ ?_ | ((with_reducible show WNl _ _ _); first | with_reducible refine wnl_l ?_ | with_reducible refine wnl_v ?_) | ((with_reducible show WSX _ _ _); first | with_reducible refine wsx_lift ?_ | with_reducible refine wsx_seq ?_ | with_reducible refine wsx_if ?_ | with_reducible refine wsx_raise0 ?_ | with_reducible refine wsx_expr ?_ | with_reducible refine wsx_ret ?_ | with_reducible refine wsx_set ?_) | with_reducible refine wex_call ?_ | ((with_reducible show WPu _ _ _ _); first | with_reducible refine wpu_nil ?_ | with_reducible refine wpu_seq ?_ | with_reducible refine wpu_ret ?_ | with_reducible refine wpu_if ?_) | ((with_reducible show WTd _ _ _ _ _); first | with_reducible refine wtd_P ?_ | with_reducible refine wtd_G ?_ | with_reducible refine wtd_If ?_ | ((with_reducible refine wtd_K ?_ ?_); (· exact ⟨rfl, by decide⟩)) | ((with_reducible refine wtd_U ?_ ?_); (· exact ⟨rfl, by decide⟩)) | ((with_reducible refine wtd_C ?_ ?_); (· rfl)) | ((with_reducible refine wtd_A ?_ ?_ ?_); (· rfl); (· first | rfl | (apply fits_of; first | omega | (simp; omega))))) | with_reducible refine two_ ?_ | ((with_reducible show WC _ _ _ _ _ _ _); first | with_reducible refine wc_nil ?_ | with_reducible refine wc_cons ?_) | ((with_reducible show WP _ _ _); first | with_reducible refine wp_no ?_ | with_reducible refine wp_e ?_) | with_reducible refine isl ?_ | ((with_reducible show RetT _ _ _); first | ((with_reducible apply retT1); (· rfl)) | ((with_reducible apply retT2); (· rfl))) | ((with_reducible show Any _ _); first | ((with_reducible apply any_o); (· rfl)) | ((with_reducible apply any_r); (· rfl))) | ((with_reducible show CallH _ _ _ _); first | ((with_reducible apply ch0); (· rfl)) | ((with_reducible apply ch1); (· rfl); (· rfl))) | ((with_reducible apply cgx0); (· rfl))))
local macro_rules | `(tactic| walk_at "vc") => `(tactic| (repeat' first | ((with_reducible show WE _ _ _); first | with_reducible refine we_chain3 ?_ | with_reducible refine we_callNL ?_ | with_reducible refine we_callN ?_ | with_reducible refine we_c ?_ | with_reducible refine we_un ?_ | with_reducible refine we_bin ?_ | with_reducible refine we_chain ?_ | with_reducible refine we_and ?_ | with_reducible refine we_or ?_ | with_reducible refine we_not ?_ | with_reducible refine we_if ?_ | with_reducible refine we_fz ?_ | with_reducible refine we_tup ?_ | with_reducible refine we_sl ?_ | with_reducible refine we_tupRg ?_ | with_reducible refine we_bor ?_ | with_reducible refine we_call ?_ | with_reducible refine we_din ?_ | with_reducible refine we_borL ?_ | ((with_reducible apply we_v); (· rfl)) | ((with_reducible show WE (eO _) _ _); first | ((with_reducible apply we_oV); (· rfl)) | ((with_reducible apply we_oW); (· rfl)) | ((with_reducible apply we_oR); (· rfl))) | ((with_reducible show WE (eBinV _ _ _) _ _); first | ((with_reducible apply we_bV); (· rfl)) | ((with_reducible apply we_bVr); (· rfl)) | ((with_reducible apply we_bVv); (· rfl))) | ((with_reducible apply we_mut); (· rfl)) | ((with_reducible apply we_mut0); (· rfl)) | ((with_reducible apply we_dget2); (· rfl)) | ((with_reducible apply we_didx); (· rfl))) | ((with_reducible show WO _ _); first | ((with_reducible show WO (gIsO _ _) _); first | with_reducible refine wo_isON ?_ | ((with_reducible refine wo_isO (b := true) ?_ ?_); (· rfl)) | ((with_reducible refine wo_isO (b := false) ?_ ?_); (· rfl))) | with_reducible refine wo_attr ?_ | ((with_reducible show WO (valsA _) _); first | with_reducible refine vals_nil ?_ | with_reducible refine vals_v ?_) | with_reducible refine wo_isB ?_ | with_reducible refine wo_ntB ?_ | ((with_reducible show WO (backAr _ _ _) _); first | with_reducible refine back_nil ?_ | with_reducible refine back_v ?_ | with_reducible refine back_o ?_ | ((with_reducible apply back_r); (· rfl))) | ((with_reducible show WO (resArs _ _) _); first | with_reducible refine res_nil ?_ | with_reducible refine res_v ?_ | ((with_reducible apply res_r); (· rfl)) | ((with_reducible apply res_oO); (· rfl)) | ((with_reducible apply res_oR); (· rfl)) | ((with_reducible apply res_oV); (· rfl))) | ((with_reducible show WO (gAdd _ _) _); first | with_reducible refine wo_add ?_ | ((with_reducible refine wo_addL ?_ ?_); (· first | rfl | (apply fits_of; first | omega | (simp; omega)))) | ((with_reducible refine wo_addT ?_ ?_); (· first | rfl | (apply fits_of; first | omega | (simp; omega))))) | with_reducible refine wo_sub ?_ | with_reducible refine wo_neg ?_ | with_reducible refine wo_lt ?_ | with_reducible refine wo_le ?_ | with_reducible refine wo_gt ?_ | with_reducible refine wo_ge ?_ | ((with_reducible show WO (gEq _ _) _); first | with_reducible refine wo_eq ?_ | with_reducible refine wo_eqB ?_ | ((with_reducible refine wo_eqT ?_ ?_); (· decide +kernel)) | ((with_reducible refine wo_eqF ?_ ?_); (· decide +kernel))) | ((with_reducible show WO (gNe _ _) _); first | with_reducible refine wo_ne ?_ | with_reducible refine wo_neB ?_ | ((with_reducible refine wo_neT ?_ ?_); (· decide +kernel)) | ((with_reducible refine wo_neF ?_ ?_); (· decide +kernel))) | with_reducible refine wo_isN ?_ | with_reducible refine wo_ntN ?_ | ((with_reducible show WO (gLen _) _); first | with_reducible refine wo_lenL ?_ | with_reducible refine wo_lenT ?_) | with_reducible refine wo_abs ?_ | ((with_reducible show WO (gInt _) _); first | with_reducible refine wo_intB ?_ | with_reducible refine wo_intI ?_) | ((with_reducible show WO (gList _) _); first | with_reducible refine wo_listL ?_ | with_reducible refine wo_listT ?_) | ((with_reducible show WO (gTuple _) _); first | with_reducible refine wo_tupL ?_ | with_reducible refine wo_tupT ?_) | with_reducible refine wo_max ?_ | with_reducible refine wo_min ?_ | ((with_reducible show WO (gIsi _ _) _); first | with_reducible refine wo_isiI ?_ | with_reducible refine wo_isiB ?_ | ((with_reducible apply wo_isiE); (· rfl))) | ((with_reducible show WO (cutOf _ _ _) _); first | with_reducible refine wo_cutL ?_ | with_reducible refine wo_cutT ?_) | ((with_reducible show WO (gPow _ _) _); first | with_reducible refine wo_p10_60 ?_ | with_reducible refine wo_p10_18 ?_ | with_reducible refine wo_p10_30 ?_ | with_reducible refine wo_p2_24 ?_ | with_reducible refine wo_p10_8 ?_ | with_reducible refine wo_p10_19 ?_ | with_reducible refine wo_p10_55 ?_ | with_reducible refine wo_p10_59 ?_ | with_reducible refine wo_p3_30 ?_ | with_reducible refine wo_p2_40 ?_ | with_reducible refine wo_p10_54 ?_ | with_reducible refine wo_p3_13 ?_ | with_reducible refine wo_p2_20 ?_ | with_reducible refine wo_p10_57 ?_ | with_reducible refine wo_p10_40 ?_ | with_reducible refine wo_p10_61 ?_ | with_reducible refine wo_p10_50 ?_) | ((with_reducible apply wo_idxE); (· rfl)) | ((with_reducible apply wo_allE); (· rfl)) | ((with_reducible apply wo_anyE); (· rfl)) | ((with_reducible show WO (ixN _ _) _); first | ((with_reducible apply wo_ixE); (· rfl)) | ((with_reducible refine wo_ix ?_ ?_ ?_); (· walk_at "sd"); (· walk_at "sd"))) | ((with_reducible refine wo_mod ?_ ?_); (· walk_at "sd")) | ((with_reducible refine wo_div ?_ ?_ ?_); (· walk_at "sd"); (· walk_at "sd")) | ((with_reducible refine wo_mul ?_ ?_); (· first | exact mul_ok1 (by walk_at "sd") | exact mul_ok2 (by walk_at "sd") | exact mul_ok3 (by omega) (by omega))) | ((with_reducible refine wo_app ?_ ?_); (· first | rfl | (apply fits_of; first | omega | (simp; omega)))) | ((with_reducible refine wo_ext ?_ ?_); (· first | rfl | (apply fits_of; first | omega | (simp; omega))))) | ((with_reducible show WS _ _ _); first | with_reducible refine ws_try ?_ | with_reducible refine ws_retT ?_ | with_reducible refine ws_seq ?_ | with_reducible refine ws_expr ?_ | with_reducible refine ws_ret ?_ | with_reducible refine ws_retL ?_ | with_reducible refine ws_if ?_ | with_reducible refine ws_set ?_ | with_reducible refine ws_setO ?_ | with_reducible refine ws_asg ?_ | with_reducible refine ws_par ?_ | with_reducible refine ws_nil ?_ | with_reducible refine ws_retN ?_ | with_reducible refine ws_dput ?_ | with_reducible refine ws_dnew ?_ | ((with_reducible show WS (sFrz _ _) _ _); first | ((with_reducible apply ws_frz); (· rfl)) | ((with_reducible apply ws_frzV); (· rfl))) | ((with_reducible apply ws_retO); (· rfl)) | ((with_reducible apply ws_putI); (· rfl))) | ((with_reducible apply nrm_); (· (try simp only [wipeE, backE, List.set_cons_zero, List.set_cons_succ, List.getElem?_cons_zero, List.getElem?_cons_succ, List.cons_append, List.nil_append, List.replicate_succ, List.replicate_zero, Nat.reduceSub, unowns_nil, unowns_cons, unown_own, unown_val, unown_no, unown_ro, unown_dct]); rfl)) | ((with_reducible show IfB _ _ _); first | with_reducible refine ifb_not ?_ | with_reducible refine ifb_t ?_ | with_reducible refine ifb_f ?_ | ((with_reducible refine ifb_decT ?_ ?_); (· first | (with_reducible assumption) | omega | (simp only [List.length_cons, List.length_nil]; omega))) | ((with_reducible refine ifb_decF ?_ ?_); (· first | (with_reducible assumption) | omega | (simp only [List.length_cons, List.length_nil]; omega))) | with_reducible refine ifb_dec (fun _ => ?_) (fun _ => ?_) | ((with_reducible apply ifb_eT); (· rfl)) | ((with_reducible apply ifb_eF); (· rfl))) | ((with_reducible show WB _ _ _); first | with_reducible refine wb_bor ?_ | with_reducible refine wb_v ?_ | with_reducible refine wb_and ?_ | with_reducible refine wb_or ?_ | with_reducible refine wb_not ?_ | with_reducible refine wb_yes ?_) | with_reducible refine isb ?_ | ((with_reducible show WL _ _ _); first | with_reducible refine wl_nil ?_ | with_reducible refine wl_cons ?_ | with_reducible refine wl_lst ?_ | with_reducible refine wl_un ?_ | with_reducible refine wl_it ?_ | with_reducible refine wl_rng1 ?_ | with_reducible refine wl_rng2 ?_ | with_reducible refine wl_enum ?_ | with_reducible refine wl_enumA ?_ | with_reducible refine wl_addE ?_ | with_reducible refine wl_rg1 ?_ | with_reducible refine wl_bor ?_ | with_reducible refine wl_call ?_ | ((with_reducible apply wl_addO); (· rfl)) | ((with_reducible show WL (lSlV _ _ _) _ _); first | ((with_reducible apply wl_slO); (· rfl)) | ((with_reducible apply wl_slR); (· rfl)))) | ((with_reducible show WA _ _ _); first | with_reducible refine wa_nil ?_ | with_reducible refine wa_v ?_ | ((with_reducible apply wa_r); (· rfl)) | ((with_reducible show WA (aO _ _) _ _); first | ((with_reducible apply wa_oR); (· rfl)) | ((with_reducible apply wa_oO); (· rfl)) | ((with_reducible apply wa_oV); (· rfl)))) | ((with_reducible show IsS _ _); first | with_reducible refine iss_l ?_ | with_reducible refine iss_t ?_) | ((with_reducible refine fit_ ?_ ?_); (· first | rfl | (apply fits_of; first | omega | (simp; omega)))) | ((with_reducible show CallG _ _ _ _); first | ((with_reducible apply cg0); (· rfl)) | ((with_reducible apply cg1); (· rfl); (· rfl))) | ((with_reducible show WT _ _ _ _); first | with_reducible refine wt_n ?_ | ((with_reducible apply wt_t); (· rfl)) | ((with_reducible apply wt_unl); (· rfl))) | ((with_reducible show WTs _ _ _ _); first | with_reducible refine wts_nil ?_ | with_reducible refine wts_cons ?_) | ((with_reducible apply own_); (· rfl)) | ((with_reducible refine sml_ ?_ ?_ ?_); (· walk_at "sd"); (· walk_at "sd")) | with_reducible refine isi_ ?_ | ((with_reducible show WNl _ _ _); first | with_reducible refine wnl_l ?_ | with_reducible refine wnl_v ?_) | ((with_reducible show WSX _ _ _); first | with_reducible refine wsx_lift ?_ | with_reducible refine wsx_seq ?_ | with_reducible refine wsx_if ?_ | with_reducible refine wsx_raise0 ?_ | with_reducible refine wsx_expr ?_ | with_reducible refine wsx_ret ?_ | with_reducible refine wsx_set ?_) | with_reducible refine wex_call ?_ | ((with_reducible show WPu _ _ _ _); first | with_reducible refine wpu_nil ?_ | with_reducible refine wpu_seq ?_ | with_reducible refine wpu_ret ?_ | with_reducible refine wpu_if ?_) | ((with_reducible show WTd _ _ _ _ _); first | with_reducible refine wtd_P ?_ | with_reducible refine wtd_G ?_ | with_reducible refine wtd_If ?_ | ((with_reducible refine wtd_K ?_ ?_); (· exact ⟨rfl, by decide⟩)) | ((with_reducible refine wtd_U ?_ ?_); (· exact ⟨rfl, by decide⟩)) | ((with_reducible refine wtd_C ?_ ?_); (· rfl)) | ((with_reducible refine wtd_A ?_ ?_ ?_); (· rfl); (· first | rfl | (apply fits_of; first | omega | (simp; omega))))) | with_reducible refine two_ ?_ | ((with_reducible show WC _ _ _ _ _ _ _); first | with_reducible refine wc_nil ?_ | with_reducible refine wc_cons ?_) | ((with_reducible show WP _ _ _); first | with_reducible refine wp_no ?_ | with_reducible refine wp_e ?_) | with_reducible refine isl ?_ | ((with_reducible show RetT _ _ _); first | ((with_reducible apply retT1); (· rfl)) | ((with_reducible apply retT2); (· rfl))) | ((with_reducible show Any _ _); first | ((with_reducible apply any_o); (· rfl)) | ((with_reducible apply any_r); (· rfl))) | ((with_reducible show CallH _ _ _ _); first | ((with_reducible apply ch0); (· rfl)) | ((with_reducible apply ch1); (· rfl); (· rfl))) | ((with_reducible apply cgx0); (· rfl))))
local macro_rules | `(tactic| walk_at "vd") => `(tactic| (repeat' first | ((with_reducible show WE _ _ _); first | with_reducible refine we_chain3 ?_ | with_reducible refine we_callNL ?_ | with_reducible refine we_callN ?_ | with_reducible refine we_c ?_ | with_reducible refine we_un ?_ | with_reducible refine we_bin ?_ | with_reducible refine we_chain ?_ | with_reducible refine we_and ?_ | with_reducible refine we_or ?_ | with_reducible refine we_not ?_ | with_reducible refine we_if ?_ | with_reducible refine we_fz ?_ | with_reducible refine we_tup ?_ | with_reducible refine we_sl ?_ | with_reducible refine we_tupRg ?_ | with_reducible refine we_bor ?_ | with_reducible refine we_call ?_ | with_reducible refine we_din ?_ | with_reducible refine we_borL ?_ | ((with_reducible apply we_v); (· rfl)) | ((with_reducible show WE (eO _) _ _); first | ((with_reducible apply we_oV); (· rfl)) | ((with_reducible apply we_oW); (· rfl)) | ((with_reducible apply we_oR); (· rfl))) | ((with_reducible show WE (eBinV _ _ _) _ _); first | ((with_reducible apply we_bV); (· rfl)) | ((with_reducible apply we_bVr); (· rfl)) | ((with_reducible apply we_bVv); (· rfl))) | ((with_reducible apply we_mut); (· rfl)) | ((with_reducible apply we_mut0); (· rfl)) | ((with_reducible apply we_dget2); (· rfl)) | ((with_reducible apply we_didx); (· rfl))) | ((with_reducible show WO _ _); first | ((with_reducible show WO (gIsO _ _) _); first | with_reducible refine wo_isON ?_ | ((with_reducible refine wo_isO (b := true) ?_ ?_); (· rfl)) | ((with_reducible refine wo_isO (b := false) ?_ ?_); (· rfl))) | with_reducible refine wo_attr ?_ | ((with_reducible show WO (valsA _) _); first | with_reducible refine vals_nil ?_ | with_reducible refine vals_v ?_) | with_reducible refine wo_isB ?_ | with_reducible refine wo_ntB ?_ | ((with_reducible show WO (backAr _ _ _) _); first | with_reducible refine back_nil ?_ | with_reducible refine back_v ?_ | with_reducible refine back_o ?_ | ((with_reducible apply back_r); (· rfl))) | ((with_reducible show WO (resArs _ _) _); first | with_reducible refine res_nil ?_ | with_reducible refine res_v ?_ | ((with_reducible apply res_r); (· rfl)) | ((with_reducible apply res_oO); (· rfl)) | ((with_reducible apply res_oR); (· rfl)) | ((with_reducible apply res_oV); (· rfl))) | ((with_reducible show WO (gAdd _ _) _); first | with_reducible refine wo_add ?_ | ((with_reducible refine wo_addL ?_ ?_); (· first | rfl | (apply fits_of; first | omega | (simp; omega)))) | ((with_reducible refine wo_addT ?_ ?_); (· first | rfl | (apply fits_of; first | omega | (simp; omega))))) | with_reducible refine wo_sub ?_ | with_reducible refine wo_neg ?_ | with_reducible refine wo_lt ?_ | with_reducible refine wo_le ?_ | with_reducible refine wo_gt ?_ | with_reducible refine wo_ge ?_ | ((with_reducible show WO (gEq _ _) _); first | with_reducible refine wo_eq ?_ | with_reducible refine wo_eqB ?_ | ((with_reducible refine wo_eqT ?_ ?_); (· decide +kernel)) | ((with_reducible refine wo_eqF ?_ ?_); (· decide +kernel))) | ((with_reducible show WO (gNe _ _) _); first | with_reducible refine wo_ne ?_ | with_reducible refine wo_neB ?_ | ((with_reducible refine wo_neT ?_ ?_); (· decide +kernel)) | ((with_reducible refine wo_neF ?_ ?_); (· decide +kernel))) | with_reducible refine wo_isN ?_ | with_reducible refine wo_ntN ?_ | ((with_reducible show WO (gLen _) _); first | with_reducible refine wo_lenL ?_ | with_reducible refine wo_lenT ?_) | with_reducible refine wo_abs ?_ | ((with_reducible show WO (gInt _) _); first | with_reducible refine wo_intB ?_ | with_reducible refine wo_intI ?_) | ((with_reducible show WO (gList _) _); first | with_reducible refine wo_listL ?_ | with_reducible refine wo_listT ?_) | ((with_reducible show WO (gTuple _) _); first | with_reducible refine wo_tupL ?_ | with_reducible refine wo_tupT ?_) | with_reducible refine wo_max ?_ | with_reducible refine wo_min ?_ | ((with_reducible show WO (gIsi _ _) _); first | with_reducible refine wo_isiI ?_ | with_reducible refine wo_isiB ?_ | ((with_reducible apply wo_isiE); (· rfl))) | ((with_reducible show WO (cutOf _ _ _) _); first | with_reducible refine wo_cutL ?_ | with_reducible refine wo_cutT ?_) | ((with_reducible show WO (gPow _ _) _); first | with_reducible refine wo_p10_60 ?_ | with_reducible refine wo_p10_18 ?_ | with_reducible refine wo_p10_30 ?_ | with_reducible refine wo_p2_24 ?_ | with_reducible refine wo_p10_8 ?_ | with_reducible refine wo_p10_19 ?_ | with_reducible refine wo_p10_55 ?_ | with_reducible refine wo_p10_59 ?_ | with_reducible refine wo_p3_30 ?_ | with_reducible refine wo_p2_40 ?_ | with_reducible refine wo_p10_54 ?_ | with_reducible refine wo_p3_13 ?_ | with_reducible refine wo_p2_20 ?_ | with_reducible refine wo_p10_57 ?_ | with_reducible refine wo_p10_40 ?_ | with_reducible refine wo_p10_61 ?_ | with_reducible refine wo_p10_50 ?_) | ((with_reducible apply wo_idxE); (· rfl)) | ((with_reducible apply wo_allE); (· rfl)) | ((with_reducible apply wo_anyE); (· rfl)) | ((with_reducible show WO (ixN _ _) _); first | ((with_reducible apply wo_ixE); (· rfl)) | ((with_reducible refine wo_ix ?_ ?_ ?_); (· walk_at "sd"); (· walk_at "sd"))) | ((with_reducible refine wo_mod ?_ ?_); (· walk_at "sd")) | ((with_reducible refine wo_div ?_ ?_ ?_); (· walk_at "sd"); (· walk_at "sd")) | ((with_reducible refine wo_mul ?_ ?_); (· first | exact mul_ok1 (by walk_at "sd") | exact mul_ok2 (by walk_at "sd") | exact mul_ok3 (by omega) (by omega))) | ((with_reducible refine wo_app ?_ ?_); (· first | rfl | (apply fits_of; first | omega | (simp; omega)))) | ((with_reducible refine wo_ext ?_ ?_); (· first | rfl | (apply fits_of; first | omega | (simp; omega))))) | ((with_reducible show WS _ _ _); first | with_reducible refine ws_try ?_ | with_reducible refine ws_retT ?_ | with_reducible refine ws_seq ?_ | with_reducible refine ws_expr ?_ | with_reducible refine ws_ret ?_ | with_reducible refine ws_retL ?_ | with_reducible refine ws_set ?_ | with_reducible refine ws_setO ?_ | with_reducible refine ws_asg ?_ | with_reducible refine ws_par ?_ | with_reducible refine ws_nil ?_ | with_reducible refine ws_retN ?_ | with_reducible refine ws_dput ?_ | with_reducible refine ws_dnew ?_ | ((with_reducible show WS (sFrz _ _) _ _); first | ((with_reducible apply ws_frz); (· rfl)) | ((with_reducible apply ws_frzV); (· rfl))) | ((with_reducible apply ws_retO); (· rfl)) | ((with_reducible apply ws_putI); (· rfl))) | ((with_reducible apply nrm_); (· (try simp only [wipeE, backE, List.set_cons_zero, List.set_cons_succ, List.getElem?_cons_zero, List.getElem?_cons_succ, List.cons_append, List.nil_append, List.replicate_succ, List.replicate_zero, Nat.reduceSub, unowns_nil, unowns_cons, unown_own, unown_val, unown_no, unown_ro, unown_dct]); rfl)) | ((with_reducible show IfB _ _ _); first | with_reducible refine ifb_not ?_ | with_reducible refine ifb_t ?_ | with_reducible refine ifb_f ?_ | ((with_reducible refine ifb_decT ?_ ?_); (· first | (with_reducible assumption) | omega | (simp only [List.length_cons, List.length_nil]; omega))) | ((with_reducible refine ifb_decF ?_ ?_); (· first | (with_reducible assumption) | omega | (simp only [List.length_cons, List.length_nil]; omega))) | with_reducible refine ifb_dec (fun _ => ?_) (fun _ => ?_) | ((with_reducible apply ifb_eT); (· rfl)) | ((with_reducible apply ifb_eF); (· rfl))) | ((with_reducible show WB _ _ _); first | with_reducible refine wb_bor ?_ | with_reducible refine wb_v ?_ | with_reducible refine wb_and ?_ | with_reducible refine wb_or ?_ | with_reducible refine wb_not ?_ | with_reducible refine wb_yes ?_) | with_reducible refine isb ?_ | ((with_reducible show WL _ _ _); first | with_reducible refine wl_nil ?_ | with_reducible refine wl_cons ?_ | with_reducible refine wl_lst ?_ | with_reducible refine wl_un ?_ | with_reducible refine wl_it ?_ | with_reducible refine wl_rng1 ?_ | with_reducible refine wl_rng2 ?_ | with_reducible refine wl_enum ?_ | with_reducible refine wl_enumA ?_ | with_reducible refine wl_addE ?_ | with_reducible refine wl_rg1 ?_ | with_reducible refine wl_bor ?_ | with_reducible refine wl_call ?_ | ((with_reducible apply wl_addO); (· rfl)) | ((with_reducible show WL (lSlV _ _ _) _ _); first | ((with_reducible apply wl_slO); (· rfl)) | ((with_reducible apply wl_slR); (· rfl)))) | ((with_reducible show WA _ _ _); first | with_reducible refine wa_nil ?_ | with_reducible refine wa_v ?_ | ((with_reducible apply wa_r); (· rfl)) | ((with_reducible show WA (aO _ _) _ _); first | ((with_reducible apply wa_oR); (· rfl)) | ((with_reducible apply wa_oO); (· rfl)) | ((with_reducible apply wa_oV); (· rfl)))) | ((with_reducible show IsS _ _); first | with_reducible refine iss_l ?_ | with_reducible refine iss_t ?_) | ((with_reducible refine fit_ ?_ ?_); (· first | rfl | (apply fits_of; first | omega | (simp; omega)))) | ((with_reducible show CallG _ _ _ _); first | ((with_reducible apply cg0); (· rfl)) | ((with_reducible apply cg1); (· rfl); (· rfl))) | ((with_reducible show WT _ _ _ _); first | with_reducible refine wt_n ?_ | ((with_reducible apply wt_t); (· rfl)) | ((with_reducible apply wt_unl); (· rfl))) | ((with_reducible show WTs _ _ _ _); first | with_reducible refine wts_nil ?_ | with_reducible refine wts_cons ?_) | ((with_reducible apply own_); (· rfl)) | ((with_reducible refine sml_ ?_ ?_ ?_); (· walk_at "sd"); (· walk_at "sd")) | with_reducible refine isi_ ?_ | ((with_reducible show WNl _ _ _); first | with_reducible refine wnl_l ?_ | with_reducible refine wnl_v ?_) | ((with_reducible show WSX _ _ _); first | with_reducible refine wsx_lift ?_ | with_reducible refine wsx_seq ?_ | with_reducible refine wsx_if ?_ | with_reducible refine wsx_raise0 ?_ | with_reducible refine wsx_expr ?_ | with_reducible refine wsx_ret ?_ | with_reducible refine wsx_set ?_) | with_reducible refine wex_call ?_ | ((with_reducible show WPu _ _ _ _); first | with_reducible refine wpu_nil ?_ | with_reducible refine wpu_seq ?_ | with_reducible refine wpu_ret ?_ | with_reducible refine wpu_if ?_) | ((with_reducible show WTd _ _ _ _ _); first | with_reducible refine wtd_P ?_ | with_reducible refine wtd_G ?_ | with_reducible refine wtd_If ?_ | ((with_reducible refine wtd_K ?_ ?_); (· exact ⟨rfl, by decide⟩)) | ((with_reducible refine wtd_U ?_ ?_); (· exact ⟨rfl, by decide⟩)) | ((with_reducible refine wtd_C ?_ ?_); (· rfl)) | ((with_reducible refine wtd_A ?_ ?_ ?_); (· rfl); (· first | rfl | (apply fits_of; first | omega | (simp; omega))))) | with_reducible refine two_ ?_ | ((with_reducible show WC _ _ _ _ _ _ _); first | with_reducible refine wc_nil ?_ | with_reducible refine wc_cons ?_) | ((with_reducible show WP _ _ _); first | with_reducible refine wp_no ?_ | with_reducible refine wp_e ?_) | with_reducible refine isl ?_ | ((with_reducible show RetT _ _ _); first | ((with_reducible apply retT1); (· rfl)) | ((with_reducible apply retT2); (· rfl))) | ((with_reducible show Any _ _); first | ((with_reducible apply any_o); (· rfl)) | ((with_reducible apply any_r); (· rfl))) | ((with_reducible show CallH _ _ _ _); first | ((with_reducible apply ch0); (· rfl)) | ((with_reducible apply ch1); (· rfl); (· rfl))) | ((with_reducible apply cgx0); (· rfl))))
local macro_rules | `(tactic| walk_at "nr") => `(tactic| ((with_reducible apply nrm_); (· (try simp only [wipeE, backE, List.set_cons_zero, List.set_cons_succ, List.getElem?_cons_zero, List.getElem?_cons_succ, List.cons_append, List.nil_append, List.replicate_succ, List.replicate_zero, Nat.reduceSub, unowns_nil, unowns_cons, unown_own, unown_val, unown_no, unown_ro, unown_dct]); rfl)))
local macro_rules | `(tactic| walk_at "nb") => `(tactic| simp only [wipeE, backE, List.set_cons_zero, List.set_cons_succ, List.getElem?_cons_zero, List.getElem?_cons_succ])
section
variable {w : World} {hs : List Hd} {d : D} {mir bl : Bool} {m : Int} {Q : D → List Sl → Prop}
theorem islook_w {x : Str} (h : isLk x) (q : ∀ y, Q (.bool true) [y]) : WG g_is_look [.val (.str x)] Q := by
  refine wg_run rfl ?_
  unfold b_is_look c_LETTERS
  walk_at "vc"
  refine wo_lenS ?_ (by rw [lk_len h]; decide)
  rw [lk_len h]
  walk_at "vc"
  refine lk_in h _ ?_
  walk_at "vc"
  exact q _
theorem manyr_w (hd : SeqD (hs.map hD) d) (hl : hs.length ≤ 6) (q : ∀ x y, Q (.int ((cntR (looksOf hs) * (1 + if mir then 1 else 0) : Nat) : Int)) [x, y]) :
    WG (g_many_readings w) [.val d, .val (.bool mir)] Q := by
  refine wg_run rfl ?_
  unfold b_many_readings
  walk_at "nr"
  refine ws_mid (fun e => e = [.val d, .val (.bool mir), .val (.int ((1 + if mir then 1 else 0 : Nat) : Int)), .no, .no, .no, .no]) (by cases mir <;> (walk_at "vc"; rfl)) ?_
  rintro _ rfl
  refine ws_mid (fun e => e = [.val d, .val (.bool mir), .val (.int ((1 + if mir then 1 else 0 : Nat) : Int)), .dct w [], .no, .no, .no]) (by walk_at "vc"; rfl) ?_
  rintro _ rfl
  have hm : (1 + if mir = true then 1 else 0 : Nat) ≤ 2 := by cases mir <;> decide
  generalize (1 + if mir = true then 1 else 0 : Nat) = b at *
  walk_at "vd"
  refine ws_cut (fun e => ∃ x3 x4 x5 x6 : Sl, e = [.val d, .val (.bool mir), .val (.int ((cntR (looksOf hs) * b : Nat) : Int)), x3, x4, x5, x6]) ?_ ?_
  · refine ws_forN (fun _ k e => ∃ (kvs : List (D × D)) (x4 x5 x6 : Sl), MetOk kvs ((looksOf hs).take k).reverse ∧ e = [.val d, .val (.bool mir), .val (.int ((cntR ((looksOf hs).take k).reverse * b : Nat) : Int)), .dct w kvs, x4, x5, x6]) ?_
    walk_at "vc"
    refine hd.isS _ ?_
    refine ⟨⟨[], .no, .no, .no, met_nil, ?_⟩, ?_, ?_⟩
    · have : cntR ((looksOf hs).take 0).reverse = 1 := rfl
      rw [this, Nat.one_mul]
    · rintro k d2 e hkl hd2 ⟨kvs, x4, x5, x6, hmet, rfl⟩
      rw [List.length_map] at hkl
      rw [List.getElem?_map, List.getElem?_eq_getElem hkl] at hd2
      obtain rfl := Option.some.inj hd2
      have hkl' : k < (looksOf hs).length := by rw [List.length_map]; exact hkl
      have htk : ((looksOf hs).take (k + 1)).reverse = hs[k].2.2 :: ((looksOf hs).take k).reverse := by
        rw [List.take_succ_eq_append_getElem hkl', List.reverse_append]
        show [(looksOf hs)[k]] ++ _ = _
        rw [List.getElem_map]
        rfl
      have hlen : ((looksOf hs).take k).reverse.length ≤ 6 := by
        rw [List.length_reverse, List.length_take, List.length_map]; omega
      rw [htk]
      generalize ((looksOf hs).take k).reverse = ls at *
      generalize hs[k] = hh at *
      obtain ⟨g, s, x⟩ := hh
      have hcl : ls.count x ≤ ls.length := List.count_le_length
      have hcr := cntR_le ls hlen
      have hml := hmet.len
      rw [show hD (g, s, x) = .tuple [.int g, .int s, .str x] from rfl]
      walk_at "vc"
      refine ⟨kvs, rfl, hmet.mode x, ?_⟩
      rw [hmet.getD]
      walk_at "vc"
      refine ⟨rfl, ?_⟩
      walk_at "vc"
      refine ⟨kvs, rfl, hmet.mode x, by omega, ?_⟩
      walk_at "vc"
      refine ⟨_, _, rfl, (hmet.put x).mode x, hmet.after x, ?_⟩
      have hb : cntR ls * b ≤ 10 ^ 6 * 2 := Nat.mul_le_mul hcr hm
      walk_at "vc"
      refine ⟨_, .val (.int g), .val (.int s), .val (.str x), hmet.put x, ?_⟩
      have e : ((cntR ls * b : Nat) : Int) * ((ls.count x : Int) + 1) = ((cntR (x :: ls) * b : Nat) : Int) := by
        rw [show cntR (x :: ls) = (ls.count x + 1) * cntR ls from rfl, show ((ls.count x : Int) + 1) = ((ls.count x + 1 : Nat) : Int) by omega, ← Int.natCast_mul]
        congr 1
        rw [Nat.mul_comm, Nat.mul_assoc]
      rw [← e]
    · rintro e ⟨kvs, x4, x5, x6, hmet, rfl⟩
      rw [List.length_map, List.take_of_length_le (by rw [List.length_map]; exact Nat.le_refl _), cntR_perm (List.reverse_perm _)]
      exact ⟨_, _, _, _, rfl⟩
  rintro e ⟨x3, x4, x5, x6, rfl⟩
  walk_at "vc"
  exact q _ _
theorem made_w (hd : SeqD (hs.map hD) d) (hm : 2 ≤ m) (hm2 : m ≤ 10 ^ 60) (h1 : 1 ≤ hs.length) (hn : hs.length ≤ 5) (hk : ∀ h ∈ hs, isLk h.2.2) (hr : cntR (looksOf hs) * (1 + if mir then 1 else 0) ≤ 6) (q : ∀ x, Q (clockD m (redH m hs) bl mir) [.val (.int m), x, .val (.bool bl), .val (.bool mir)]) :
    WG (g_made_clock w) [.val (.int m), .val d, .val (.bool bl), .val (.bool mir)] Q := by
  refine wg_run rfl ?_
  unfold b_made_clock c_MOST_MARKS c_MOST_HANDS_clocks c_MOST_READINGS
  walk_at "vc"
  refine hd.len _ ?_
  rw [List.length_map]
  walk_at "vc"
  refine wl_compP (fun _ _ => true) (fun _ _ => .bool true) ?_
  walk_at "vc"
  refine hd.isS _ ?_
  refine ⟨rfl, fits_of (by rw [List.length_map]; omega), fun d hd => ?_, ?_⟩
  · obtain ⟨h, hh, rfl⟩ := List.mem_map.mp hd
    have hx := hk h hh
    obtain ⟨g, s, x⟩ := h
    rw [show hD (g, s, x) = .tuple [.int g, .int s, .str x] from rfl]
    walk_at "vc"
    refine ⟨rfl, ?_⟩
    walk_at "vc"
    refine islook_w hx fun _ => ?_
    walk_at "vc"
    exact ⟨rfl, rfl⟩
  rw [filter_yes]
  walk_at "vc"
  refine wo_allM (p := fun _ => true) ?_
  walk_at "vc"
  refine ifb_eT (by simp) ?_
  walk_at "vc"
  refine manyr_w hd (by omega) fun _ _ => ?_
  walk_at "vc"
  refine wl_compP (fun _ _ => true) (fun _ => redD m) ?_
  walk_at "vc"
  refine hd.isS _ ?_
  refine ⟨rfl, fits_of (by rw [List.length_map]; omega), fun d hd => ?_, ?_⟩
  · obtain ⟨h, hh, rfl⟩ := List.mem_map.mp hd
    obtain ⟨g, s, x⟩ := h
    rw [show hD (g, s, x) = .tuple [.int g, .int s, .str x] from rfl]
    walk_at "vc"
    refine ⟨rfl, ?_⟩
    walk_at "vc"
    exact ⟨rfl, rfl⟩
  rw [filter_yes, redD_hands]
  walk_at "vc"
  exact q _
end

end Lw

namespace Lw
open PySem PySem.Spec PyProof.Rows L2 M
local macro_rules | `(tactic| walk_at "sd") => `(tactic| (first | (with_reducible assumption) | omega | (simp; done) | (simp; omega) | decide))
local macro_rules | `(tactic| walk_at "v1") => `(tactic| (first | ((with_reducible show WE _ _ _); first | with_reducible refine we_chain3 ?_ | with_reducible refine we_callNL ?_ | with_reducible refine we_callN ?_ | with_reducible refine we_c ?_ | with_reducible refine we_un ?_ | with_reducible refine we_bin ?_ | with_reducible refine we_chain ?_ | with_reducible refine we_and ?_ | with_reducible refine we_or ?_ | with_reducible refine we_not ?_ | with_reducible refine we_if ?_ | with_reducible refine we_fz ?_ | with_reducible refine we_tup ?_ | with_reducible refine we_sl ?_ | with_reducible refine we_tupRg ?_ | with_reducible refine we_bor ?_ | with_reducible refine we_call ?_ | with_reducible refine we_din ?_ | with_reducible refine we_borL ?_ | ((with_reducible apply we_v); (· rfl)) | ((with_reducible show WE (eO _) _ _); first | ((with_reducible apply we_oV); (· rfl)) | ((with_reducible apply we_oW); (· rfl)) | ((with_reducible apply we_oR); (· rfl))) | ((with_reducible show WE (eBinV _ _ _) _ _); first | ((with_reducible apply we_bV); (· rfl)) | ((with_reducible apply we_bVr); (· rfl)) | ((with_reducible apply we_bVv); (· rfl))) | ((with_reducible apply we_mut); (· rfl)) | ((with_reducible apply we_mut0); (· rfl)) | ((with_reducible apply we_dget2); (· rfl)) | ((with_reducible apply we_didx); (· rfl))) | ((with_reducible show WO _ _); first | ((with_reducible show WO (gIsO _ _) _); first | with_reducible refine wo_isON ?_ | ((with_reducible refine wo_isO (b := true) ?_ ?_); (· rfl)) | ((with_reducible refine wo_isO (b := false) ?_ ?_); (· rfl))) | with_reducible refine wo_attr ?_ | ((with_reducible show WO (valsA _) _); first | with_reducible refine vals_nil ?_ | with_reducible refine vals_v ?_) | with_reducible refine wo_isB ?_ | with_reducible refine wo_ntB ?_ | ((with_reducible show WO (backAr _ _ _) _); first | with_reducible refine back_nil ?_ | with_reducible refine back_v ?_ | with_reducible refine back_o ?_ | ((with_reducible apply back_r); (· rfl))) | ((with_reducible show WO (resArs _ _) _); first | with_reducible refine res_nil ?_ | with_reducible refine res_v ?_ | ((with_reducible apply res_r); (· rfl)) | ((with_reducible apply res_oO); (· rfl)) | ((with_reducible apply res_oR); (· rfl)) | ((with_reducible apply res_oV); (· rfl))) | ((with_reducible show WO (gAdd _ _) _); first | with_reducible refine wo_add ?_ | ((with_reducible refine wo_addL ?_ ?_); (· first | rfl | (apply fits_of; first | omega | (simp; omega)))) | ((with_reducible refine wo_addT ?_ ?_); (· first | rfl | (apply fits_of; first | omega | (simp; omega))))) | with_reducible refine wo_sub ?_ | with_reducible refine wo_neg ?_ | with_reducible refine wo_lt ?_ | with_reducible refine wo_le ?_ | with_reducible refine wo_gt ?_ | with_reducible refine wo_ge ?_ | ((with_reducible show WO (gEq _ _) _); first | with_reducible refine wo_eq ?_ | with_reducible refine wo_eqB ?_ | ((with_reducible refine wo_eqT ?_ ?_); (· decide +kernel)) | ((with_reducible refine wo_eqF ?_ ?_); (· decide +kernel))) | ((with_reducible show WO (gNe _ _) _); first | with_reducible refine wo_ne ?_ | with_reducible refine wo_neB ?_ | ((with_reducible refine wo_neT ?_ ?_); (· decide +kernel)) | ((with_reducible refine wo_neF ?_ ?_); (· decide +kernel))) | with_reducible refine wo_isN ?_ | with_reducible refine wo_ntN ?_ | ((with_reducible show WO (gLen _) _); first | with_reducible refine wo_lenL ?_ | with_reducible refine wo_lenT ?_) | with_reducible refine wo_abs ?_ | ((with_reducible show WO (gInt _) _); first | with_reducible refine wo_intB ?_ | with_reducible refine wo_intI ?_) | ((with_reducible show WO (gList _) _); first | with_reducible refine wo_listL ?_ | with_reducible refine wo_listT ?_) | ((with_reducible show WO (gTuple _) _); first | with_reducible refine wo_tupL ?_ | with_reducible refine wo_tupT ?_) | with_reducible refine wo_max ?_ | with_reducible refine wo_min ?_ | ((with_reducible show WO (gIsi _ _) _); first | with_reducible refine wo_isiI ?_ | with_reducible refine wo_isiB ?_ | ((with_reducible apply wo_isiE); (· rfl))) | ((with_reducible show WO (cutOf _ _ _) _); first | with_reducible refine wo_cutL ?_ | with_reducible refine wo_cutT ?_) | ((with_reducible show WO (gPow _ _) _); first | with_reducible refine wo_p10_60 ?_ | with_reducible refine wo_p10_18 ?_ | with_reducible refine wo_p10_30 ?_ | with_reducible refine wo_p2_24 ?_ | with_reducible refine wo_p10_8 ?_ | with_reducible refine wo_p10_19 ?_ | with_reducible refine wo_p10_55 ?_ | with_reducible refine wo_p10_59 ?_ | with_reducible refine wo_p3_30 ?_ | with_reducible refine wo_p2_40 ?_ | with_reducible refine wo_p10_54 ?_ | with_reducible refine wo_p3_13 ?_ | with_reducible refine wo_p2_20 ?_ | with_reducible refine wo_p10_57 ?_ | with_reducible refine wo_p10_40 ?_ | with_reducible refine wo_p10_61 ?_ | with_reducible refine wo_p10_50 ?_) | ((with_reducible apply wo_idxE); (· rfl)) | ((with_reducible apply wo_allE); (· rfl)) | ((with_reducible apply wo_anyE); (· rfl)) | ((with_reducible show WO (ixN _ _) _); first | ((with_reducible apply wo_ixE); (· rfl)) | ((with_reducible refine wo_ix ?_ ?_ ?_); (· walk_at "sd"); (· walk_at "sd"))) | ((with_reducible refine wo_mod ?_ ?_); (· walk_at "sd")) | ((with_reducible refine wo_div ?_ ?_ ?_); (· walk_at "sd"); (· walk_at "sd")) | ((with_reducible refine wo_mul ?_ ?_); (· first | exact mul_ok1 (by walk_at "sd") | exact mul_ok2 (by walk_at "sd") | exact mul_ok3 (by omega) (by omega))) | ((with_reducible refine wo_app ?_ ?_); (· first | rfl | (apply fits_of; first | omega | (simp; omega)))) | ((with_reducible refine wo_ext ?_ ?_); (· first | rfl | (apply fits_of; first | omega | (simp; omega))))) | ((with_reducible show WS _ _ _); first | with_reducible refine ws_try ?_ | with_reducible refine ws_retT ?_ | with_reducible refine ws_seq ?_ | with_reducible refine ws_expr ?_ | with_reducible refine ws_ret ?_ | with_reducible refine ws_retL ?_ | with_reducible refine ws_if ?_ | with_reducible refine ws_set ?_ | with_reducible refine ws_setO ?_ | with_reducible refine ws_asg ?_ | with_reducible refine ws_par ?_ | with_reducible refine ws_nil ?_ | with_reducible refine ws_retN ?_ | with_reducible refine ws_dput ?_ | with_reducible refine ws_dnew ?_ | ((with_reducible show WS (sFrz _ _) _ _); first | ((with_reducible apply ws_frz); (· rfl)) | ((with_reducible apply ws_frzV); (· rfl))) | ((with_reducible apply ws_retO); (· rfl)) | ((with_reducible apply ws_putI); (· rfl))) | ((with_reducible apply nrm_); (· (try simp only [wipeE, backE, List.set_cons_zero, List.set_cons_succ, List.getElem?_cons_zero, List.getElem?_cons_succ, List.cons_append, List.nil_append, List.replicate_succ, List.replicate_zero, Nat.reduceSub, unowns_nil, unowns_cons, unown_own, unown_val, unown_no, unown_ro, unown_dct]); rfl)) | ((with_reducible show IfB _ _ _); first | with_reducible refine ifb_not ?_ | with_reducible refine ifb_t ?_ | with_reducible refine ifb_f ?_ | ((with_reducible refine ifb_decT ?_ ?_); (· first | (with_reducible assumption) | omega | (simp only [List.length_cons, List.length_nil]; omega))) | ((with_reducible refine ifb_decF ?_ ?_); (· first | (with_reducible assumption) | omega | (simp only [List.length_cons, List.length_nil]; omega))) | with_reducible refine ifb_dec (fun _ => ?_) (fun _ => ?_) | ((with_reducible apply ifb_eT); (· rfl)) | ((with_reducible apply ifb_eF); (· rfl))) | ((with_reducible show WB _ _ _); first | with_reducible refine wb_bor ?_ | with_reducible refine wb_v ?_ | with_reducible refine wb_and ?_ | with_reducible refine wb_or ?_ | with_reducible refine wb_not ?_ | with_reducible refine wb_yes ?_) | with_reducible refine isb ?_ | ((with_reducible show WL _ _ _); first | with_reducible refine wl_nil ?_ | with_reducible refine wl_cons ?_ | with_reducible refine wl_lst ?_ | with_reducible refine wl_un ?_ | with_reducible refine wl_it ?_ | with_reducible refine wl_rng1 ?_ | with_reducible refine wl_rng2 ?_ | with_reducible refine wl_enum ?_ | with_reducible refine wl_enumA ?_ | with_reducible refine wl_addE ?_ | with_reducible refine wl_rg1 ?_ | with_reducible refine wl_bor ?_ | with_reducible refine wl_call ?_ | ((with_reducible apply wl_addO); (· rfl)) | ((with_reducible show WL (lSlV _ _ _) _ _); first | ((with_reducible apply wl_slO); (· rfl)) | ((with_reducible apply wl_slR); (· rfl)))) | ((with_reducible show WA _ _ _); first | with_reducible refine wa_nil ?_ | with_reducible refine wa_v ?_ | ((with_reducible apply wa_r); (· rfl)) | ((with_reducible show WA (aO _ _) _ _); first | ((with_reducible apply wa_oR); (· rfl)) | ((with_reducible apply wa_oO); (· rfl)) | ((with_reducible apply wa_oV); (· rfl)))) | ((with_reducible show IsS _ _); first | with_reducible refine iss_l ?_ | with_reducible refine iss_t ?_) | ((with_reducible refine fit_ ?_ ?_); (· first | rfl | (apply fits_of; first | omega | (simp; omega)))) | ((with_reducible show CallG _ _ _ _); first | ((with_reducible apply cg0); (· rfl)) | ((with_reducible apply cg1); (· rfl); (· rfl))) | ((with_reducible show WT _ _ _ _); first | with_reducible refine wt_n ?_ | ((with_reducible apply wt_t); (· rfl)) | ((with_reducible apply wt_unl); (· rfl))) | ((with_reducible show WTs _ _ _ _); first | with_reducible refine wts_nil ?_ | with_reducible refine wts_cons ?_) | ((with_reducible apply own_); (· rfl)) | ((with_reducible refine sml_ ?_ ?_ ?_); (· walk_at "sd"); (· walk_at "sd")) | with_reducible refine isi_ ?_ | ((with_reducible show WNl _ _ _); first | with_reducible refine wnl_l ?_ | with_reducible refine wnl_v ?_) | ((with_reducible show WSX _ _ _); first | with_reducible refine wsx_lift ?_ | with_reducible refine wsx_seq ?_ | with_reducible refine wsx_if ?_ | with_reducible refine wsx_raise0 ?_ | with_reducible refine wsx_expr ?_ | with_reducible refine wsx_ret ?_ | with_reducible refine wsx_set ?_) | with_reducible refine wex_call ?_ | ((with_reducible show WPu _ _ _ _); first | with_reducible refine wpu_nil ?_ | with_reducible refine wpu_seq ?_ | with_reducible refine wpu_ret ?_ | with_reducible refine wpu_if ?_) | ((with_reducible show WTd _ _ _ _ _); first | with_reducible refine wtd_P ?_ | with_reducible refine wtd_G ?_ | with_reducible refine wtd_If ?_ | ((with_reducible refine wtd_K ?_ ?_); (· exact ⟨rfl, by decide⟩)) | ((with_reducible refine wtd_U ?_ ?_); (· exact ⟨rfl, by decide⟩)) | ((with_reducible refine wtd_C ?_ ?_); (· rfl)) | ((with_reducible refine wtd_A ?_ ?_ ?_); (· rfl); (· first | rfl | (apply fits_of; first | omega | (simp; omega))))) | with_reducible refine two_ ?_ | ((with_reducible show WC _ _ _ _ _ _ _); first | with_reducible refine wc_nil ?_ | with_reducible refine wc_cons ?_) | ((with_reducible show WP _ _ _); first | with_reducible refine wp_no ?_ | with_reducible refine wp_e ?_) | with_reducible refine isl ?_ | ((with_reducible show RetT _ _ _); first | ((with_reducible apply retT1); (· rfl)) | ((with_reducible apply retT2); (· rfl))) | ((with_reducible show Any _ _); first | ((with_reducible apply any_o); (· rfl)) | ((with_reducible apply any_r); (· rfl))) | ((with_reducible show CallH _ _ _ _); first | ((with_reducible apply ch0); (· rfl)) | ((with_reducible apply ch1); (· rfl); (· rfl))) | ((with_reducible apply cgx0); (· rfl))))
local macro_rules | `(tactic| walk_at "v2") => `(tactic| (first | ((with_reducible show WE _ _ _); first | with_reducible refine we_chain3 ?_ | with_reducible refine we_callNL ?_ | with_reducible refine we_callN ?_ | with_reducible refine we_c ?_ | with_reducible refine we_un ?_ | with_reducible refine we_bin ?_ | with_reducible refine we_chain ?_ | with_reducible refine we_and ?_ | with_reducible refine we_or ?_ | with_reducible refine we_not ?_ | with_reducible refine we_if ?_ | with_reducible refine we_fz ?_ | with_reducible refine we_tup ?_ | with_reducible refine we_sl ?_ | with_reducible refine we_tupRg ?_ | with_reducible refine we_bor ?_ | with_reducible refine we_call ?_ | with_reducible refine we_din ?_ | with_reducible refine we_borL ?_ | ((with_reducible apply we_v); (· rfl)) | ((with_reducible show WE (eO _) _ _); first | ((with_reducible apply we_oV); (· rfl)) | ((with_reducible apply we_oW); (· rfl)) | ((with_reducible apply we_oR); (· rfl))) | ((with_reducible show WE (eBinV _ _ _) _ _); first | ((with_reducible apply we_bV); (· rfl)) | ((with_reducible apply we_bVr); (· rfl)) | ((with_reducible apply we_bVv); (· rfl))) | ((with_reducible apply we_mut); (· rfl)) | ((with_reducible apply we_mut0); (· rfl)) | ((with_reducible apply we_dget2); (· rfl)) | ((with_reducible apply we_didx); (· rfl))) | ((with_reducible show WO _ _); first | ((with_reducible show WO (gIsO _ _) _); first | with_reducible refine wo_isON ?_ | ((with_reducible refine wo_isO (b := true) ?_ ?_); (· rfl)) | ((with_reducible refine wo_isO (b := false) ?_ ?_); (· rfl))) | with_reducible refine wo_attr ?_ | ((with_reducible show WO (valsA _) _); first | with_reducible refine vals_nil ?_ | with_reducible refine vals_v ?_) | with_reducible refine wo_isB ?_ | with_reducible refine wo_ntB ?_ | ((with_reducible show WO (backAr _ _ _) _); first | with_reducible refine back_nil ?_ | with_reducible refine back_v ?_ | with_reducible refine back_o ?_ | ((with_reducible apply back_r); (· rfl))) | ((with_reducible show WO (resArs _ _) _); first | with_reducible refine res_nil ?_ | with_reducible refine res_v ?_ | ((with_reducible apply res_r); (· rfl)) | ((with_reducible apply res_oO); (· rfl)) | ((with_reducible apply res_oR); (· rfl)) | ((with_reducible apply res_oV); (· rfl))) | ((with_reducible show WO (gAdd _ _) _); first | with_reducible refine wo_add ?_ | ((with_reducible refine wo_addL ?_ ?_); (· first | rfl | (apply fits_of; first | omega | (simp; omega)))) | ((with_reducible refine wo_addT ?_ ?_); (· first | rfl | (apply fits_of; first | omega | (simp; omega))))) | with_reducible refine wo_sub ?_ | with_reducible refine wo_neg ?_ | with_reducible refine wo_lt ?_ | with_reducible refine wo_le ?_ | with_reducible refine wo_gt ?_ | with_reducible refine wo_ge ?_ | ((with_reducible show WO (gEq _ _) _); first | with_reducible refine wo_eq ?_ | with_reducible refine wo_eqB ?_ | ((with_reducible refine wo_eqT ?_ ?_); (· decide +kernel)) | ((with_reducible refine wo_eqF ?_ ?_); (· decide +kernel))) | ((with_reducible show WO (gNe _ _) _); first | with_reducible refine wo_ne ?_ | with_reducible refine wo_neB ?_ | ((with_reducible refine wo_neT ?_ ?_); (· decide +kernel)) | ((with_reducible refine wo_neF ?_ ?_); (· decide +kernel))) | with_reducible refine wo_isN ?_ | with_reducible refine wo_ntN ?_ | ((with_reducible show WO (gLen _) _); first | with_reducible refine wo_lenL ?_ | with_reducible refine wo_lenT ?_) | with_reducible refine wo_abs ?_ | ((with_reducible show WO (gInt _) _); first | with_reducible refine wo_intB ?_ | with_reducible refine wo_intI ?_) | ((with_reducible show WO (gList _) _); first | with_reducible refine wo_listL ?_ | with_reducible refine wo_listT ?_) | ((with_reducible show WO (gTuple _) _); first | with_reducible refine wo_tupL ?_ | with_reducible refine wo_tupT ?_) | with_reducible refine wo_max ?_ | with_reducible refine wo_min ?_ | ((with_reducible show WO (gIsi _ _) _); first | with_reducible refine wo_isiI ?_ | with_reducible refine wo_isiB ?_ | ((with_reducible apply wo_isiE); (· rfl))) | ((with_reducible show WO (cutOf _ _ _) _); first | with_reducible refine wo_cutL ?_ | with_reducible refine wo_cutT ?_) | ((with_reducible show WO (gPow _ _) _); first | with_reducible refine wo_p10_60 ?_ | with_reducible refine wo_p10_18 ?_ | with_reducible refine wo_p10_30 ?_ | with_reducible refine wo_p2_24 ?_ | with_reducible refine wo_p10_8 ?_ | with_reducible refine wo_p10_19 ?_ | with_reducible refine wo_p10_55 ?_ | with_reducible refine wo_p10_59 ?_ | with_reducible refine wo_p3_30 ?_ | with_reducible refine wo_p2_40 ?_ | with_reducible refine wo_p10_54 ?_ | with_reducible refine wo_p3_13 ?_ | with_reducible refine wo_p2_20 ?_ | with_reducible refine wo_p10_57 ?_ | with_reducible refine wo_p10_40 ?_ | with_reducible refine wo_p10_61 ?_ | with_reducible refine wo_p10_50 ?_) | ((with_reducible apply wo_idxE); (· rfl)) | ((with_reducible apply wo_allE); (· rfl)) | ((with_reducible apply wo_anyE); (· rfl)) | ((with_reducible show WO (ixN _ _) _); first | ((with_reducible apply wo_ixE); (· rfl)) | ((with_reducible refine wo_ix ?_ ?_ ?_); (· walk_at "sd"); (· walk_at "sd"))) | ((with_reducible refine wo_mod ?_ ?_); (· walk_at "sd")) | ((with_reducible refine wo_div ?_ ?_ ?_); (· walk_at "sd"); (· walk_at "sd")) | ((with_reducible refine wo_mul ?_ ?_); (· first | exact mul_ok1 (by walk_at "sd") | exact mul_ok2 (by walk_at "sd") | exact mul_ok3 (by omega) (by omega))) | ((with_reducible refine wo_app ?_ ?_); (· first | rfl | (apply fits_of; first | omega | (simp; omega)))) | ((with_reducible refine wo_ext ?_ ?_); (· first | rfl | (apply fits_of; first | omega | (simp; omega))))) | ((with_reducible show WS _ _ _); first | with_reducible refine ws_try ?_ | with_reducible refine ws_retT ?_ | with_reducible refine ws_seq ?_ | with_reducible refine ws_expr ?_ | with_reducible refine ws_ret ?_ | with_reducible refine ws_retL ?_ | with_reducible refine ws_set ?_ | with_reducible refine ws_setO ?_ | with_reducible refine ws_asg ?_ | with_reducible refine ws_par ?_ | with_reducible refine ws_nil ?_ | with_reducible refine ws_retN ?_ | with_reducible refine ws_dput ?_ | with_reducible refine ws_dnew ?_ | ((with_reducible show WS (sFrz _ _) _ _); first | ((with_reducible apply ws_frz); (· rfl)) | ((with_reducible apply ws_frzV); (· rfl))) | ((with_reducible apply ws_retO); (· rfl)) | ((with_reducible apply ws_putI); (· rfl))) | ((with_reducible apply nrm_); (· (try simp only [wipeE, backE, List.set_cons_zero, List.set_cons_succ, List.getElem?_cons_zero, List.getElem?_cons_succ, List.cons_append, List.nil_append, List.replicate_succ, List.replicate_zero, Nat.reduceSub, unowns_nil, unowns_cons, unown_own, unown_val, unown_no, unown_ro, unown_dct]); rfl)) | ((with_reducible show IfB _ _ _); first | with_reducible refine ifb_not ?_ | with_reducible refine ifb_t ?_ | with_reducible refine ifb_f ?_ | ((with_reducible refine ifb_decT ?_ ?_); (· first | (with_reducible assumption) | omega | (simp only [List.length_cons, List.length_nil]; omega))) | ((with_reducible refine ifb_decF ?_ ?_); (· first | (with_reducible assumption) | omega | (simp only [List.length_cons, List.length_nil]; omega))) | with_reducible refine ifb_dec (fun _ => ?_) (fun _ => ?_) | ((with_reducible apply ifb_eT); (· rfl)) | ((with_reducible apply ifb_eF); (· rfl))) | ((with_reducible show WB _ _ _); first | with_reducible refine wb_bor ?_ | with_reducible refine wb_v ?_ | with_reducible refine wb_and ?_ | with_reducible refine wb_or ?_ | with_reducible refine wb_not ?_ | with_reducible refine wb_yes ?_) | with_reducible refine isb ?_ | ((with_reducible show WL _ _ _); first | with_reducible refine wl_nil ?_ | with_reducible refine wl_cons ?_ | with_reducible refine wl_lst ?_ | with_reducible refine wl_un ?_ | with_reducible refine wl_it ?_ | with_reducible refine wl_rng1 ?_ | with_reducible refine wl_rng2 ?_ | with_reducible refine wl_enum ?_ | with_reducible refine wl_enumA ?_ | with_reducible refine wl_addE ?_ | with_reducible refine wl_rg1 ?_ | with_reducible refine wl_bor ?_ | with_reducible refine wl_call ?_ | ((with_reducible apply wl_addO); (· rfl)) | ((with_reducible show WL (lSlV _ _ _) _ _); first | ((with_reducible apply wl_slO); (· rfl)) | ((with_reducible apply wl_slR); (· rfl)))) | ((with_reducible show WA _ _ _); first | with_reducible refine wa_nil ?_ | with_reducible refine wa_v ?_ | ((with_reducible apply wa_r); (· rfl)) | ((with_reducible show WA (aO _ _) _ _); first | ((with_reducible apply wa_oR); (· rfl)) | ((with_reducible apply wa_oO); (· rfl)) | ((with_reducible apply wa_oV); (· rfl)))) | ((with_reducible show IsS _ _); first | with_reducible refine iss_l ?_ | with_reducible refine iss_t ?_) | ((with_reducible refine fit_ ?_ ?_); (· first | rfl | (apply fits_of; first | omega | (simp; omega)))) | ((with_reducible show CallG _ _ _ _); first | ((with_reducible apply cg0); (· rfl)) | ((with_reducible apply cg1); (· rfl); (· rfl))) | ((with_reducible show WT _ _ _ _); first | with_reducible refine wt_n ?_ | ((with_reducible apply wt_t); (· rfl)) | ((with_reducible apply wt_unl); (· rfl))) | ((with_reducible show WTs _ _ _ _); first | with_reducible refine wts_nil ?_ | with_reducible refine wts_cons ?_) | ((with_reducible apply own_); (· rfl)) | ((with_reducible refine sml_ ?_ ?_ ?_); (· walk_at "sd"); (· walk_at "sd")) | with_reducible refine isi_ ?_ | ((with_reducible show WNl _ _ _); first | with_reducible refine wnl_l ?_ | with_reducible refine wnl_v ?_) | ((with_reducible show WSX _ _ _); first | with_reducible refine wsx_lift ?_ | with_reducible refine wsx_seq ?_ | with_reducible refine wsx_if ?_ | with_reducible refine wsx_raise0 ?_ | with_reducible refine wsx_expr ?_ | with_reducible refine wsx_ret ?_ | with_reducible refine wsx_set ?_) | with_reducible refine wex_call ?_ | ((with_reducible show WPu _ _ _ _); first | with_reducible refine wpu_nil ?_ | with_reducible refine wpu_seq ?_ | with_reducible refine wpu_ret ?_ | with_reducible refine wpu_if ?_) | ((with_reducible show WTd _ _ _ _ _); first | with_reducible refine wtd_P ?_ | with_reducible refine wtd_G ?_ | with_reducible refine wtd_If ?_ | ((with_reducible refine wtd_K ?_ ?_); (· exact ⟨rfl, by decide⟩)) | ((with_reducible refine wtd_U ?_ ?_); (· exact ⟨rfl, by decide⟩)) | ((with_reducible refine wtd_C ?_ ?_); (· rfl)) | ((with_reducible refine wtd_A ?_ ?_ ?_); (· rfl); (· first | rfl | (apply fits_of; first | omega | (simp; omega))))) | with_reducible refine two_ ?_ | ((with_reducible show WC _ _ _ _ _ _ _); first | with_reducible refine wc_nil ?_ | with_reducible refine wc_cons ?_) | ((with_reducible show WP _ _ _); first | with_reducible refine wp_no ?_ | with_reducible refine wp_e ?_) | with_reducible refine isl ?_ | ((with_reducible show RetT _ _ _); first | ((with_reducible apply retT1); (· rfl)) | ((with_reducible apply retT2); (· rfl))) | ((with_reducible show Any _ _); first | ((with_reducible apply any_o); (· rfl)) | ((with_reducible apply any_r); (· rfl))) | ((with_reducible show CallH _ _ _ _); first | ((with_reducible apply ch0); (· rfl)) | ((with_reducible apply ch1); (· rfl); (· rfl))) | ((with_reducible apply cgx0); (· rfl))))
local macro_rules | `(tactic| walk_at "vc") => `(tactic| (repeat' first | ((with_reducible show WE _ _ _); first | with_reducible refine we_chain3 ?_ | with_reducible refine we_callNL ?_ | with_reducible refine we_callN ?_ | with_reducible refine we_c ?_ | with_reducible refine we_un ?_ | with_reducible refine we_bin ?_ | with_reducible refine we_chain ?_ | with_reducible refine we_and ?_ | with_reducible refine we_or ?_ | with_reducible refine we_not ?_ | with_reducible refine we_if ?_ | with_reducible refine we_fz ?_ | with_reducible refine we_tup ?_ | with_reducible refine we_sl ?_ | with_reducible refine we_tupRg ?_ | with_reducible refine we_bor ?_ | with_reducible refine we_call ?_ | with_reducible refine we_din ?_ | with_reducible refine we_borL ?_ | ((with_reducible apply we_v); (· rfl)) | ((with_reducible show WE (eO _) _ _); first | ((with_reducible apply we_oV); (· rfl)) | ((with_reducible apply we_oW); (· rfl)) | ((with_reducible apply we_oR); (· rfl))) | ((with_reducible show WE (eBinV _ _ _) _ _); first | ((with_reducible apply we_bV); (· rfl)) | ((with_reducible apply we_bVr); (· rfl)) | ((with_reducible apply we_bVv); (· rfl))) | ((with_reducible apply we_mut); (· rfl)) | ((with_reducible apply we_mut0); (· rfl)) | ((with_reducible apply we_dget2); (· rfl)) | ((with_reducible apply we_didx); (· rfl))) | ((with_reducible show WO _ _); first | ((with_reducible show WO (gIsO _ _) _); first | with_reducible refine wo_isON ?_ | ((with_reducible refine wo_isO (b := true) ?_ ?_); (· rfl)) | ((with_reducible refine wo_isO (b := false) ?_ ?_); (· rfl))) | with_reducible refine wo_attr ?_ | ((with_reducible show WO (valsA _) _); first | with_reducible refine vals_nil ?_ | with_reducible refine vals_v ?_) | with_reducible refine wo_isB ?_ | with_reducible refine wo_ntB ?_ | ((with_reducible show WO (backAr _ _ _) _); first | with_reducible refine back_nil ?_ | with_reducible refine back_v ?_ | with_reducible refine back_o ?_ | ((with_reducible apply back_r); (· rfl))) | ((with_reducible show WO (resArs _ _) _); first | with_reducible refine res_nil ?_ | with_reducible refine res_v ?_ | ((with_reducible apply res_r); (· rfl)) | ((with_reducible apply res_oO); (· rfl)) | ((with_reducible apply res_oR); (· rfl)) | ((with_reducible apply res_oV); (· rfl))) | ((with_reducible show WO (gAdd _ _) _); first | with_reducible refine wo_add ?_ | ((with_reducible refine wo_addL ?_ ?_); (· first | rfl | (apply fits_of; first | omega | (simp; omega)))) | ((with_reducible refine wo_addT ?_ ?_); (· first | rfl | (apply fits_of; first | omega | (simp; omega))))) | with_reducible refine wo_sub ?_ | with_reducible refine wo_neg ?_ | with_reducible refine wo_lt ?_ | with_reducible refine wo_le ?_ | with_reducible refine wo_gt ?_ | with_reducible refine wo_ge ?_ | ((with_reducible show WO (gEq _ _) _); first | with_reducible refine wo_eq ?_ | with_reducible refine wo_eqB ?_ | ((with_reducible refine wo_eqT ?_ ?_); (· decide +kernel)) | ((with_reducible refine wo_eqF ?_ ?_); (· decide +kernel))) | ((with_reducible show WO (gNe _ _) _); first | with_reducible refine wo_ne ?_ | with_reducible refine wo_neB ?_ | ((with_reducible refine wo_neT ?_ ?_); (· decide +kernel)) | ((with_reducible refine wo_neF ?_ ?_); (· decide +kernel))) | with_reducible refine wo_isN ?_ | with_reducible refine wo_ntN ?_ | ((with_reducible show WO (gLen _) _); first | with_reducible refine wo_lenL ?_ | with_reducible refine wo_lenT ?_) | with_reducible refine wo_abs ?_ | ((with_reducible show WO (gInt _) _); first | with_reducible refine wo_intB ?_ | with_reducible refine wo_intI ?_) | ((with_reducible show WO (gList _) _); first | with_reducible refine wo_listL ?_ | with_reducible refine wo_listT ?_) | ((with_reducible show WO (gTuple _) _); first | with_reducible refine wo_tupL ?_ | with_reducible refine wo_tupT ?_) | with_reducible refine wo_max ?_ | with_reducible refine wo_min ?_ | ((with_reducible show WO (gIsi _ _) _); first | with_reducible refine wo_isiI ?_ | with_reducible refine wo_isiB ?_ | ((with_reducible apply wo_isiE); (· rfl))) | ((with_reducible show WO (cutOf _ _ _) _); first | with_reducible refine wo_cutL ?_ | with_reducible refine wo_cutT ?_) | ((with_reducible show WO (gPow _ _) _); first | with_reducible refine wo_p10_60 ?_ | with_reducible refine wo_p10_18 ?_ | with_reducible refine wo_p10_30 ?_ | with_reducible refine wo_p2_24 ?_ | with_reducible refine wo_p10_8 ?_ | with_reducible refine wo_p10_19 ?_ | with_reducible refine wo_p10_55 ?_ | with_reducible refine wo_p10_59 ?_ | with_reducible refine wo_p3_30 ?_ | with_reducible refine wo_p2_40 ?_ | with_reducible refine wo_p10_54 ?_ | with_reducible refine wo_p3_13 ?_ | with_reducible refine wo_p2_20 ?_ | with_reducible refine wo_p10_57 ?_ | with_reducible refine wo_p10_40 ?_ | with_reducible refine wo_p10_61 ?_ | with_reducible refine wo_p10_50 ?_) | ((with_reducible apply wo_idxE); (· rfl)) | ((with_reducible apply wo_allE); (· rfl)) | ((with_reducible apply wo_anyE); (· rfl)) | ((with_reducible show WO (ixN _ _) _); first | ((with_reducible apply wo_ixE); (· rfl)) | ((with_reducible refine wo_ix ?_ ?_ ?_); (· walk_at "sd"); (· walk_at "sd"))) | ((with_reducible refine wo_mod ?_ ?_); (· walk_at "sd")) | ((with_reducible refine wo_div ?_ ?_ ?_); (· walk_at "sd"); (· walk_at "sd")) | ((with_reducible refine wo_mul ?_ ?_); (· first | exact mul_ok1 (by walk_at "sd") | exact mul_ok2 (by walk_at "sd") | exact mul_ok3 (by omega) (by omega))) | ((with_reducible refine wo_app ?_ ?_); (· first | rfl | (apply fits_of; first | omega | (simp; omega)))) | ((with_reducible refine wo_ext ?_ ?_); (· first | rfl | (apply fits_of; first | omega | (simp; omega))))) | ((with_reducible show WS _ _ _); first | with_reducible refine ws_try ?_ | with_reducible refine ws_retT ?_ | with_reducible refine ws_seq ?_ | with_reducible refine ws_expr ?_ | with_reducible refine ws_ret ?_ | with_reducible refine ws_retL ?_ | with_reducible refine ws_if ?_ | with_reducible refine ws_set ?_ | with_reducible refine ws_setO ?_ | with_reducible refine ws_asg ?_ | with_reducible refine ws_par ?_ | with_reducible refine ws_nil ?_ | with_reducible refine ws_retN ?_ | with_reducible refine ws_dput ?_ | with_reducible refine ws_dnew ?_ | ((with_reducible show WS (sFrz _ _) _ _); first | ((with_reducible apply ws_frz); (· rfl)) | ((with_reducible apply ws_frzV); (· rfl))) | ((with_reducible apply ws_retO); (· rfl)) | ((with_reducible apply ws_putI); (· rfl))) | ((with_reducible apply nrm_); (· (try simp only [wipeE, backE, List.set_cons_zero, List.set_cons_succ, List.getElem?_cons_zero, List.getElem?_cons_succ, List.cons_append, List.nil_append, List.replicate_succ, List.replicate_zero, Nat.reduceSub, unowns_nil, unowns_cons, unown_own, unown_val, unown_no, unown_ro, unown_dct]); rfl)) | ((with_reducible show IfB _ _ _); first | with_reducible refine ifb_not ?_ | with_reducible refine ifb_t ?_ | with_reducible refine ifb_f ?_ | ((with_reducible refine ifb_decT ?_ ?_); (· first | (with_reducible assumption) | omega | (simp only [List.length_cons, List.length_nil]; omega))) | ((with_reducible refine ifb_decF ?_ ?_); (· first | (with_reducible assumption) | omega | (simp only [List.length_cons, List.length_nil]; omega))) | with_reducible refine ifb_dec (fun _ => ?_) (fun _ => ?_) | ((with_reducible apply ifb_eT); (· rfl)) | ((with_reducible apply ifb_eF); (· rfl))) | ((with_reducible show WB _ _ _); first | with_reducible refine wb_bor ?_ | with_reducible refine wb_v ?_ | with_reducible refine wb_and ?_ | with_reducible refine wb_or ?_ | with_reducible refine wb_not ?_ | with_reducible refine wb_yes ?_) | with_reducible refine isb ?_ | ((with_reducible show WL _ _ _); first | with_reducible refine wl_nil ?_ | with_reducible refine wl_cons ?_ | with_reducible refine wl_lst ?_ | with_reducible refine wl_un ?_ | with_reducible refine wl_it ?_ | with_reducible refine wl_rng1 ?_ | with_reducible refine wl_rng2 ?_ | with_reducible refine wl_enum ?_ | with_reducible refine wl_enumA ?_ | with_reducible refine wl_addE ?_ | with_reducible refine wl_rg1 ?_ | with_reducible refine wl_bor ?_ | with_reducible refine wl_call ?_ | ((with_reducible apply wl_addO); (· rfl)) | ((with_reducible show WL (lSlV _ _ _) _ _); first | ((with_reducible apply wl_slO); (· rfl)) | ((with_reducible apply wl_slR); (· rfl)))) | ((with_reducible show WA _ _ _); first | with_reducible refine wa_nil ?_ | with_reducible refine wa_v ?_ | ((with_reducible apply wa_r); (· rfl)) | ((with_reducible show WA (aO _ _) _ _); first | ((with_reducible apply wa_oR); (· rfl)) | ((with_reducible apply wa_oO); (· rfl)) | ((with_reducible apply wa_oV); (· rfl)))) | ((with_reducible show IsS _ _); first | with_reducible refine iss_l ?_ | with_reducible refine iss_t ?_) | ((with_reducible refine fit_ ?_ ?_); (· first | rfl | (apply fits_of; first | omega | (simp; omega)))) | ((with_reducible show CallG _ _ _ _); first | ((with_reducible apply cg0); (· rfl)) | ((with_reducible apply cg1); (· rfl); (· rfl))) | ((with_reducible show WT _ _ _ _); first | with_reducible refine wt_n ?_ | ((with_reducible apply wt_t); (· rfl)) | ((with_reducible apply wt_unl); (· rfl))) | ((with_reducible show WTs _ _ _ _); first | with_reducible refine wts_nil ?_ | with_reducible refine wts_cons ?_) | ((with_reducible apply own_); (· rfl)) | ((with_reducible refine sml_ ?_ ?_ ?_); (· walk_at "sd"); (· walk_at "sd")) | with_reducible refine isi_ ?_ | ((with_reducible show WNl _ _ _); first | with_reducible refine wnl_l ?_ | with_reducible refine wnl_v ?_) | ((with_reducible show WSX _ _ _); first | with_reducible refine wsx_lift ?_ | with_reducible refine wsx_seq ?_ | with_reducible refine wsx_if ?_ | with_reducible refine wsx_raise0 ?_ | with_reducible refine wsx_expr ?_ | with_reducible refine wsx_ret ?_ | with_reducible refine wsx_set ?_) | with_reducible refine wex_call ?_ | ((with_reducible show WPu _ _ _ _); first | with_reducible refine wpu_nil ?_ | with_reducible refine wpu_seq ?_ | with_reducible refine wpu_ret ?_ | with_reducible refine wpu_if ?_) | ((with_reducible show WTd _ _ _ _ _); first | with_reducible refine wtd_P ?_ | with_reducible refine wtd_G ?_ | with_reducible refine wtd_If ?_ | ((with_reducible refine wtd_K ?_ ?_); (· exact ⟨rfl, by decide⟩)) | ((with_reducible refine wtd_U ?_ ?_); (· exact ⟨rfl, by decide⟩)) | ((with_reducible refine wtd_C ?_ ?_); (· rfl)) | ((with_reducible refine wtd_A ?_ ?_ ?_); (· rfl); (· first | rfl | (apply fits_of; first | omega | (simp; omega))))) | with_reducible refine two_ ?_ | ((with_reducible show WC _ _ _ _ _ _ _); first | with_reducible refine wc_nil ?_ | with_reducible refine wc_cons ?_) | ((with_reducible show WP _ _ _); first | with_reducible refine wp_no ?_ | with_reducible refine wp_e ?_) | with_reducible refine isl ?_ | ((with_reducible show RetT _ _ _); first | ((with_reducible apply retT1); (· rfl)) | ((with_reducible apply retT2); (· rfl))) | ((with_reducible show Any _ _); first | ((with_reducible apply any_o); (· rfl)) | ((with_reducible apply any_r); (· rfl))) | ((with_reducible show CallH _ _ _ _); first | ((with_reducible apply ch0); (· rfl)) | ((with_reducible apply ch1); (· rfl); (· rfl))) | ((with_reducible apply cgx0); (· rfl))))
local macro_rules | `(tactic| walk_at "vd") => `(tactic| (repeat' first | ((with_reducible show WE _ _ _); first | with_reducible refine we_chain3 ?_ | with_reducible refine we_callNL ?_ | with_reducible refine we_callN ?_ | with_reducible refine we_c ?_ | with_reducible refine we_un ?_ | with_reducible refine we_bin ?_ | with_reducible refine we_chain ?_ | with_reducible refine we_and ?_ | with_reducible refine we_or ?_ | with_reducible refine we_not ?_ | with_reducible refine we_if ?_ | with_reducible refine we_fz ?_ | with_reducible refine we_tup ?_ | with_reducible refine we_sl ?_ | with_reducible refine we_tupRg ?_ | with_reducible refine we_bor ?_ | with_reducible refine we_call ?_ | with_reducible refine we_din ?_ | with_reducible refine we_borL ?_ | ((with_reducible apply we_v); (· rfl)) | ((with_reducible show WE (eO _) _ _); first | ((with_reducible apply we_oV); (· rfl)) | ((with_reducible apply we_oW); (· rfl)) | ((with_reducible apply we_oR); (· rfl))) | ((with_reducible show WE (eBinV _ _ _) _ _); first | ((with_reducible apply we_bV); (· rfl)) | ((with_reducible apply we_bVr); (· rfl)) | ((with_reducible apply we_bVv); (· rfl))) | ((with_reducible apply we_mut); (· rfl)) | ((with_reducible apply we_mut0); (· rfl)) | ((with_reducible apply we_dget2); (· rfl)) | ((with_reducible apply we_didx); (· rfl))) | ((with_reducible show WO _ _); first | ((with_reducible show WO (gIsO _ _) _); first | with_reducible refine wo_isON ?_ | ((with_reducible refine wo_isO (b := true) ?_ ?_); (· rfl)) | ((with_reducible refine wo_isO (b := false) ?_ ?_); (· rfl))) | with_reducible refine wo_attr ?_ | ((with_reducible show WO (valsA _) _); first | with_reducible refine vals_nil ?_ | with_reducible refine vals_v ?_) | with_reducible refine wo_isB ?_ | with_reducible refine wo_ntB ?_ | ((with_reducible show WO (backAr _ _ _) _); first | with_reducible refine back_nil ?_ | with_reducible refine back_v ?_ | with_reducible refine back_o ?_ | ((with_reducible apply back_r); (· rfl))) | ((with_reducible show WO (resArs _ _) _); first | with_reducible refine res_nil ?_ | with_reducible refine res_v ?_ | ((with_reducible apply res_r); (· rfl)) | ((with_reducible apply res_oO); (· rfl)) | ((with_reducible apply res_oR); (· rfl)) | ((with_reducible apply res_oV); (· rfl))) | ((with_reducible show WO (gAdd _ _) _); first | with_reducible refine wo_add ?_ | ((with_reducible refine wo_addL ?_ ?_); (· first | rfl | (apply fits_of; first | omega | (simp; omega)))) | ((with_reducible refine wo_addT ?_ ?_); (· first | rfl | (apply fits_of; first | omega | (simp; omega))))) | with_reducible refine wo_sub ?_ | with_reducible refine wo_neg ?_ | with_reducible refine wo_lt ?_ | with_reducible refine wo_le ?_ | with_reducible refine wo_gt ?_ | with_reducible refine wo_ge ?_ | ((with_reducible show WO (gEq _ _) _); first | with_reducible refine wo_eq ?_ | with_reducible refine wo_eqB ?_ | ((with_reducible refine wo_eqT ?_ ?_); (· decide +kernel)) | ((with_reducible refine wo_eqF ?_ ?_); (· decide +kernel))) | ((with_reducible show WO (gNe _ _) _); first | with_reducible refine wo_ne ?_ | with_reducible refine wo_neB ?_ | ((with_reducible refine wo_neT ?_ ?_); (· decide +kernel)) | ((with_reducible refine wo_neF ?_ ?_); (· decide +kernel))) | with_reducible refine wo_isN ?_ | with_reducible refine wo_ntN ?_ | ((with_reducible show WO (gLen _) _); first | with_reducible refine wo_lenL ?_ | with_reducible refine wo_lenT ?_) | with_reducible refine wo_abs ?_ | ((with_reducible show WO (gInt _) _); first | with_reducible refine wo_intB ?_ | with_reducible refine wo_intI ?_) | ((with_reducible show WO (gList _) _); first | with_reducible refine wo_listL ?_ | with_reducible refine wo_listT ?_) | ((with_reducible show WO (gTuple _) _); first | with_reducible refine wo_tupL ?_ | with_reducible refine wo_tupT ?_) | with_reducible refine wo_max ?_ | with_reducible refine wo_min ?_ | ((with_reducible show WO (gIsi _ _) _); first | with_reducible refine wo_isiI ?_ | with_reducible refine wo_isiB ?_ | ((with_reducible apply wo_isiE); (· rfl))) | ((with_reducible show WO (cutOf _ _ _) _); first | with_reducible refine wo_cutL ?_ | with_reducible refine wo_cutT ?_) | ((with_reducible show WO (gPow _ _) _); first | with_reducible refine wo_p10_60 ?_ | with_reducible refine wo_p10_18 ?_ | with_reducible refine wo_p10_30 ?_ | with_reducible refine wo_p2_24 ?_ | with_reducible refine wo_p10_8 ?_ | with_reducible refine wo_p10_19 ?_ | with_reducible refine wo_p10_55 ?_ | with_reducible refine wo_p10_59 ?_ | with_reducible refine wo_p3_30 ?_ | with_reducible refine wo_p2_40 ?_ | with_reducible refine wo_p10_54 ?_ | with_reducible refine wo_p3_13 ?_ | with_reducible refine wo_p2_20 ?_ | with_reducible refine wo_p10_57 ?_ | with_reducible refine wo_p10_40 ?_ | with_reducible refine wo_p10_61 ?_ | with_reducible refine wo_p10_50 ?_) | ((with_reducible apply wo_idxE); (· rfl)) | ((with_reducible apply wo_allE); (· rfl)) | ((with_reducible apply wo_anyE); (· rfl)) | ((with_reducible show WO (ixN _ _) _); first | ((with_reducible apply wo_ixE); (· rfl)) | ((with_reducible refine wo_ix ?_ ?_ ?_); (· walk_at "sd"); (· walk_at "sd"))) | ((with_reducible refine wo_mod ?_ ?_); (· walk_at "sd")) | ((with_reducible refine wo_div ?_ ?_ ?_); (· walk_at "sd"); (· walk_at "sd")) | ((with_reducible refine wo_mul ?_ ?_); (· first | exact mul_ok1 (by walk_at "sd") | exact mul_ok2 (by walk_at "sd") | exact mul_ok3 (by omega) (by omega))) | ((with_reducible refine wo_app ?_ ?_); (· first | rfl | (apply fits_of; first | omega | (simp; omega)))) | ((with_reducible refine wo_ext ?_ ?_); (· first | rfl | (apply fits_of; first | omega | (simp; omega))))) | ((with_reducible show WS _ _ _); first | with_reducible refine ws_try ?_ | with_reducible refine ws_retT ?_ | with_reducible refine ws_seq ?_ | with_reducible refine ws_expr ?_ | with_reducible refine ws_ret ?_ | with_reducible refine ws_retL ?_ | with_reducible refine ws_set ?_ | with_reducible refine ws_setO ?_ | with_reducible refine ws_asg ?_ | with_reducible refine ws_par ?_ | with_reducible refine ws_nil ?_ | with_reducible refine ws_retN ?_ | with_reducible refine ws_dput ?_ | with_reducible refine ws_dnew ?_ | ((with_reducible show WS (sFrz _ _) _ _); first | ((with_reducible apply ws_frz); (· rfl)) | ((with_reducible apply ws_frzV); (· rfl))) | ((with_reducible apply ws_retO); (· rfl)) | ((with_reducible apply ws_putI); (· rfl))) | ((with_reducible apply nrm_); (· (try simp only [wipeE, backE, List.set_cons_zero, List.set_cons_succ, List.getElem?_cons_zero, List.getElem?_cons_succ, List.cons_append, List.nil_append, List.replicate_succ, List.replicate_zero, Nat.reduceSub, unowns_nil, unowns_cons, unown_own, unown_val, unown_no, unown_ro, unown_dct]); rfl)) | ((with_reducible show IfB _ _ _); first | with_reducible refine ifb_not ?_ | with_reducible refine ifb_t ?_ | with_reducible refine ifb_f ?_ | ((with_reducible refine ifb_decT ?_ ?_); (· first | (with_reducible assumption) | omega | (simp only [List.length_cons, List.length_nil]; omega))) | ((with_reducible refine ifb_decF ?_ ?_); (· first | (with_reducible assumption) | omega | (simp only [List.length_cons, List.length_nil]; omega))) | with_reducible refine ifb_dec (fun _ => ?_) (fun _ => ?_) | ((with_reducible apply ifb_eT); (· rfl)) | ((with_reducible apply ifb_eF); (· rfl))) | ((with_reducible show WB _ _ _); first | with_reducible refine wb_bor ?_ | with_reducible refine wb_v ?_ | with_reducible refine wb_and ?_ | with_reducible refine wb_or ?_ | with_reducible refine wb_not ?_ | with_reducible refine wb_yes ?_) | with_reducible refine isb ?_ | ((with_reducible show WL _ _ _); first | with_reducible refine wl_nil ?_ | with_reducible refine wl_cons ?_ | with_reducible refine wl_lst ?_ | with_reducible refine wl_un ?_ | with_reducible refine wl_it ?_ | with_reducible refine wl_rng1 ?_ | with_reducible refine wl_rng2 ?_ | with_reducible refine wl_enum ?_ | with_reducible refine wl_enumA ?_ | with_reducible refine wl_addE ?_ | with_reducible refine wl_rg1 ?_ | with_reducible refine wl_bor ?_ | with_reducible refine wl_call ?_ | ((with_reducible apply wl_addO); (· rfl)) | ((with_reducible show WL (lSlV _ _ _) _ _); first | ((with_reducible apply wl_slO); (· rfl)) | ((with_reducible apply wl_slR); (· rfl)))) | ((with_reducible show WA _ _ _); first | with_reducible refine wa_nil ?_ | with_reducible refine wa_v ?_ | ((with_reducible apply wa_r); (· rfl)) | ((with_reducible show WA (aO _ _) _ _); first | ((with_reducible apply wa_oR); (· rfl)) | ((with_reducible apply wa_oO); (· rfl)) | ((with_reducible apply wa_oV); (· rfl)))) | ((with_reducible show IsS _ _); first | with_reducible refine iss_l ?_ | with_reducible refine iss_t ?_) | ((with_reducible refine fit_ ?_ ?_); (· first | rfl | (apply fits_of; first | omega | (simp; omega)))) | ((with_reducible show CallG _ _ _ _); first | ((with_reducible apply cg0); (· rfl)) | ((with_reducible apply cg1); (· rfl); (· rfl))) | ((with_reducible show WT _ _ _ _); first | with_reducible refine wt_n ?_ | ((with_reducible apply wt_t); (· rfl)) | ((with_reducible apply wt_unl); (· rfl))) | ((with_reducible show WTs _ _ _ _); first | with_reducible refine wts_nil ?_ | with_reducible refine wts_cons ?_) | ((with_reducible apply own_); (· rfl)) | ((with_reducible refine sml_ ?_ ?_ ?_); (· walk_at "sd"); (· walk_at "sd")) | with_reducible refine isi_ ?_ | ((with_reducible show WNl _ _ _); first | with_reducible refine wnl_l ?_ | with_reducible refine wnl_v ?_) | ((with_reducible show WSX _ _ _); first | with_reducible refine wsx_lift ?_ | with_reducible refine wsx_seq ?_ | with_reducible refine wsx_if ?_ | with_reducible refine wsx_raise0 ?_ | with_reducible refine wsx_expr ?_ | with_reducible refine wsx_ret ?_ | with_reducible refine wsx_set ?_) | with_reducible refine wex_call ?_ | ((with_reducible show WPu _ _ _ _); first | with_reducible refine wpu_nil ?_ | with_reducible refine wpu_seq ?_ | with_reducible refine wpu_ret ?_ | with_reducible refine wpu_if ?_) | ((with_reducible show WTd _ _ _ _ _); first | with_reducible refine wtd_P ?_ | with_reducible refine wtd_G ?_ | with_reducible refine wtd_If ?_ | ((with_reducible refine wtd_K ?_ ?_); (· exact ⟨rfl, by decide⟩)) | ((with_reducible refine wtd_U ?_ ?_); (· exact ⟨rfl, by decide⟩)) | ((with_reducible refine wtd_C ?_ ?_); (· rfl)) | ((with_reducible refine wtd_A ?_ ?_ ?_); (· rfl); (· first | rfl | (apply fits_of; first | omega | (simp; omega))))) | with_reducible refine two_ ?_ | ((with_reducible show WC _ _ _ _ _ _ _); first | with_reducible refine wc_nil ?_ | with_reducible refine wc_cons ?_) | ((with_reducible show WP _ _ _); first | with_reducible refine wp_no ?_ | with_reducible refine wp_e ?_) | with_reducible refine isl ?_ | ((with_reducible show RetT _ _ _); first | ((with_reducible apply retT1); (· rfl)) | ((with_reducible apply retT2); (· rfl))) | ((with_reducible show Any _ _); first | ((with_reducible apply any_o); (· rfl)) | ((with_reducible apply any_r); (· rfl))) | ((with_reducible show CallH _ _ _ _); first | ((with_reducible apply ch0); (· rfl)) | ((with_reducible apply ch1); (· rfl); (· rfl))) | ((with_reducible apply cgx0); (· rfl))))
local macro_rules | `(tactic| walk_at "nr") => `(tactic| ((with_reducible apply nrm_); (· (try simp only [wipeE, backE, List.set_cons_zero, List.set_cons_succ, List.getElem?_cons_zero, List.getElem?_cons_succ, List.cons_append, List.nil_append, List.replicate_succ, List.replicate_zero, Nat.reduceSub, unowns_nil, unowns_cons, unown_own, unown_val, unown_no, unown_ro, unown_dct]); rfl)))
local macro_rules | `(tactic| walk_at "nb") => `(tactic| simp only [wipeE, backE, List.set_cons_zero, List.set_cons_succ, List.getElem?_cons_zero, List.getElem?_cons_succ])
section
open TL
variable {w : World} {m : Int} {hs : List Hd} {bl mir : Bool} {Q : D → List Sl → Prop}
theorem isnum_w {z : Int} (h0 : 0 ≤ z) (h1 : z < 10 ^ 61) (q : ∀ x, Q (.bool true) [x]) : WG g_is_number [.val (.str (iS z))] Q := by
  obtain ⟨l1, l2⟩ := iS_len h0 h1
  have hok := strOk_iS h0
  have e1 : tl (iS z) = numL z.toNat := tl_iS h0
  obtain ⟨c, l, hcl⟩ : ∃ c l, numL z.toNat = c :: l := by
    cases e : numL z.toNat with
    | nil => exact absurd e (numL_ne _)
    | cons a l => exact ⟨a, l, rfl⟩
  have hd := numL_digits z.toNat
  have hhead := numL_head z.toNat c l hcl
  have hlen : (iS z).length = l.length + 1 := by rw [len_tl, e1, hcl]; rfl
  have hne : iS z ≠ "" := fun e => by rw [e] at l1; exact absurd l1 (by decide +kernel)
  have hc : 48 ≤ c ∧ c ≤ 57 := by
    have := hd c (by rw [hcl]; exact List.mem_cons_self)
    omega
  refine wg_run rfl ?_
  unfold b_is_number c_MOST_FIGURES c_FIGURES
  walk_at "nr"
  refine ws_mid (fun e => e = [.val (.str (iS z)), .no]) ?_ ?_
  · walk_at "vc"
    refine wo_eqST hok (by decide +kernel) ?_
    rw [decide_eq_false hne]
    walk_at "vc"
    refine wo_lenST (by omega) ?_
    walk_at "vc"
    refine wo_first (e1.trans hcl) (by omega) ?_
    walk_at "vc"
    have hok1 : PyData.strOk (⟨#[c]⟩ : Str) = true := strOk_tl fun d hd => by rw [List.mem_singleton.mp hd]; omega
    refine wo_eqST hok1 (by decide +kernel) ?_
    by_cases h48 : c = 48
    · have := hhead h48
      subst this
      walk_at "vc"
      refine wo_lenST (by omega) ?_
      rw [hlen]
      walk_at "vc"
      all_goals rfl
    · rw [decide_eq_false (fun e => h48 (by have := congrArg tl e; injection this))]
      walk_at "vc"
      rfl
  rintro _ rfl
  walk_at "vc"
  refine wl_compP (fun _ _ => true) (fun _ _ => .bool true) ?_
  refine wl_itS ?_
  walk_at "vc"
  have hsl : (M.signs (iS z)).length = (iS z).length := by unfold M.signs; rw [List.length_map, len_tl]
  refine ⟨_, rfl, rfl, fits_of (by omega), fun d hd => ?_, ?_⟩
  · unfold M.signs at hd
    obtain ⟨k, hk, rfl⟩ := List.mem_map.mp hd
    rw [show (iS z).cps.toList = numL z.toNat from e1] at hk
    have hk2 := numL_digits _ k hk
    walk_at "vc"
    refine ⟨rfl, ?_⟩
    walk_at "vc"
    refine fig_in (by omega) (by omega) _ ?_
    exact ⟨rfl, rfl⟩
  rw [filter_yes]
  walk_at "vc"
  refine wo_allM (p := fun _ => true) ?_
  rw [show (M.signs (iS z)).all (fun _ => true) = true by simp]
  walk_at "vc"
  exact q _
theorem ishand_w {h : Hd} (h0 : 0 ≤ h.1) (h1 : h.1 < 10 ^ 61) (h2 : 0 ≤ h.2.1) (h3 : h.2.1 < 10 ^ 61) (hx : isLk h.2.2) (q : ∀ x, Q (.bool true) [x]) :
    WG g_is_hand [.val (.list [.str "hand", .str (iS h.1), .str (iS h.2.1), .str h.2.2])] Q := by
  refine wg_run rfl ?_
  unfold b_is_hand c_SMALL
  walk_at "vc"
  refine isnum_w h0 h1 fun _ => ?_
  walk_at "vc"
  refine isnum_w h2 h3 fun _ => ?_
  walk_at "vc"
  refine wo_lenS ?_ (by rw [lk_len hx]; decide)
  rw [lk_len hx]
  walk_at "vc"
  refine lk_in hx _ ?_
  walk_at "vc"
  exact q _
theorem rowdial_w (h0 : 0 ≤ m) (h1 : m < 10 ^ 61) (q : ∀ x, Q (.bool true) [x]) : WG g_row_of_dial [.val (.list [.str "dial", .str (iS m)])] Q := by
  refine wg_run rfl ?_
  unfold b_row_of_dial
  walk_at "vc"
  refine isnum_w h0 h1 fun _ => ?_
  walk_at "vc"
  exact q _
theorem ctext_w (h0 : 0 ≤ m) (h1 : m < 10 ^ 61) (hn : hs.length ≤ 5) (hk : HandsT hs) (q : ∀ x, Q (.str (textS m hs bl mir)) [x]) : WG g_clock_text [.val (clockD m hs bl mir)] Q := by
  have hm2 : m.natAbs < 10 ^ 200 := Nat.lt_of_lt_of_le (show m.natAbs < 10 ^ 61 by omega) (by decide +kernel)
  have hml := (iS_len h0 h1).2
  have e5 : ("dial " : Str).length = 5 := by decide +kernel
  refine wg_run rfl ?_
  unfold b_clock_text
  walk_at "nr"
  refine ws_mid (fun e => e = [.val (clockD m hs bl mir), .val (.int m), .val (.tuple (hs.map hD)), .val (.bool bl), .val (.bool mir), .no, .no, .no, .no]) (by walk_at "vc"; rfl) ?_
  rintro _ rfl
  refine ws_mid (fun e => e = [.val (clockD m hs bl mir), .val (.int m), .val (.tuple (hs.map hD)), .val (.bool bl), .val (.bool mir), .own true ((trowsL m [] bl mir).map .str), .no, .no, .no]) ?_ ?_
  · walk_at "vc"
    refine wo_strI hm2 ?_
    refine wo_addST (by omega) ?_
    walk_at "vc"
    refine wo_mulIf ?_
    walk_at "vc"
    refine wo_addIf ?_
    walk_at "vc"
    refine wo_mulIf ?_
    walk_at "vc"
    refine ⟨?_, ?_⟩
    · cases bl <;> cases mir <;> rfl
    · walk_at "nr"
      cases bl <;> cases mir <;> rfl
  rintro _ rfl
  refine ws_mid (fun e => ∃ x6 x7 x8, e = [.val (clockD m hs bl mir), .val (.int m), .val (.tuple (hs.map hD)), .val (.bool bl), .val (.bool mir), .own true ((trowsL m hs bl mir).map .str), x6, x7, x8]) ?_ ?_
  · refine ws_forN (fun _ k e => ∃ x6 x7 x8, e = [.val (clockD m hs bl mir), .val (.int m), .val (.tuple (hs.map hD)), .val (.bool bl), .val (.bool mir), .own true ((trowsL m (hs.take k) bl mir).map .str), x6, x7, x8]) ?_
    walk_at "vc"
    refine ⟨⟨_, _, _, rfl⟩, ?_, ?_⟩
    · rintro k d e hkl hd ⟨x6, x7, x8, rfl⟩
      rw [List.length_map] at hkl
      rw [List.getElem?_map, List.getElem?_eq_getElem hkl] at hd
      obtain rfl := Option.some.inj hd
      obtain ⟨a1, a2, a3, a4, a5⟩ := hk hs[k] (List.getElem_mem _)
      have htk : hs.take (k + 1) = hs.take k ++ [hs[k]] := List.take_succ_eq_append_getElem hkl
      have hrl := rows_len (m := m) (hs := hs.take k) (bl := bl) (mir := mir) (by rw [List.length_take]; omega)
      rw [htk]
      generalize hs[k] = h at *
      obtain ⟨g, s, x⟩ := h
      dsimp only at a1 a2 a3 a4 a5
      have b1 : g.natAbs < 10 ^ 200 := Nat.lt_of_lt_of_le (show g.natAbs < 10 ^ 61 by omega) (by decide +kernel)
      have b2 : s.natAbs < 10 ^ 200 := Nat.lt_of_lt_of_le (show s.natAbs < 10 ^ 61 by omega) (by decide +kernel)
      have c1 := (iS_len a1 a2).2
      have c2 := (iS_len a3 a4).2
      have c3 := lk_len a5
      have e6 : ("hand " : Str).length = 5 := by decide +kernel
      have e7 : (" " : Str).length = 1 := by decide +kernel
      rw [show hD (g, s, x) = .tuple [.int g, .int s, .str x] from rfl]
      walk_at "vc"
      refine wo_strI b1 ?_
      refine wo_addST (by omega) ?_
      walk_at "vc"
      refine wo_addST (by rw [Str.length_append]; omega) ?_
      walk_at "vc"
      refine wo_strI b2 ?_
      refine wo_addST (by rw [Str.length_append, Str.length_append]; omega) ?_
      walk_at "vc"
      refine wo_addST (by rw [Str.length_append, Str.length_append, Str.length_append]; omega) ?_
      walk_at "vc"
      refine wo_addST (by rw [Str.length_append, Str.length_append, Str.length_append, Str.length_append]; omega) ?_
      walk_at "vc"
      rw [trows_snoc, List.map_append]
      exact ⟨_, _, _, rfl⟩
    · rintro e ⟨x6, x7, x8, rfl⟩
      rw [List.length_map, List.take_length]
      exact ⟨_, _, _, rfl⟩
  rintro e ⟨x6, x7, x8, rfl⟩
  walk_at "vc"
  have hl := rows_len (m := m) (hs := hs) (bl := bl) (mir := mir) (by omega)
  have hs1 := sum_le130 (rows_each (bl := bl) (mir := mir) h0 h1 hk)
  refine wo_join rfl (by rw [show ("\n" : Str).length = 1 by decide +kernel]; omega) ?_
  exact q _
/-- what stands ahead of the hands -/
def headN (bl mir : Bool) : Nat := 1 + (if bl then 1 else 0) + (if mir then 1 else 0)
theorem readc_w {hs : List Hd} (hm : 2 ≤ m) (hm2 : m ≤ 10 ^ 60) (h1 : 1 ≤ hs.length) (hn : hs.length ≤ 5) (hk : HandsT hs) (hr : cntR (looksOf hs) * (1 + if mir then 1 else 0) ≤ 6) (q : ∀ x, Q (clockD m (redH m hs) bl mir) [x]) :
    WG (g_read_clock w) [.val (.str (textS m hs bl mir))] Q := by
  have hml : m < 10 ^ 61 := by omega
  have hm0 : 0 ≤ m := by omega
  have htl := text_len (bl := bl) (mir := mir) hm0 hml (by omega) hk
  have hrows := text_rows (bl := bl) (mir := mir) hm0 hk
  have hdial := rowM_words hm0
  have hn9 := rows_len (m := m) (hs := hs) (bl := bl) (mir := mir) (by omega)
  have hrM := rowM_len hm0 hml
  have hiM := iS_int hm0 hml
  have hlM := (iS_len hm0 hml).2
  have e1 : ("\n" : Str).length = 1 := by decide +kernel
  have e2 : (" " : Str).length = 1 := by decide +kernel
  have hr0 : ∀ {Q : D → Prop}, Q (.str (rowM m)) → WO (gIdx (.list ((trowsL m hs bl mir).map .str)) (.int 0)) Q := fun q => wo_atS (k := 0) rfl q
  have hkl : ∀ h ∈ hs, isLk h.2.2 := fun h hh => (hk h hh).2.2.2.2
  have hlen := trows_len (m := m) (hs := hs) (bl := bl) (mir := mir)
  refine wg_run rfl ?_
  unfold b_read_clock
  walk_at "nr"
  refine ws_mid (fun e => e = [.val (.str (textS m hs bl mir)), .val (.list ((trowsL m hs bl mir).map .str)), .no, .no, .no, .no, .no, .no]) ?_ ?_
  · walk_at "vc"
    refine wl_split ?_
    walk_at "vc"
    refine ⟨_, _, rfl, rfl, by omega, by omega, ?_⟩
    rw [hrows]
    walk_at "vc"
    rfl
  rintro _ rfl
  refine ws_mid (fun e => e = [.val (.str (textS m hs bl mir)), .val (.list ((trowsL m hs bl mir).map .str)), .no, .no, .no, .no, .no, .no]) ?_ ?_
  · walk_at "vc"
    refine wl_split ?_
    walk_at "vc"
    refine hr0 ?_
    walk_at "vc"
    refine ⟨_, _, rfl, rfl, by omega, by omega, ?_⟩
    rw [hdial]
    walk_at "vc"
    refine rowdial_w hm0 hml fun _ => ?_
    walk_at "vc"
    rfl
  rintro _ rfl
  refine ws_mid (fun e => e = [.val (.str (textS m hs bl mir)), .val (.list ((trowsL m hs bl mir).map .str)), .val (.int 1), .no, .no, .no, .no, .no]) (by walk_at "vc"; rfl) ?_
  rintro _ rfl
  refine ws_mid (fun e => e = [.val (.str (textS m hs bl mir)), .val (.list ((trowsL m hs bl mir).map .str)), .val (.int 1), .own true [], .no, .no, .no, .no]) (by walk_at "vc"; rfl) ?_
  rintro _ rfl
  refine ws_mid (fun e => ∃ x4, e = [.val (.str (textS m hs bl mir)), .val (.list ((trowsL m hs bl mir).map .str)), .val (.int (headN bl mir : Nat)), .own true [.bool bl, .bool mir], x4, .no, .no, .no]) ?_ ?_
  · cases hs with
    | nil => exact absurd h1 (by decide)
    | cons h t =>
      obtain ⟨b1, b2, b3, b4, b5⟩ := hk h List.mem_cons_self
      have hok := strOk_rowH b1 b3 b5
      obtain ⟨y1, y11, y12, y13⟩ := row_blank m h t bl mir
      obtain ⟨y2, y21, y22, y23⟩ := row_mirror m h t bl mir
      have k1 : PyData.strOk y1 = true := by rcases y13 with rfl | rfl | rfl <;> first | exact hok | decide +kernel
      have k2 : PyData.strOk y2 = true := by rcases y23 with rfl | rfl <;> first | exact hok | decide +kernel
      rw [List.length_cons] at hlen
      generalize trowsL m (h :: t) bl mir = ys at *
      refine ws_for (fun _ rs e => (rs = [.str "blank", .str "mirror"] ∧ e = [.val (.str (textS m (h :: t) bl mir)), .val (.list (ys.map .str)), .val (.int 1), .own true [], .no, .no, .no, .no]) ∨
        (rs = [.str "mirror"] ∧ ∃ x4, e = [.val (.str (textS m (h :: t) bl mir)), .val (.list (ys.map .str)), .val (.int ((1 + if bl then 1 else 0 : Nat) : Int)), .own true [.bool bl], x4, .no, .no, .no]) ∨
        (rs = [] ∧ ∃ x4, e = [.val (.str (textS m (h :: t) bl mir)), .val (.list (ys.map .str)), .val (.int (headN bl mir : Nat)), .own true [.bool bl, .bool mir], x4, .no, .no, .no])) ?_
      walk_at "vc"
      refine ⟨.inl ⟨rfl, rfl⟩, ?_, ?_⟩
      · rintro d rs e (⟨hrs, rfl⟩ | ⟨hrs, x4, rfl⟩ | ⟨hrs, _⟩)
        · obtain ⟨rfl, rfl⟩ := List.cons.inj hrs
          refine wt_n ?_
          walk_at "nr"
          walk_at "vc"
          · refine wo_atS (k := 1) y11 ?_
            walk_at "vc"
            refine wo_eqST k1 (by decide +kernel) ?_
            rw [y12]
            walk_at "vc"
            exact .inr (.inl ⟨rfl, .val (.str "blank"), by cases bl <;> rfl⟩)
          · rename_i hx
            rw [List.length_map] at hx
            omega
        · obtain ⟨rfl, rfl⟩ := List.cons.inj hrs
          refine wt_n ?_
          walk_at "nr"
          walk_at "vc"
          · refine wo_atS (k := 1 + if bl then 1 else 0) y21 ?_
            walk_at "vc"
            refine wo_eqST k2 (by decide +kernel) ?_
            rw [y22]
            walk_at "vc"
            exact .inr (.inr ⟨rfl, .val (.str "mirror"), by unfold headN; cases bl <;> cases mir <;> rfl⟩)
          · rename_i hx
            rw [List.length_map] at hx
            cases bl <;> cases mir <;> simp at hx hlen <;> omega
        · cases hrs
      · rintro e (⟨hrs, rfl⟩ | ⟨hrs, x4, rfl⟩ | ⟨hrs, x4, rfl⟩)
        · cases hrs
        · cases hrs
        · exact ⟨x4, rfl⟩
  rintro e ⟨x4, rfl⟩
  have hwl : (headN bl mir) ≤ 3 := by unfold headN; cases bl <;> cases mir <;> decide
  have hrl : (trowsL m hs bl mir).length = headN bl mir + hs.length := hlen
  refine ws_mid (fun e => e = [.val (.str (textS m hs bl mir)), .val (.list ((trowsL m hs bl mir).map .str)), .val (.int (headN bl mir : Nat)), .own true [.bool bl, .bool mir], x4, .own true [], .no, .no]) (by walk_at "vc"; rfl) ?_
  rintro _ rfl
  refine ws_mid (fun e => ∃ x6 x7, e = [.val (.str (textS m hs bl mir)), .val (.list ((trowsL m hs bl mir).map .str)), .val (.int (headN bl mir : Nat)), .own true [.bool bl, .bool mir], x4, .own true (hs.map hD), x6, x7]) ?_ ?_
  · refine ws_forN (fun _ k e => ∃ x6 x7, e = [.val (.str (textS m hs bl mir)), .val (.list ((trowsL m hs bl mir).map .str)), .val (.int (headN bl mir : Nat)), .own true [.bool bl, .bool mir], x4, .own true ((hs.take k).map hD), x6, x7]) ?_
    walk_at "vc"
    rw [List.length_map, hrl]
    have eN : (((headN bl mir + hs.length : Nat) : Int) - (headN bl mir : Nat)).toNat = hs.length := by omega
    rw [eN]
    refine ⟨⟨_, _, rfl⟩, ?_, ?_⟩
    · rintro k d e hkl0 hd ⟨x6, x7, rfl⟩
      rw [irange_length] at hkl0
      have hd2 : d = .int ((headN bl mir + k : Nat) : Int) := by
        unfold irange at hd
        rw [List.getElem?_map, List.getElem?_range hkl0] at hd
        exact (Option.some.inj hd).symm
      subst hd2
      obtain ⟨a1, a2, a3, a4, a5⟩ := hk hs[k] (List.getElem_mem _)
      have htk : hs.take (k + 1) = hs.take k ++ [hs[k]] := List.take_succ_eq_append_getElem hkl0
      have hrow : (trowsL m hs bl mir)[headN bl mir + k]? = some (rowH hs[k]) := trows_hand hkl0
      have hw := rowH_words a1 a3 a5
      have hl := rowH_len a1 a2 a3 a4 a5
      have i1 := iS_int a1 a2
      have i2 := iS_int a3 a4
      have i3 := (iS_len a1 a2).2
      have i4 := (iS_len a3 a4).2
      rw [htk]
      generalize hs[k] = h at *
      refine wt_n ?_
      walk_at "nr"
      walk_at "vc"
      refine wl_split ?_
      walk_at "vc"
      refine wo_atS hrow ?_
      walk_at "vc"
      refine ⟨_, _, rfl, rfl, by omega, by omega, ?_⟩
      rw [hw]
      walk_at "vc"
      refine ishand_w a1 a2 a3 a4 a5 fun _ => ?_
      unfold c_MOST_HANDS_texts
      have hne5 : ¬ ((((hs.take k).map hD).length : Nat) : Int) = 5 := by rw [List.length_map, List.length_take]; omega
      walk_at "vc"
      refine wo_intT (by omega) i1 ?_
      walk_at "vc"
      refine wo_intT (by omega) i2 ?_
      walk_at "vc"
      rw [List.map_append]
      exact ⟨_, _, rfl⟩
    · rintro e ⟨x6, x7, rfl⟩
      rw [irange_length, List.take_length]
      exact ⟨_, _, rfl⟩
  rintro e ⟨x6, x7, rfl⟩
  refine ws_mid (fun e => e = [.val (.str (textS m hs bl mir)), .val (.list ((trowsL m hs bl mir).map .str)), .val (.int (headN bl mir : Nat)), .own true [.bool bl, .bool mir], x4, .own true (hs.map hD), x6, x7]) ?_ ?_
  · walk_at "vc"
    refine wo_eqNilT hkl ?_
    rw [decide_eq_false (fun e => by rw [e] at h1; exact absurd h1 (by decide))]
    walk_at "vc"
    rfl
  rintro _ rfl
  walk_at "vc"
  refine wl_split ?_
  walk_at "vc"
  refine hr0 ?_
  walk_at "vc"
  refine ⟨_, _, rfl, rfl, by omega, by omega, ?_⟩
  rw [hdial]
  walk_at "vc"
  refine wo_intT (by omega) hiM ?_
  walk_at "vc"
  refine made_w (.inl rfl) hm hm2 h1 hn hkl hr fun _ => ?_
  walk_at "vc"
  exact q _
end

end Lw

namespace Lw
open PySem PySem.Spec PyProof.Rows L2 M
local macro_rules | `(tactic| walk_at "sd") => `(tactic| (first | (with_reducible assumption) | omega | (simp; done) | (simp; omega) | decide))
local macro_rules | `(tactic| walk_at "v1") => `(tactic| (first | ((with_reducible show WE _ _ _); first | with_reducible refine we_chain3 ?_ | with_reducible refine we_callNL ?_ | with_reducible refine we_callN ?_ | with_reducible refine we_c ?_ | with_reducible refine we_un ?_ | with_reducible refine we_bin ?_ | with_reducible refine we_chain ?_ | with_reducible refine we_and ?_ | with_reducible refine we_or ?_ | with_reducible refine we_not ?_ | with_reducible refine we_if ?_ | with_reducible refine we_fz ?_ | with_reducible refine we_tup ?_ | with_reducible refine we_sl ?_ | with_reducible refine we_tupRg ?_ | with_reducible refine we_bor ?_ | with_reducible refine we_call ?_ | with_reducible refine we_din ?_ | with_reducible refine we_borL ?_ | ((with_reducible apply we_v); (· rfl)) | ((with_reducible show WE (eO _) _ _); first | ((with_reducible apply we_oV); (· rfl)) | ((with_reducible apply we_oW); (· rfl)) | ((with_reducible apply we_oR); (· rfl))) | ((with_reducible show WE (eBinV _ _ _) _ _); first | ((with_reducible apply we_bV); (· rfl)) | ((with_reducible apply we_bVr); (· rfl)) | ((with_reducible apply we_bVv); (· rfl))) | ((with_reducible apply we_mut); (· rfl)) | ((with_reducible apply we_mut0); (· rfl)) | ((with_reducible apply we_dget2); (· rfl)) | ((with_reducible apply we_didx); (· rfl))) | ((with_reducible show WO _ _); first | ((with_reducible show WO (gIsO _ _) _); first | with_reducible refine wo_isON ?_ | ((with_reducible refine wo_isO (b := true) ?_ ?_); (· rfl)) | ((with_reducible refine wo_isO (b := false) ?_ ?_); (· rfl))) | with_reducible refine wo_attr ?_ | ((with_reducible show WO (valsA _) _); first | with_reducible refine vals_nil ?_ | with_reducible refine vals_v ?_) | with_reducible refine wo_isB ?_ | with_reducible refine wo_ntB ?_ | ((with_reducible show WO (backAr _ _ _) _); first | with_reducible refine back_nil ?_ | with_reducible refine back_v ?_ | with_reducible refine back_o ?_ | ((with_reducible apply back_r); (· rfl))) | ((with_reducible show WO (resArs _ _) _); first | with_reducible refine res_nil ?_ | with_reducible refine res_v ?_ | ((with_reducible apply res_r); (· rfl)) | ((with_reducible apply res_oO); (· rfl)) | ((with_reducible apply res_oR); (· rfl)) | ((with_reducible apply res_oV); (· rfl))) | ((with_reducible show WO (gAdd _ _) _); first | with_reducible refine wo_add ?_ | ((with_reducible refine wo_addL ?_ ?_); (· first | rfl | (apply fits_of; first | omega | (simp; omega)))) | ((with_reducible refine wo_addT ?_ ?_); (· first | rfl | (apply fits_of; first | omega | (simp; omega))))) | with_reducible refine wo_sub ?_ | with_reducible refine wo_neg ?_ | with_reducible refine wo_lt ?_ | with_reducible refine wo_le ?_ | with_reducible refine wo_gt ?_ | with_reducible refine wo_ge ?_ | ((with_reducible show WO (gEq _ _) _); first | with_reducible refine wo_eq ?_ | with_reducible refine wo_eqB ?_ | ((with_reducible refine wo_eqT ?_ ?_); (· decide +kernel)) | ((with_reducible refine wo_eqF ?_ ?_); (· decide +kernel))) | ((with_reducible show WO (gNe _ _) _); first | with_reducible refine wo_ne ?_ | with_reducible refine wo_neB ?_ | ((with_reducible refine wo_neT ?_ ?_); (· decide +kernel)) | ((with_reducible refine wo_neF ?_ ?_); (· decide +kernel))) | with_reducible refine wo_isN ?_ | with_reducible refine wo_ntN ?_ | ((with_reducible show WO (gLen _) _); first | with_reducible refine wo_lenL ?_ | with_reducible refine wo_lenT ?_) | with_reducible refine wo_abs ?_ | ((with_reducible show WO (gInt _) _); first | with_reducible refine wo_intB ?_ | with_reducible refine wo_intI ?_) | ((with_reducible show WO (gList _) _); first | with_reducible refine wo_listL ?_ | with_reducible refine wo_listT ?_) | ((with_reducible show WO (gTuple _) _); first | with_reducible refine wo_tupL ?_ | with_reducible refine wo_tupT ?_) | with_reducible refine wo_max ?_ | with_reducible refine wo_min ?_ | ((with_reducible show WO (gIsi _ _) _); first | with_reducible refine wo_isiI ?_ | with_reducible refine wo_isiB ?_ | ((with_reducible apply wo_isiE); (· rfl))) | ((with_reducible show WO (cutOf _ _ _) _); first | with_reducible refine wo_cutL ?_ | with_reducible refine wo_cutT ?_) | ((with_reducible show WO (gPow _ _) _); first | with_reducible refine wo_p10_60 ?_ | with_reducible refine wo_p10_18 ?_ | with_reducible refine wo_p10_30 ?_ | with_reducible refine wo_p2_24 ?_ | with_reducible refine wo_p10_8 ?_ | with_reducible refine wo_p10_19 ?_ | with_reducible refine wo_p10_55 ?_ | with_reducible refine wo_p10_59 ?_ | with_reducible refine wo_p3_30 ?_ | with_reducible refine wo_p2_40 ?_ | with_reducible refine wo_p10_54 ?_ | with_reducible refine wo_p3_13 ?_ | with_reducible refine wo_p2_20 ?_ | with_reducible refine wo_p10_57 ?_ | with_reducible refine wo_p10_40 ?_ | with_reducible refine wo_p10_61 ?_ | with_reducible refine wo_p10_50 ?_) | ((with_reducible apply wo_idxE); (· rfl)) | ((with_reducible apply wo_allE); (· rfl)) | ((with_reducible apply wo_anyE); (· rfl)) | ((with_reducible show WO (ixN _ _) _); first | ((with_reducible apply wo_ixE); (· rfl)) | ((with_reducible refine wo_ix ?_ ?_ ?_); (· walk_at "sd"); (· walk_at "sd"))) | ((with_reducible refine wo_mod ?_ ?_); (· walk_at "sd")) | ((with_reducible refine wo_div ?_ ?_ ?_); (· walk_at "sd"); (· walk_at "sd")) | ((with_reducible refine wo_mul ?_ ?_); (· first | exact mul_ok1 (by walk_at "sd") | exact mul_ok2 (by walk_at "sd") | exact mul_ok3 (by omega) (by omega))) | ((with_reducible refine wo_app ?_ ?_); (· first | rfl | (apply fits_of; first | omega | (simp; omega)))) | ((with_reducible refine wo_ext ?_ ?_); (· first | rfl | (apply fits_of; first | omega | (simp; omega))))) | ((with_reducible show WS _ _ _); first | with_reducible refine ws_try ?_ | with_reducible refine ws_retT ?_ | with_reducible refine ws_seq ?_ | with_reducible refine ws_expr ?_ | with_reducible refine ws_ret ?_ | with_reducible refine ws_retL ?_ | with_reducible refine ws_if ?_ | with_reducible refine ws_set ?_ | with_reducible refine ws_setO ?_ | with_reducible refine ws_asg ?_ | with_reducible refine ws_par ?_ | with_reducible refine ws_nil ?_ | with_reducible refine ws_retN ?_ | with_reducible refine ws_dput ?_ | with_reducible refine ws_dnew ?_ | ((with_reducible show WS (sFrz _ _) _ _); first | ((with_reducible apply ws_frz); (· rfl)) | ((with_reducible apply ws_frzV); (· rfl))) | ((with_reducible apply ws_retO); (· rfl)) | ((with_reducible apply ws_putI); (· rfl))) | ((with_reducible apply nrm_); (· (try simp only [wipeE, backE, List.set_cons_zero, List.set_cons_succ, List.getElem?_cons_zero, List.getElem?_cons_succ, List.cons_append, List.nil_append, List.replicate_succ, List.replicate_zero, Nat.reduceSub, unowns_nil, unowns_cons, unown_own, unown_val, unown_no, unown_ro, unown_dct]); rfl)) | ((with_reducible show IfB _ _ _); first | with_reducible refine ifb_not ?_ | with_reducible refine ifb_t ?_ | with_reducible refine ifb_f ?_ | ((with_reducible refine ifb_decT ?_ ?_); (· first | (with_reducible assumption) | omega | (simp only [List.length_cons, List.length_nil]; omega))) | ((with_reducible refine ifb_decF ?_ ?_); (· first | (with_reducible assumption) | omega | (simp only [List.length_cons, List.length_nil]; omega))) | with_reducible refine ifb_dec (fun _ => ?_) (fun _ => ?_) | ((with_reducible apply ifb_eT); (· rfl)) | ((with_reducible apply ifb_eF); (· rfl))) | ((with_reducible show WB _ _ _); first | with_reducible refine wb_bor ?_ | with_reducible refine wb_v ?_ | with_reducible refine wb_and ?_ | with_reducible refine wb_or ?_ | with_reducible refine wb_not ?_ | with_reducible refine wb_yes ?_) | with_reducible refine isb ?_ | ((with_reducible show WL _ _ _); first | with_reducible refine wl_nil ?_ | with_reducible refine wl_cons ?_ | with_reducible refine wl_lst ?_ | with_reducible refine wl_un ?_ | with_reducible refine wl_it ?_ | with_reducible refine wl_rng1 ?_ | with_reducible refine wl_rng2 ?_ | with_reducible refine wl_enum ?_ | with_reducible refine wl_enumA ?_ | with_reducible refine wl_addE ?_ | with_reducible refine wl_rg1 ?_ | with_reducible refine wl_bor ?_ | with_reducible refine wl_call ?_ | ((with_reducible apply wl_addO); (· rfl)) | ((with_reducible show WL (lSlV _ _ _) _ _); first | ((with_reducible apply wl_slO); (· rfl)) | ((with_reducible apply wl_slR); (· rfl)))) | ((with_reducible show WA _ _ _); first | with_reducible refine wa_nil ?_ | with_reducible refine wa_v ?_ | ((with_reducible apply wa_r); (· rfl)) | ((with_reducible show WA (aO _ _) _ _); first | ((with_reducible apply wa_oR); (· rfl)) | ((with_reducible apply wa_oO); (· rfl)) | ((with_reducible apply wa_oV); (· rfl)))) | ((with_reducible show IsS _ _); first | with_reducible refine iss_l ?_ | with_reducible refine iss_t ?_) | ((with_reducible refine fit_ ?_ ?_); (· first | rfl | (apply fits_of; first | omega | (simp; omega)))) | ((with_reducible show CallG _ _ _ _); first | ((with_reducible apply cg0); (· rfl)) | ((with_reducible apply cg1); (· rfl); (· rfl))) | ((with_reducible show WT _ _ _ _); first | with_reducible refine wt_n ?_ | ((with_reducible apply wt_t); (· rfl)) | ((with_reducible apply wt_unl); (· rfl))) | ((with_reducible show WTs _ _ _ _); first | with_reducible refine wts_nil ?_ | with_reducible refine wts_cons ?_) | ((with_reducible apply own_); (· rfl)) | ((with_reducible refine sml_ ?_ ?_ ?_); (· walk_at "sd"); (· walk_at "sd")) | with_reducible refine isi_ ?_ | ((with_reducible show WNl _ _ _); first | with_reducible refine wnl_l ?_ | with_reducible refine wnl_v ?_) | ((with_reducible show WSX _ _ _); first | with_reducible refine wsx_lift ?_ | with_reducible refine wsx_seq ?_ | with_reducible refine wsx_if ?_ | with_reducible refine wsx_raise0 ?_ | with_reducible refine wsx_expr ?_ | with_reducible refine wsx_ret ?_ | with_reducible refine wsx_set ?_) | with_reducible refine wex_call ?_ | ((with_reducible show WPu _ _ _ _); first | with_reducible refine wpu_nil ?_ | with_reducible refine wpu_seq ?_ | with_reducible refine wpu_ret ?_ | with_reducible refine wpu_if ?_) | ((with_reducible show WTd _ _ _ _ _); first | with_reducible refine wtd_P ?_ | with_reducible refine wtd_G ?_ | with_reducible refine wtd_If ?_ | ((with_reducible refine wtd_K ?_ ?_); (· exact ⟨rfl, by decide⟩)) | ((with_reducible refine wtd_U ?_ ?_); (· exact ⟨rfl, by decide⟩)) | ((with_reducible refine wtd_C ?_ ?_); (· rfl)) | ((with_reducible refine wtd_A ?_ ?_ ?_); (· rfl); (· first | rfl | (apply fits_of; first | omega | (simp; omega))))) | with_reducible refine two_ ?_ | ((with_reducible show WC _ _ _ _ _ _ _); first | with_reducible refine wc_nil ?_ | with_reducible refine wc_cons ?_) | ((with_reducible show WP _ _ _); first | with_reducible refine wp_no ?_ | with_reducible refine wp_e ?_) | with_reducible refine isl ?_ | ((with_reducible show RetT _ _ _); first | ((with_reducible apply retT1); (· rfl)) | ((with_reducible apply retT2); (· rfl))) | ((with_reducible show Any _ _); first | ((with_reducible apply any_o); (· rfl)) | ((with_reducible apply any_r); (· rfl))) | ((with_reducible show CallH _ _ _ _); first | ((with_reducible apply ch0); (· rfl)) | ((with_reducible apply ch1); (· rfl); (· rfl))) | ((with_reducible apply cgx0); (· rfl))))
local macro_rules | `(tactic| walk_at "v2") => `(tactic| (first | ((with_reducible show WE _ _ _); first | with_reducible refine we_chain3 ?_ | with_reducible refine we_callNL ?_ | with_reducible refine we_callN ?_ | with_reducible refine we_c ?_ | with_reducible refine we_un ?_ | with_reducible refine we_bin ?_ | with_reducible refine we_chain ?_ | with_reducible refine we_and ?_ | with_reducible refine we_or ?_ | with_reducible refine we_not ?_ | with_reducible refine we_if ?_ | with_reducible refine we_fz ?_ | with_reducible refine we_tup ?_ | with_reducible refine we_sl ?_ | with_reducible refine we_tupRg ?_ | with_reducible refine we_bor ?_ | with_reducible refine we_call ?_ | with_reducible refine we_din ?_ | with_reducible refine we_borL ?_ | ((with_reducible apply we_v); (· rfl)) | ((with_reducible show WE (eO _) _ _); first | ((with_reducible apply we_oV); (· rfl)) | ((with_reducible apply we_oW); (· rfl)) | ((with_reducible apply we_oR); (· rfl))) | ((with_reducible show WE (eBinV _ _ _) _ _); first | ((with_reducible apply we_bV); (· rfl)) | ((with_reducible apply we_bVr); (· rfl)) | ((with_reducible apply we_bVv); (· rfl))) | ((with_reducible apply we_mut); (· rfl)) | ((with_reducible apply we_mut0); (· rfl)) | ((with_reducible apply we_dget2); (· rfl)) | ((with_reducible apply we_didx); (· rfl))) | ((with_reducible show WO _ _); first | ((with_reducible show WO (gIsO _ _) _); first | with_reducible refine wo_isON ?_ | ((with_reducible refine wo_isO (b := true) ?_ ?_); (· rfl)) | ((with_reducible refine wo_isO (b := false) ?_ ?_); (· rfl))) | with_reducible refine wo_attr ?_ | ((with_reducible show WO (valsA _) _); first | with_reducible refine vals_nil ?_ | with_reducible refine vals_v ?_) | with_reducible refine wo_isB ?_ | with_reducible refine wo_ntB ?_ | ((with_reducible show WO (backAr _ _ _) _); first | with_reducible refine back_nil ?_ | with_reducible refine back_v ?_ | with_reducible refine back_o ?_ | ((with_reducible apply back_r); (· rfl))) | ((with_reducible show WO (resArs _ _) _); first | with_reducible refine res_nil ?_ | with_reducible refine res_v ?_ | ((with_reducible apply res_r); (· rfl)) | ((with_reducible apply res_oO); (· rfl)) | ((with_reducible apply res_oR); (· rfl)) | ((with_reducible apply res_oV); (· rfl))) | ((with_reducible show WO (gAdd _ _) _); first | with_reducible refine wo_add ?_ | ((with_reducible refine wo_addL ?_ ?_); (· first | rfl | (apply fits_of; first | omega | (simp; omega)))) | ((with_reducible refine wo_addT ?_ ?_); (· first | rfl | (apply fits_of; first | omega | (simp; omega))))) | with_reducible refine wo_sub ?_ | with_reducible refine wo_neg ?_ | with_reducible refine wo_lt ?_ | with_reducible refine wo_le ?_ | with_reducible refine wo_gt ?_ | with_reducible refine wo_ge ?_ | ((with_reducible show WO (gEq _ _) _); first | with_reducible refine wo_eq ?_ | with_reducible refine wo_eqB ?_ | ((with_reducible refine wo_eqT ?_ ?_); (· decide +kernel)) | ((with_reducible refine wo_eqF ?_ ?_); (· decide +kernel))) | ((with_reducible show WO (gNe _ _) _); first | with_reducible refine wo_ne ?_ | with_reducible refine wo_neB ?_ | ((with_reducible refine wo_neT ?_ ?_); (· decide +kernel)) | ((with_reducible refine wo_neF ?_ ?_); (· decide +kernel))) | with_reducible refine wo_isN ?_ | with_reducible refine wo_ntN ?_ | ((with_reducible show WO (gLen _) _); first | with_reducible refine wo_lenL ?_ | with_reducible refine wo_lenT ?_) | with_reducible refine wo_abs ?_ | ((with_reducible show WO (gInt _) _); first | with_reducible refine wo_intB ?_ | with_reducible refine wo_intI ?_) | ((with_reducible show WO (gList _) _); first | with_reducible refine wo_listL ?_ | with_reducible refine wo_listT ?_) | ((with_reducible show WO (gTuple _) _); first | with_reducible refine wo_tupL ?_ | with_reducible refine wo_tupT ?_) | with_reducible refine wo_max ?_ | with_reducible refine wo_min ?_ | ((with_reducible show WO (gIsi _ _) _); first | with_reducible refine wo_isiI ?_ | with_reducible refine wo_isiB ?_ | ((with_reducible apply wo_isiE); (· rfl))) | ((with_reducible show WO (cutOf _ _ _) _); first | with_reducible refine wo_cutL ?_ | with_reducible refine wo_cutT ?_) | ((with_reducible show WO (gPow _ _) _); first | with_reducible refine wo_p10_60 ?_ | with_reducible refine wo_p10_18 ?_ | with_reducible refine wo_p10_30 ?_ | with_reducible refine wo_p2_24 ?_ | with_reducible refine wo_p10_8 ?_ | with_reducible refine wo_p10_19 ?_ | with_reducible refine wo_p10_55 ?_ | with_reducible refine wo_p10_59 ?_ | with_reducible refine wo_p3_30 ?_ | with_reducible refine wo_p2_40 ?_ | with_reducible refine wo_p10_54 ?_ | with_reducible refine wo_p3_13 ?_ | with_reducible refine wo_p2_20 ?_ | with_reducible refine wo_p10_57 ?_ | with_reducible refine wo_p10_40 ?_ | with_reducible refine wo_p10_61 ?_ | with_reducible refine wo_p10_50 ?_) | ((with_reducible apply wo_idxE); (· rfl)) | ((with_reducible apply wo_allE); (· rfl)) | ((with_reducible apply wo_anyE); (· rfl)) | ((with_reducible show WO (ixN _ _) _); first | ((with_reducible apply wo_ixE); (· rfl)) | ((with_reducible refine wo_ix ?_ ?_ ?_); (· walk_at "sd"); (· walk_at "sd"))) | ((with_reducible refine wo_mod ?_ ?_); (· walk_at "sd")) | ((with_reducible refine wo_div ?_ ?_ ?_); (· walk_at "sd"); (· walk_at "sd")) | ((with_reducible refine wo_mul ?_ ?_); (· first | exact mul_ok1 (by walk_at "sd") | exact mul_ok2 (by walk_at "sd") | exact mul_ok3 (by omega) (by omega))) | ((with_reducible refine wo_app ?_ ?_); (· first | rfl | (apply fits_of; first | omega | (simp; omega)))) | ((with_reducible refine wo_ext ?_ ?_); (· first | rfl | (apply fits_of; first | omega | (simp; omega))))) | ((with_reducible show WS _ _ _); first | with_reducible refine ws_try ?_ | with_reducible refine ws_retT ?_ | with_reducible refine ws_seq ?_ | with_reducible refine ws_expr ?_ | with_reducible refine ws_ret ?_ | with_reducible refine ws_retL ?_ | with_reducible refine ws_set ?_ | with_reducible refine ws_setO ?_ | with_reducible refine ws_asg ?_ | with_reducible refine ws_par ?_ | with_reducible refine ws_nil ?_ | with_reducible refine ws_retN ?_ | with_reducible refine ws_dput ?_ | with_reducible refine ws_dnew ?_ | ((with_reducible show WS (sFrz _ _) _ _); first | ((with_reducible apply ws_frz); (· rfl)) | ((with_reducible apply ws_frzV); (· rfl))) | ((with_reducible apply ws_retO); (· rfl)) | ((with_reducible apply ws_putI); (· rfl))) | ((with_reducible apply nrm_); (· (try simp only [wipeE, backE, List.set_cons_zero, List.set_cons_succ, List.getElem?_cons_zero, List.getElem?_cons_succ, List.cons_append, List.nil_append, List.replicate_succ, List.replicate_zero, Nat.reduceSub, unowns_nil, unowns_cons, unown_own, unown_val, unown_no, unown_ro, unown_dct]); rfl)) | ((with_reducible show IfB _ _ _); first | with_reducible refine ifb_not ?_ | with_reducible refine ifb_t ?_ | with_reducible refine ifb_f ?_ | ((with_reducible refine ifb_decT ?_ ?_); (· first | (with_reducible assumption) | omega | (simp only [List.length_cons, List.length_nil]; omega))) | ((with_reducible refine ifb_decF ?_ ?_); (· first | (with_reducible assumption) | omega | (simp only [List.length_cons, List.length_nil]; omega))) | with_reducible refine ifb_dec (fun _ => ?_) (fun _ => ?_) | ((with_reducible apply ifb_eT); (· rfl)) | ((with_reducible apply ifb_eF); (· rfl))) | ((with_reducible show WB _ _ _); first | with_reducible refine wb_bor ?_ | with_reducible refine wb_v ?_ | with_reducible refine wb_and ?_ | with_reducible refine wb_or ?_ | with_reducible refine wb_not ?_ | with_reducible refine wb_yes ?_) | with_reducible refine isb ?_ | ((with_reducible show WL _ _ _); first | with_reducible refine wl_nil ?_ | with_reducible refine wl_cons ?_ | with_reducible refine wl_lst ?_ | with_reducible refine wl_un ?_ | with_reducible refine wl_it ?_ | with_reducible refine wl_rng1 ?_ | with_reducible refine wl_rng2 ?_ | with_reducible refine wl_enum ?_ | with_reducible refine wl_enumA ?_ | with_reducible refine wl_addE ?_ | with_reducible refine wl_rg1 ?_ | with_reducible refine wl_bor ?_ | with_reducible refine wl_call ?_ | ((with_reducible apply wl_addO); (· rfl)) | ((with_reducible show WL (lSlV _ _ _) _ _); first | ((with_reducible apply wl_slO); (· rfl)) | ((with_reducible apply wl_slR); (· rfl)))) | ((with_reducible show WA _ _ _); first | with_reducible refine wa_nil ?_ | with_reducible refine wa_v ?_ | ((with_reducible apply wa_r); (· rfl)) | ((with_reducible show WA (aO _ _) _ _); first | ((with_reducible apply wa_oR); (· rfl)) | ((with_reducible apply wa_oO); (· rfl)) | ((with_reducible apply wa_oV); (· rfl)))) | ((with_reducible show IsS _ _); first | with_reducible refine iss_l ?_ | with_reducible refine iss_t ?_) | ((with_reducible refine fit_ ?_ ?_); (· first | rfl | (apply fits_of; first | omega | (simp; omega)))) | ((with_reducible show CallG _ _ _ _); first | ((with_reducible apply cg0); (· rfl)) | ((with_reducible apply cg1); (· rfl); (· rfl))) | ((with_reducible show WT _ _ _ _); first | with_reducible refine wt_n ?_ | ((with_reducible apply wt_t); (· rfl)) | ((with_reducible apply wt_unl); (· rfl))) | ((with_reducible show WTs _ _ _ _); first | with_reducible refine wts_nil ?_ | with_reducible refine wts_cons ?_) | ((with_reducible apply own_); (· rfl)) | ((with_reducible refine sml_ ?_ ?_ ?_); (· walk_at "sd"); (· walk_at "sd")) | with_reducible refine isi_ ?_ | ((with_reducible show WNl _ _ _); first | with_reducible refine wnl_l ?_ | with_reducible refine wnl_v ?_) | ((with_reducible show WSX _ _ _); first | with_reducible refine wsx_lift ?_ | with_reducible refine wsx_seq ?_ | with_reducible refine wsx_if ?_ | with_reducible refine wsx_raise0 ?_ | with_reducible refine wsx_expr ?_ | with_reducible refine wsx_ret ?_ | with_reducible refine wsx_set ?_) | with_reducible refine wex_call ?_ | ((with_reducible show WPu _ _ _ _); first | with_reducible refine wpu_nil ?_ | with_reducible refine wpu_seq ?_ | with_reducible refine wpu_ret ?_ | with_reducible refine wpu_if ?_) | ((with_reducible show WTd _ _ _ _ _); first | with_reducible refine wtd_P ?_ | with_reducible refine wtd_G ?_ | with_reducible refine wtd_If ?_ | ((with_reducible refine wtd_K ?_ ?_); (· exact ⟨rfl, by decide⟩)) | ((with_reducible refine wtd_U ?_ ?_); (· exact ⟨rfl, by decide⟩)) | ((with_reducible refine wtd_C ?_ ?_); (· rfl)) | ((with_reducible refine wtd_A ?_ ?_ ?_); (· rfl); (· first | rfl | (apply fits_of; first | omega | (simp; omega))))) | with_reducible refine two_ ?_ | ((with_reducible show WC _ _ _ _ _ _ _); first | with_reducible refine wc_nil ?_ | with_reducible refine wc_cons ?_) | ((with_reducible show WP _ _ _); first | with_reducible refine wp_no ?_ | with_reducible refine wp_e ?_) | with_reducible refine isl ?_ | ((with_reducible show RetT _ _ _); first | ((with_reducible apply retT1); (· rfl)) | ((with_reducible apply retT2); (· rfl))) | ((with_reducible show Any _ _); first | ((with_reducible apply any_o); (· rfl)) | ((with_reducible apply any_r); (· rfl))) | ((with_reducible show CallH _ _ _ _); first | ((with_reducible apply ch0); (· rfl)) | ((with_reducible apply ch1); (· rfl); (· rfl))) | ((with_reducible apply cgx0); (· rfl))))
local macro_rules | `(tactic| walk_at "vc") => `(tactic| (repeat' first | ((with_reducible show WE _ _ _); first | with_reducible refine we_chain3 ?_ | with_reducible refine we_callNL ?_ | with_reducible refine we_callN ?_ | with_reducible refine we_c ?_ | with_reducible refine we_un ?_ | with_reducible refine we_bin ?_ | with_reducible refine we_chain ?_ | with_reducible refine we_and ?_ | with_reducible refine we_or ?_ | with_reducible refine we_not ?_ | with_reducible refine we_if ?_ | with_reducible refine we_fz ?_ | with_reducible refine we_tup ?_ | with_reducible refine we_sl ?_ | with_reducible refine we_tupRg ?_ | with_reducible refine we_bor ?_ | with_reducible refine we_call ?_ | with_reducible refine we_din ?_ | with_reducible refine we_borL ?_ | ((with_reducible apply we_v); (· rfl)) | ((with_reducible show WE (eO _) _ _); first | ((with_reducible apply we_oV); (· rfl)) | ((with_reducible apply we_oW); (· rfl)) | ((with_reducible apply we_oR); (· rfl))) | ((with_reducible show WE (eBinV _ _ _) _ _); first | ((with_reducible apply we_bV); (· rfl)) | ((with_reducible apply we_bVr); (· rfl)) | ((with_reducible apply we_bVv); (· rfl))) | ((with_reducible apply we_mut); (· rfl)) | ((with_reducible apply we_mut0); (· rfl)) | ((with_reducible apply we_dget2); (· rfl)) | ((with_reducible apply we_didx); (· rfl))) | ((with_reducible show WO _ _); first | ((with_reducible show WO (gIsO _ _) _); first | with_reducible refine wo_isON ?_ | ((with_reducible refine wo_isO (b := true) ?_ ?_); (· rfl)) | ((with_reducible refine wo_isO (b := false) ?_ ?_); (· rfl))) | with_reducible refine wo_attr ?_ | ((with_reducible show WO (valsA _) _); first | with_reducible refine vals_nil ?_ | with_reducible refine vals_v ?_) | with_reducible refine wo_isB ?_ | with_reducible refine wo_ntB ?_ | ((with_reducible show WO (backAr _ _ _) _); first | with_reducible refine back_nil ?_ | with_reducible refine back_v ?_ | with_reducible refine back_o ?_ | ((with_reducible apply back_r); (· rfl))) | ((with_reducible show WO (resArs _ _) _); first | with_reducible refine res_nil ?_ | with_reducible refine res_v ?_ | ((with_reducible apply res_r); (· rfl)) | ((with_reducible apply res_oO); (· rfl)) | ((with_reducible apply res_oR); (· rfl)) | ((with_reducible apply res_oV); (· rfl))) | ((with_reducible show WO (gAdd _ _) _); first | with_reducible refine wo_add ?_ | ((with_reducible refine wo_addL ?_ ?_); (· first | rfl | (apply fits_of; first | omega | (simp; omega)))) | ((with_reducible refine wo_addT ?_ ?_); (· first | rfl | (apply fits_of; first | omega | (simp; omega))))) | with_reducible refine wo_sub ?_ | with_reducible refine wo_neg ?_ | with_reducible refine wo_lt ?_ | with_reducible refine wo_le ?_ | with_reducible refine wo_gt ?_ | with_reducible refine wo_ge ?_ | ((with_reducible show WO (gEq _ _) _); first | with_reducible refine wo_eq ?_ | with_reducible refine wo_eqB ?_ | ((with_reducible refine wo_eqT ?_ ?_); (· decide +kernel)) | ((with_reducible refine wo_eqF ?_ ?_); (· decide +kernel))) | ((with_reducible show WO (gNe _ _) _); first | with_reducible refine wo_ne ?_ | with_reducible refine wo_neB ?_ | ((with_reducible refine wo_neT ?_ ?_); (· decide +kernel)) | ((with_reducible refine wo_neF ?_ ?_); (· decide +kernel))) | with_reducible refine wo_isN ?_ | with_reducible refine wo_ntN ?_ | ((with_reducible show WO (gLen _) _); first | with_reducible refine wo_lenL ?_ | with_reducible refine wo_lenT ?_) | with_reducible refine wo_abs ?_ | ((with_reducible show WO (gInt _) _); first | with_reducible refine wo_intB ?_ | with_reducible refine wo_intI ?_) | ((with_reducible show WO (gList _) _); first | with_reducible refine wo_listL ?_ | with_reducible refine wo_listT ?_) | ((with_reducible show WO (gTuple _) _); first | with_reducible refine wo_tupL ?_ | with_reducible refine wo_tupT ?_) | with_reducible refine wo_max ?_ | with_reducible refine wo_min ?_ | ((with_reducible show WO (gIsi _ _) _); first | with_reducible refine wo_isiI ?_ | with_reducible refine wo_isiB ?_ | ((with_reducible apply wo_isiE); (· rfl))) | ((with_reducible show WO (cutOf _ _ _) _); first | with_reducible refine wo_cutL ?_ | with_reducible refine wo_cutT ?_) | ((with_reducible show WO (gPow _ _) _); first | with_reducible refine wo_p10_60 ?_ | with_reducible refine wo_p10_18 ?_ | with_reducible refine wo_p10_30 ?_ | with_reducible refine wo_p2_24 ?_ | with_reducible refine wo_p10_8 ?_ | with_reducible refine wo_p10_19 ?_ | with_reducible refine wo_p10_55 ?_ | with_reducible refine wo_p10_59 ?_ | with_reducible refine wo_p3_30 ?_ | with_reducible refine wo_p2_40 ?_ | with_reducible refine wo_p10_54 ?_ | with_reducible refine wo_p3_13 ?_ | with_reducible refine wo_p2_20 ?_ | with_reducible refine wo_p10_57 ?_ | with_reducible refine wo_p10_40 ?_ | with_reducible refine wo_p10_61 ?_ | with_reducible refine wo_p10_50 ?_) | ((with_reducible apply wo_idxE); (· rfl)) | ((with_reducible apply wo_allE); (· rfl)) | ((with_reducible apply wo_anyE); (· rfl)) | ((with_reducible show WO (ixN _ _) _); first | ((with_reducible apply wo_ixE); (· rfl)) | ((with_reducible refine wo_ix ?_ ?_ ?_); (· walk_at "sd"); (· walk_at "sd"))) | ((with_reducible refine wo_mod ?_ ?_); (· walk_at "sd")) | ((with_reducible refine wo_div ?_ ?_ ?_); (· walk_at "sd"); (· walk_at "sd")) | ((with_reducible refine wo_mul ?_ ?_); (· first | exact mul_ok1 (by walk_at "sd") | exact mul_ok2 (by walk_at "sd") | exact mul_ok3 (by omega) (by omega))) | ((with_reducible refine wo_app ?_ ?_); (· first | rfl | (apply fits_of; first | omega | (simp; omega)))) | ((with_reducible refine wo_ext ?_ ?_); (· first | rfl | (apply fits_of; first | omega | (simp; omega))))) | ((with_reducible show WS _ _ _); first | with_reducible refine ws_try ?_ | with_reducible refine ws_retT ?_ | with_reducible refine ws_seq ?_ | with_reducible refine ws_expr ?_ | with_reducible refine ws_ret ?_ | with_reducible refine ws_retL ?_ | with_reducible refine ws_if ?_ | with_reducible refine ws_set ?_ | with_reducible refine ws_setO ?_ | with_reducible refine ws_asg ?_ | with_reducible refine ws_par ?_ | with_reducible refine ws_nil ?_ | with_reducible refine ws_retN ?_ | with_reducible refine ws_dput ?_ | with_reducible refine ws_dnew ?_ | ((with_reducible show WS (sFrz _ _) _ _); first | ((with_reducible apply ws_frz); (· rfl)) | ((with_reducible apply ws_frzV); (· rfl))) | ((with_reducible apply ws_retO); (· rfl)) | ((with_reducible apply ws_putI); (· rfl))) | ((with_reducible apply nrm_); (· (try simp only [wipeE, backE, List.set_cons_zero, List.set_cons_succ, List.getElem?_cons_zero, List.getElem?_cons_succ, List.cons_append, List.nil_append, List.replicate_succ, List.replicate_zero, Nat.reduceSub, unowns_nil, unowns_cons, unown_own, unown_val, unown_no, unown_ro, unown_dct]); rfl)) | ((with_reducible show IfB _ _ _); first | with_reducible refine ifb_not ?_ | with_reducible refine ifb_t ?_ | with_reducible refine ifb_f ?_ | ((with_reducible refine ifb_decT ?_ ?_); (· first | (with_reducible assumption) | omega | (simp only [List.length_cons, List.length_nil]; omega))) | ((with_reducible refine ifb_decF ?_ ?_); (· first | (with_reducible assumption) | omega | (simp only [List.length_cons, List.length_nil]; omega))) | with_reducible refine ifb_dec (fun _ => ?_) (fun _ => ?_) | ((with_reducible apply ifb_eT); (· rfl)) | ((with_reducible apply ifb_eF); (· rfl))) | ((with_reducible show WB _ _ _); first | with_reducible refine wb_bor ?_ | with_reducible refine wb_v ?_ | with_reducible refine wb_and ?_ | with_reducible refine wb_or ?_ | with_reducible refine wb_not ?_ | with_reducible refine wb_yes ?_) | with_reducible refine isb ?_ | ((with_reducible show WL _ _ _); first | with_reducible refine wl_nil ?_ | with_reducible refine wl_cons ?_ | with_reducible refine wl_lst ?_ | with_reducible refine wl_un ?_ | with_reducible refine wl_it ?_ | with_reducible refine wl_rng1 ?_ | with_reducible refine wl_rng2 ?_ | with_reducible refine wl_enum ?_ | with_reducible refine wl_enumA ?_ | with_reducible refine wl_addE ?_ | with_reducible refine wl_rg1 ?_ | with_reducible refine wl_bor ?_ | with_reducible refine wl_call ?_ | ((with_reducible apply wl_addO); (· rfl)) | ((with_reducible show WL (lSlV _ _ _) _ _); first | ((with_reducible apply wl_slO); (· rfl)) | ((with_reducible apply wl_slR); (· rfl)))) | ((with_reducible show WA _ _ _); first | with_reducible refine wa_nil ?_ | with_reducible refine wa_v ?_ | ((with_reducible apply wa_r); (· rfl)) | ((with_reducible show WA (aO _ _) _ _); first | ((with_reducible apply wa_oR); (· rfl)) | ((with_reducible apply wa_oO); (· rfl)) | ((with_reducible apply wa_oV); (· rfl)))) | ((with_reducible show IsS _ _); first | with_reducible refine iss_l ?_ | with_reducible refine iss_t ?_) | ((with_reducible refine fit_ ?_ ?_); (· first | rfl | (apply fits_of; first | omega | (simp; omega)))) | ((with_reducible show CallG _ _ _ _); first | ((with_reducible apply cg0); (· rfl)) | ((with_reducible apply cg1); (· rfl); (· rfl))) | ((with_reducible show WT _ _ _ _); first | with_reducible refine wt_n ?_ | ((with_reducible apply wt_t); (· rfl)) | ((with_reducible apply wt_unl); (· rfl))) | ((with_reducible show WTs _ _ _ _); first | with_reducible refine wts_nil ?_ | with_reducible refine wts_cons ?_) | ((with_reducible apply own_); (· rfl)) | ((with_reducible refine sml_ ?_ ?_ ?_); (· walk_at "sd"); (· walk_at "sd")) | with_reducible refine isi_ ?_ | ((with_reducible show WNl _ _ _); first | with_reducible refine wnl_l ?_ | with_reducible refine wnl_v ?_) | ((with_reducible show WSX _ _ _); first | with_reducible refine wsx_lift ?_ | with_reducible refine wsx_seq ?_ | with_reducible refine wsx_if ?_ | with_reducible refine wsx_raise0 ?_ | with_reducible refine wsx_expr ?_ | with_reducible refine wsx_ret ?_ | with_reducible refine wsx_set ?_) | with_reducible refine wex_call ?_ | ((with_reducible show WPu _ _ _ _); first | with_reducible refine wpu_nil ?_ | with_reducible refine wpu_seq ?_ | with_reducible refine wpu_ret ?_ | with_reducible refine wpu_if ?_) | ((with_reducible show WTd _ _ _ _ _); first | with_reducible refine wtd_P ?_ | with_reducible refine wtd_G ?_ | with_reducible refine wtd_If ?_ | ((with_reducible refine wtd_K ?_ ?_); (· exact ⟨rfl, by decide⟩)) | ((with_reducible refine wtd_U ?_ ?_); (· exact ⟨rfl, by decide⟩)) | ((with_reducible refine wtd_C ?_ ?_); (· rfl)) | ((with_reducible refine wtd_A ?_ ?_ ?_); (· rfl); (· first | rfl | (apply fits_of; first | omega | (simp; omega))))) | with_reducible refine two_ ?_ | ((with_reducible show WC _ _ _ _ _ _ _); first | with_reducible refine wc_nil ?_ | with_reducible refine wc_cons ?_) | ((with_reducible show WP _ _ _); first | with_reducible refine wp_no ?_ | with_reducible refine wp_e ?_) | with_reducible refine isl ?_ | ((with_reducible show RetT _ _ _); first | ((with_reducible apply retT1); (· rfl)) | ((with_reducible apply retT2); (· rfl))) | ((with_reducible show Any _ _); first | ((with_reducible apply any_o); (· rfl)) | ((with_reducible apply any_r); (· rfl))) | ((with_reducible show CallH _ _ _ _); first | ((with_reducible apply ch0); (· rfl)) | ((with_reducible apply ch1); (· rfl); (· rfl))) | ((with_reducible apply cgx0); (· rfl))))
local macro_rules | `(tactic| walk_at "vd") => `(tactic| (repeat' first | ((with_reducible show WE _ _ _); first | with_reducible refine we_chain3 ?_ | with_reducible refine we_callNL ?_ | with_reducible refine we_callN ?_ | with_reducible refine we_c ?_ | with_reducible refine we_un ?_ | with_reducible refine we_bin ?_ | with_reducible refine we_chain ?_ | with_reducible refine we_and ?_ | with_reducible refine we_or ?_ | with_reducible refine we_not ?_ | with_reducible refine we_if ?_ | with_reducible refine we_fz ?_ | with_reducible refine we_tup ?_ | with_reducible refine we_sl ?_ | with_reducible refine we_tupRg ?_ | with_reducible refine we_bor ?_ | with_reducible refine we_call ?_ | with_reducible refine we_din ?_ | with_reducible refine we_borL ?_ | ((with_reducible apply we_v); (· rfl)) | ((with_reducible show WE (eO _) _ _); first | ((with_reducible apply we_oV); (· rfl)) | ((with_reducible apply we_oW); (· rfl)) | ((with_reducible apply we_oR); (· rfl))) | ((with_reducible show WE (eBinV _ _ _) _ _); first | ((with_reducible apply we_bV); (· rfl)) | ((with_reducible apply we_bVr); (· rfl)) | ((with_reducible apply we_bVv); (· rfl))) | ((with_reducible apply we_mut); (· rfl)) | ((with_reducible apply we_mut0); (· rfl)) | ((with_reducible apply we_dget2); (· rfl)) | ((with_reducible apply we_didx); (· rfl))) | ((with_reducible show WO _ _); first | ((with_reducible show WO (gIsO _ _) _); first | with_reducible refine wo_isON ?_ | ((with_reducible refine wo_isO (b := true) ?_ ?_); (· rfl)) | ((with_reducible refine wo_isO (b := false) ?_ ?_); (· rfl))) | with_reducible refine wo_attr ?_ | ((with_reducible show WO (valsA _) _); first | with_reducible refine vals_nil ?_ | with_reducible refine vals_v ?_) | with_reducible refine wo_isB ?_ | with_reducible refine wo_ntB ?_ | ((with_reducible show WO (backAr _ _ _) _); first | with_reducible refine back_nil ?_ | with_reducible refine back_v ?_ | with_reducible refine back_o ?_ | ((with_reducible apply back_r); (· rfl))) | ((with_reducible show WO (resArs _ _) _); first | with_reducible refine res_nil ?_ | with_reducible refine res_v ?_ | ((with_reducible apply res_r); (· rfl)) | ((with_reducible apply res_oO); (· rfl)) | ((with_reducible apply res_oR); (· rfl)) | ((with_reducible apply res_oV); (· rfl))) | ((with_reducible show WO (gAdd _ _) _); first | with_reducible refine wo_add ?_ | ((with_reducible refine wo_addL ?_ ?_); (· first | rfl | (apply fits_of; first | omega | (simp; omega)))) | ((with_reducible refine wo_addT ?_ ?_); (· first | rfl | (apply fits_of; first | omega | (simp; omega))))) | with_reducible refine wo_sub ?_ | with_reducible refine wo_neg ?_ | with_reducible refine wo_lt ?_ | with_reducible refine wo_le ?_ | with_reducible refine wo_gt ?_ | with_reducible refine wo_ge ?_ | ((with_reducible show WO (gEq _ _) _); first | with_reducible refine wo_eq ?_ | with_reducible refine wo_eqB ?_ | ((with_reducible refine wo_eqT ?_ ?_); (· decide +kernel)) | ((with_reducible refine wo_eqF ?_ ?_); (· decide +kernel))) | ((with_reducible show WO (gNe _ _) _); first | with_reducible refine wo_ne ?_ | with_reducible refine wo_neB ?_ | ((with_reducible refine wo_neT ?_ ?_); (· decide +kernel)) | ((with_reducible refine wo_neF ?_ ?_); (· decide +kernel))) | with_reducible refine wo_isN ?_ | with_reducible refine wo_ntN ?_ | ((with_reducible show WO (gLen _) _); first | with_reducible refine wo_lenL ?_ | with_reducible refine wo_lenT ?_) | with_reducible refine wo_abs ?_ | ((with_reducible show WO (gInt _) _); first | with_reducible refine wo_intB ?_ | with_reducible refine wo_intI ?_) | ((with_reducible show WO (gList _) _); first | with_reducible refine wo_listL ?_ | with_reducible refine wo_listT ?_) | ((with_reducible show WO (gTuple _) _); first | with_reducible refine wo_tupL ?_ | with_reducible refine wo_tupT ?_) | with_reducible refine wo_max ?_ | with_reducible refine wo_min ?_ | ((with_reducible show WO (gIsi _ _) _); first | with_reducible refine wo_isiI ?_ | with_reducible refine wo_isiB ?_ | ((with_reducible apply wo_isiE); (· rfl))) | ((with_reducible show WO (cutOf _ _ _) _); first | with_reducible refine wo_cutL ?_ | with_reducible refine wo_cutT ?_) | ((with_reducible show WO (gPow _ _) _); first | with_reducible refine wo_p10_60 ?_ | with_reducible refine wo_p10_18 ?_ | with_reducible refine wo_p10_30 ?_ | with_reducible refine wo_p2_24 ?_ | with_reducible refine wo_p10_8 ?_ | with_reducible refine wo_p10_19 ?_ | with_reducible refine wo_p10_55 ?_ | with_reducible refine wo_p10_59 ?_ | with_reducible refine wo_p3_30 ?_ | with_reducible refine wo_p2_40 ?_ | with_reducible refine wo_p10_54 ?_ | with_reducible refine wo_p3_13 ?_ | with_reducible refine wo_p2_20 ?_ | with_reducible refine wo_p10_57 ?_ | with_reducible refine wo_p10_40 ?_ | with_reducible refine wo_p10_61 ?_ | with_reducible refine wo_p10_50 ?_) | ((with_reducible apply wo_idxE); (· rfl)) | ((with_reducible apply wo_allE); (· rfl)) | ((with_reducible apply wo_anyE); (· rfl)) | ((with_reducible show WO (ixN _ _) _); first | ((with_reducible apply wo_ixE); (· rfl)) | ((with_reducible refine wo_ix ?_ ?_ ?_); (· walk_at "sd"); (· walk_at "sd"))) | ((with_reducible refine wo_mod ?_ ?_); (· walk_at "sd")) | ((with_reducible refine wo_div ?_ ?_ ?_); (· walk_at "sd"); (· walk_at "sd")) | ((with_reducible refine wo_mul ?_ ?_); (· first | exact mul_ok1 (by walk_at "sd") | exact mul_ok2 (by walk_at "sd") | exact mul_ok3 (by omega) (by omega))) | ((with_reducible refine wo_app ?_ ?_); (· first | rfl | (apply fits_of; first | omega | (simp; omega)))) | ((with_reducible refine wo_ext ?_ ?_); (· first | rfl | (apply fits_of; first | omega | (simp; omega))))) | ((with_reducible show WS _ _ _); first | with_reducible refine ws_try ?_ | with_reducible refine ws_retT ?_ | with_reducible refine ws_seq ?_ | with_reducible refine ws_expr ?_ | with_reducible refine ws_ret ?_ | with_reducible refine ws_retL ?_ | with_reducible refine ws_set ?_ | with_reducible refine ws_setO ?_ | with_reducible refine ws_asg ?_ | with_reducible refine ws_par ?_ | with_reducible refine ws_nil ?_ | with_reducible refine ws_retN ?_ | with_reducible refine ws_dput ?_ | with_reducible refine ws_dnew ?_ | ((with_reducible show WS (sFrz _ _) _ _); first | ((with_reducible apply ws_frz); (· rfl)) | ((with_reducible apply ws_frzV); (· rfl))) | ((with_reducible apply ws_retO); (· rfl)) | ((with_reducible apply ws_putI); (· rfl))) | ((with_reducible apply nrm_); (· (try simp only [wipeE, backE, List.set_cons_zero, List.set_cons_succ, List.getElem?_cons_zero, List.getElem?_cons_succ, List.cons_append, List.nil_append, List.replicate_succ, List.replicate_zero, Nat.reduceSub, unowns_nil, unowns_cons, unown_own, unown_val, unown_no, unown_ro, unown_dct]); rfl)) | ((with_reducible show IfB _ _ _); first | with_reducible refine ifb_not ?_ | with_reducible refine ifb_t ?_ | with_reducible refine ifb_f ?_ | ((with_reducible refine ifb_decT ?_ ?_); (· first | (with_reducible assumption) | omega | (simp only [List.length_cons, List.length_nil]; omega))) | ((with_reducible refine ifb_decF ?_ ?_); (· first | (with_reducible assumption) | omega | (simp only [List.length_cons, List.length_nil]; omega))) | with_reducible refine ifb_dec (fun _ => ?_) (fun _ => ?_) | ((with_reducible apply ifb_eT); (· rfl)) | ((with_reducible apply ifb_eF); (· rfl))) | ((with_reducible show WB _ _ _); first | with_reducible refine wb_bor ?_ | with_reducible refine wb_v ?_ | with_reducible refine wb_and ?_ | with_reducible refine wb_or ?_ | with_reducible refine wb_not ?_ | with_reducible refine wb_yes ?_) | with_reducible refine isb ?_ | ((with_reducible show WL _ _ _); first | with_reducible refine wl_nil ?_ | with_reducible refine wl_cons ?_ | with_reducible refine wl_lst ?_ | with_reducible refine wl_un ?_ | with_reducible refine wl_it ?_ | with_reducible refine wl_rng1 ?_ | with_reducible refine wl_rng2 ?_ | with_reducible refine wl_enum ?_ | with_reducible refine wl_enumA ?_ | with_reducible refine wl_addE ?_ | with_reducible refine wl_rg1 ?_ | with_reducible refine wl_bor ?_ | with_reducible refine wl_call ?_ | ((with_reducible apply wl_addO); (· rfl)) | ((with_reducible show WL (lSlV _ _ _) _ _); first | ((with_reducible apply wl_slO); (· rfl)) | ((with_reducible apply wl_slR); (· rfl)))) | ((with_reducible show WA _ _ _); first | with_reducible refine wa_nil ?_ | with_reducible refine wa_v ?_ | ((with_reducible apply wa_r); (· rfl)) | ((with_reducible show WA (aO _ _) _ _); first | ((with_reducible apply wa_oR); (· rfl)) | ((with_reducible apply wa_oO); (· rfl)) | ((with_reducible apply wa_oV); (· rfl)))) | ((with_reducible show IsS _ _); first | with_reducible refine iss_l ?_ | with_reducible refine iss_t ?_) | ((with_reducible refine fit_ ?_ ?_); (· first | rfl | (apply fits_of; first | omega | (simp; omega)))) | ((with_reducible show CallG _ _ _ _); first | ((with_reducible apply cg0); (· rfl)) | ((with_reducible apply cg1); (· rfl); (· rfl))) | ((with_reducible show WT _ _ _ _); first | with_reducible refine wt_n ?_ | ((with_reducible apply wt_t); (· rfl)) | ((with_reducible apply wt_unl); (· rfl))) | ((with_reducible show WTs _ _ _ _); first | with_reducible refine wts_nil ?_ | with_reducible refine wts_cons ?_) | ((with_reducible apply own_); (· rfl)) | ((with_reducible refine sml_ ?_ ?_ ?_); (· walk_at "sd"); (· walk_at "sd")) | with_reducible refine isi_ ?_ | ((with_reducible show WNl _ _ _); first | with_reducible refine wnl_l ?_ | with_reducible refine wnl_v ?_) | ((with_reducible show WSX _ _ _); first | with_reducible refine wsx_lift ?_ | with_reducible refine wsx_seq ?_ | with_reducible refine wsx_if ?_ | with_reducible refine wsx_raise0 ?_ | with_reducible refine wsx_expr ?_ | with_reducible refine wsx_ret ?_ | with_reducible refine wsx_set ?_) | with_reducible refine wex_call ?_ | ((with_reducible show WPu _ _ _ _); first | with_reducible refine wpu_nil ?_ | with_reducible refine wpu_seq ?_ | with_reducible refine wpu_ret ?_ | with_reducible refine wpu_if ?_) | ((with_reducible show WTd _ _ _ _ _); first | with_reducible refine wtd_P ?_ | with_reducible refine wtd_G ?_ | with_reducible refine wtd_If ?_ | ((with_reducible refine wtd_K ?_ ?_); (· exact ⟨rfl, by decide⟩)) | ((with_reducible refine wtd_U ?_ ?_); (· exact ⟨rfl, by decide⟩)) | ((with_reducible refine wtd_C ?_ ?_); (· rfl)) | ((with_reducible refine wtd_A ?_ ?_ ?_); (· rfl); (· first | rfl | (apply fits_of; first | omega | (simp; omega))))) | with_reducible refine two_ ?_ | ((with_reducible show WC _ _ _ _ _ _ _); first | with_reducible refine wc_nil ?_ | with_reducible refine wc_cons ?_) | ((with_reducible show WP _ _ _); first | with_reducible refine wp_no ?_ | with_reducible refine wp_e ?_) | with_reducible refine isl ?_ | ((with_reducible show RetT _ _ _); first | ((with_reducible apply retT1); (· rfl)) | ((with_reducible apply retT2); (· rfl))) | ((with_reducible show Any _ _); first | ((with_reducible apply any_o); (· rfl)) | ((with_reducible apply any_r); (· rfl))) | ((with_reducible show CallH _ _ _ _); first | ((with_reducible apply ch0); (· rfl)) | ((with_reducible apply ch1); (· rfl); (· rfl))) | ((with_reducible apply cgx0); (· rfl))))
local macro_rules | `(tactic| walk_at "nr") => `(tactic| ((with_reducible apply nrm_); (· (try simp only [wipeE, backE, List.set_cons_zero, List.set_cons_succ, List.getElem?_cons_zero, List.getElem?_cons_succ, List.cons_append, List.nil_append, List.replicate_succ, List.replicate_zero, Nat.reduceSub, unowns_nil, unowns_cons, unown_own, unown_val, unown_no, unown_ro, unown_dct]); rfl)))
local macro_rules | `(tactic| walk_at "nb") => `(tactic| simp only [wipeE, backE, List.set_cons_zero, List.set_cons_succ, List.getElem?_cons_zero, List.getElem?_cons_succ])
theorem take_w {ps : List Int} {m : Int} {Q : D → List Sl → Prop} (hp : PotOk ps) (hm : 0 < m) (hm2 : m < 10 ^ 200) (q : ∀ (r : Int) (ps' : List Int) x, PotOk ps' → 0 ≤ r → r < m → Q (.int r) [.own false (ps'.map .int), x]) :
    WG g__law_take [.own false (ps.map .int), .val (.int m)] Q := by
  have h0 := fun a : Int => Int.emod_nonneg a (show m ≠ 0 by omega)
  have h1 := fun a : Int => Int.emod_lt_of_pos a hm
  cases hp with
  | one a =>
    refine wg_run rfl ?_
    unfold b__law_take
    rw [List.map_cons, List.map_nil]
    walk_at "nr"
    refine ws_mid (fun e => e = [.own false [.int a], .val (.int m), .val (.int (a % m))]) (by walk_at "vc"; rfl) ?_
    rintro _ rfl
    refine ws_mid (fun e => e = [.own false [.int (a / m)], .val (.int m), .val (.int (a % m))]) (by walk_at "vc"; rfl) ?_
    rintro _ rfl
    walk_at "vc"
    all_goals exact q _ [_] _ (.one _) (h0 _) (h1 _)
  | two a b =>
    refine wg_run rfl ?_
    unfold b__law_take
    rw [List.map_cons, List.map_cons, List.map_nil]
    walk_at "nr"
    refine ws_mid (fun e => e = [.own false [.int a, .int b], .val (.int m), .val (.int (b % m))]) (by walk_at "vc"; rfl) ?_
    rintro _ rfl
    refine ws_mid (fun e => e = [.own false [.int a, .int (b / m)], .val (.int m), .val (.int (b % m))]) (by walk_at "vc"; rfl) ?_
    rintro _ rfl
    walk_at "vc"
    · refine ⟨_, rfl, ?_⟩
      walk_at "vc"
      exact q _ [_] _ (.one _) (h0 _) (h1 _)
    · exact q _ [_, _] _ (.two _ _) (h0 _) (h1 _)
theorem pot_w {c k : Int} {Q : List D → List Sl → Prop} (q : ∀ (ps : List Int) x y, PotOk ps → Q (ps.map .int) [x, y]) : WH g__law_pot [.val (.int c), .val (.int k)] Q := by
  refine wh_new rfl ?_
  unfold b__law_pot
  walk_at "nr"
  refine ws_mid (fun e => ∃ a : Int, 0 ≤ a ∧ a < 2147483647 ∧ e = [.val (.int c), .val (.int k), .val (.int a), .no, .no]) ?_ ?_
  · walk_at "vc"
    exact ⟨_, Int.emod_nonneg _ (by decide), Int.emod_lt_of_pos _ (by decide), rfl⟩
  rintro e ⟨a, ha0, ha1, rfl⟩
  walk_at "vd"
  refine ws_cut (fun e => ∃ (a f : Int) (x4 : Sl), e = [.val (.int c), .val (.int k), .val (.int a), .own true [.int f], x4]) ?_ ?_
  · refine ws_for (fun _ rs e => (∀ d ∈ rs, ∃ t : Int, d = .int t) ∧ ∃ (a f : Int) (x4 : Sl), 0 ≤ a ∧ a < 2147483647 ∧ e = [.val (.int c), .val (.int k), .val (.int a), .own true [.int f], x4]) ?_
    walk_at "vc"
    refine ⟨⟨fun d hd => ?_, _, _, _, ha0, ha1, rfl⟩, ?_, ?_⟩
    · obtain ⟨i, rfl, _, _⟩ := irange_zero hd
      exact ⟨i, rfl⟩
    · rintro d rs e ⟨h, a, f, x4, ha0, ha1, rfl⟩
      obtain ⟨t, rfl⟩ := h d List.mem_cons_self
      walk_at "vc"
      exact ⟨fun d hd => h d (List.mem_cons_of_mem _ hd), _, _, _, Int.emod_nonneg _ (by decide), Int.lt_trans (Int.emod_lt_of_pos _ (by decide)) (by decide), rfl⟩
    · rintro e ⟨_, a, f, x4, _, _, rfl⟩
      exact ⟨_, _, _, rfl⟩
  · rintro e ⟨a, f, x4, rfl⟩
    walk_at "vc"
    · exact q [_, _] _ _ (.two _ _)
    · exact q [_] _ _ (.one _)
theorem folded_w {ns : List Int} {m : Nat} {Q : D → List Sl → Prop} (h0 : 0 < m) (hm : m ≤ 63) (q : ∀ (cs : List Int) x y, cs.length = m → Q (.list (cs.map .int)) [x, y]) :
    WG g__law_folded [.ro (ns.map .int), .val (.int m)] Q := by
  refine wg_run rfl ?_
  unfold b__law_folded
  walk_at "vc"
  refine wl_mulE ?_
  walk_at "vc"
  refine ⟨⟨by omega, by omega, fits_of (by simp; omega)⟩, ?_⟩
  rw [Int.toNat_natCast, rep_zero]
  walk_at "nr"
  refine ws_mid (fun e => ∃ (cs : List Int) (x y : Sl), cs.length = m ∧ e = [.ro (ns.map .int), .val (.int m), .own true (cs.map .int), x, y]) ?_ ?_
  · refine ws_for (fun _ rs e => (∀ d ∈ rs, ∃ i n : Int, 0 ≤ i ∧ d = .tuple [.int i, .int n]) ∧ ∃ (cs : List Int) (x y : Sl), cs.length = m ∧ e = [.ro (ns.map .int), .val (.int m), .own true (cs.map .int), x, y]) ?_
    walk_at "vc"
    rw [show (63 : Int) = ((63 : Nat) : Int) from rfl, cut_take, ← List.map_take]
    refine ⟨⟨fun d hd => ?_, _, _, _, List.length_replicate, rfl⟩, ?_, ?_⟩
    · obtain ⟨x, y, rfl, hx, hy⟩ := pairs_mem hd
      obtain ⟨i, rfl, hi, _⟩ := irange_zero hx
      obtain ⟨n, rfl⟩ := ints_mem hy
      exact ⟨i, n, hi, rfl⟩
    · rintro d rs e ⟨h, cs, x, y, hc, rfl⟩
      obtain ⟨i, n, hi, rfl⟩ := h d List.mem_cons_self
      have htl := fun d hd => h d (List.mem_cons_of_mem _ hd)
      have e0 := Int.emod_nonneg i (show (m : Int) ≠ 0 by omega)
      have e1 := Int.emod_lt_of_pos i (show 0 < (m : Int) by omega)
      walk_at "vc"
      refine wo_idxInts e0 (by omega) fun v _ => ?_
      have v0 := Int.emod_nonneg v (show (10 ^ 60 : Int) ≠ 0 by decide)
      have v1 := Int.emod_lt_of_pos v (show 0 < (10 ^ 60 : Int) by decide)
      walk_at "vc"
      exact ⟨htl, cs.set (i % (m : Int)).toNat (v % 10 ^ 60 * 31 + n), .val (.int i), .val (.int n), by rw [List.length_set]; exact hc, by rw [List.map_set]; rfl⟩
    · rintro e ⟨_, cs, x, y, hc, rfl⟩
      exact ⟨cs, x, y, hc, rfl⟩
  · rintro e ⟨cs, x, y, hc, rfl⟩
    walk_at "vc"
    exact q cs _ _ hc
theorem cells_w {ns : List Int} {m : Nat} {Q : D → List Sl → Prop} (h0 : 0 < m) (hm : m ≤ 63) (q : ∀ (cs : List Int) x y, cs.length ≤ m → Q (.list (cs.map .int)) [x, y]) :
    WG g__law_cells [.ro (ns.map .int), .val (.int m)] Q := by
  refine wg_run rfl ?_
  unfold b__law_cells
  walk_at "vc"
  refine wo_eqNil (n := 1) (lay_ints ns) ?_
  cases ns with
  | nil =>
    walk_at "vc"
    exact q [0] _ _ h0
  | cons n0 ns =>
    walk_at "vc"
    have e : (if (((n0 :: ns).map PyData.int).length : Int) < (m : Int) then (((n0 :: ns).map PyData.int).length : Int) else (m : Int)) = ((min ((n0 :: ns).length) m : Nat) : Int) := by
      rw [List.length_map]
      split <;> omega
    rw [e]
    refine folded_w (m := min ((n0 :: ns).length) m) (by rw [List.length_cons]; omega) (by omega) fun cs _ _ hc => ?_
    walk_at "vc"
    exact q cs _ _ (by omega)
theorem many_w {ps : List Int} {Q : D → List Sl → Prop} (hp : PotOk ps) (q : ∀ (r : Int) (ps' : List Int), PotOk ps' → 1 < r → r ≤ 10 ^ 60 → Q (.int r) [.own false (ps'.map .int)]) :
    WG g__law_many [.own false (ps.map .int)] Q := by
  refine wg_run rfl ?_
  unfold b__law_many
  walk_at "nr"
  refine ws_mid (fun e => ∃ (w : Int) (ps : List Int), PotOk ps ∧ 0 ≤ w ∧ w < 8 ∧ e = [.own false (ps.map .int), .val (.int w)]) ?_ ?_
  · (repeat' first | walk_at "v1" | ((with_reducible refine take_w ?_ ?_ ?_ fun _ _ _ _ _ _ => ?_); (· walk_at "sd"); (· walk_at "sd"); (· walk_at "sd")))
    exact ⟨_, _, by assumption, by assumption, by assumption, rfl⟩
  rintro e ⟨w, ps, hp, hw0, hw1, rfl⟩
  walk_at "vc"
  · refine pick_w (xs := [11, 59, 59]) (lo := 11) (hi := 59) (by omega) (by simp; omega) rfl (by decide) fun x h1 h2 _ => ?_
    (repeat' first | walk_at "v1" | ((with_reducible refine take_w ?_ ?_ ?_ fun _ _ _ _ _ _ => ?_); (· walk_at "sd"); (· walk_at "sd"); (· walk_at "sd")))
    exact q _ _ (by assumption) (by omega) (by omega)
  · refine take_w hp (by omega) (by omega) fun r ps' _ hp' hr0 hr1 => ?_
    walk_at "vc"
    refine pick_w (xs := [64, 720, 1155, 1716, 5040, 27720, 1048576, 1594323]) (lo := 2) (hi := 1594323) (by omega) (by simp; omega) rfl (by decide) fun x h1 h2 _ => ?_
    walk_at "vc"
    exact q _ _ hp' (by omega) (by omega)
  · refine take_w hp (by omega) (by omega) fun r ps' _ hp' hr0 hr1 => ?_
    obtain ⟨n, rfl⟩ := Int.eq_ofNat_of_zero_le hr0
    walk_at "vc"
    refine wo_ten (n := n) (by omega) ?_
    have : (10 : Nat) ^ (1 + n) ≤ 10 ^ 60 := Nat.pow_le_pow_right (by decide) (by omega)
    have h3 : (10 : Nat) ^ 1 ≤ 10 ^ (1 + n) := Nat.pow_le_pow_right (by decide) (by omega)
    walk_at "vc"
    exact q _ _ hp' (by omega) (by omega)
  · refine take_w hp (by omega) (by omega) fun r ps' _ hp' hr0 hr1 => ?_
    walk_at "vc"
    refine pick_w (xs := [2, 6, 12, 60, 64, 210]) (lo := 2) (hi := 210) (by omega) (by simp; omega) rfl (by decide) fun x h1 h2 _ => ?_
    (repeat' first | walk_at "v1" | ((with_reducible refine take_w ?_ ?_ ?_ fun _ _ _ _ _ _ => ?_); (· walk_at "sd"); (· walk_at "sd"); (· walk_at "sd")))
    rename_i r2 ps2 _ hp2 h3 h4
    have : 2 * (1 + r2) ≤ x * (1 + r2) := Int.mul_le_mul_of_nonneg_right h1 (by omega)
    have : x * (1 + r2) ≤ 210 * (1 + r2) := Int.mul_le_mul_of_nonneg_right h2 (by omega)
    exact q _ _ hp2 (by omega) (by omega)
  · refine take_w hp (by omega) (by omega) fun r ps' _ hp' hr0 hr1 => ?_
    walk_at "vc"
    exact q _ _ hp' (by omega) (by omega)
  · refine take_w hp (by omega) (by omega) fun r ps' _ hp' hr0 hr1 => ?_
    walk_at "vc"
    exact q _ _ hp' (by omega) (by omega)
theorem gear_w {ps : List Int} {m : Int} {Q : D → List Sl → Prop} (hp : PotOk ps) (hm : 1 < m) (hm2 : m ≤ 10 ^ 60) (q : ∀ (r : Int) (ps' : List Int) x, PotOk ps' → 0 ≤ r → r < m → Q (.int r) [.own false (ps'.map .int), x]) :
    WG g__law_gear [.own false (ps.map .int), .val (.int m)] Q := by
  have h0 := fun a : Int => Int.emod_nonneg a (show m ≠ 0 by omega)
  have h1 := fun a : Int => Int.emod_lt_of_pos a (show 0 < m by omega)
  refine wg_run rfl ?_
  unfold b__law_gear
  walk_at "nr"
  refine ws_mid (fun e => ∃ (w : Int) (ps : List Int), PotOk ps ∧ 0 ≤ w ∧ w < 5 ∧ e = [.own false (ps.map .int), .val (.int m), .val (.int w)]) ?_ ?_
  · (repeat' first | walk_at "v1" | ((with_reducible refine take_w ?_ ?_ ?_ fun _ _ _ _ _ _ => ?_); (· walk_at "sd"); (· walk_at "sd"); (· walk_at "sd")))
    exact ⟨_, _, by assumption, by assumption, by assumption, rfl⟩
  rintro e ⟨w, ps, hp, hw0, hw1, rfl⟩
  walk_at "vc"
  · refine take_w hp (by omega) (by omega) fun r ps' _ hp' hr0 hr1 => ?_
    walk_at "vc"
    exact q _ _ _ hp' hr0 hr1
  · refine take_w hp (by omega) (by omega) fun r ps' _ hp' hr0 hr1 => ?_
    walk_at "vc"
    refine pick_w (xs := [0, 1, 2, 3, m - 1, m / 2]) (lo := 0) (hi := 10 ^ 61) (by omega) (by simp; omega) rfl (fun x hx => ?_) fun x h1' h2 _ => ?_
    · simp only [List.mem_cons, List.not_mem_nil, or_false] at hx
      omega
    walk_at "vc"
    exact q _ _ _ hp' (h0 _) (h1 _)
  · refine take_w hp (by omega) (by omega) fun r ps' _ hp' hr0 hr1 => ?_
    walk_at "vc"
    exact q _ _ _ hp' (h0 _) (h1 _)
  · refine take_w hp (by omega) (by omega) fun r ps' _ hp' hr0 hr1 => ?_
    walk_at "vc"
    refine pick_w (xs := [2, 3, 4, 5, 6, 10, 12]) (lo := 2) (hi := 12) (by omega) (by simp; omega) rfl (by decide) fun x h1' h2 _ => ?_
    walk_at "vc"
    refine take_w hp' (by omega) (by omega) fun r ps' _ hp' hr0 hr1 => ?_
    walk_at "vc"
    exact q _ _ _ hp' (h0 _) (h1 _)
  · refine take_w hp (by omega) (by omega) fun r ps' _ hp' hr0 hr1 => ?_
    walk_at "vc"
    exact q _ _ _ hp' (h0 _) (h1 _)
theorem start_w {ps : List Int} {m : Int} {Q : D → List Sl → Prop} (hp : PotOk ps) (hm : 1 < m) (hm2 : m ≤ 10 ^ 60) (q : ∀ (r : Int) (ps' : List Int) x, PotOk ps' → 0 ≤ r → r < m → Q (.int r) [.own false (ps'.map .int), x]) :
    WG g__law_start [.own false (ps.map .int), .val (.int m)] Q := by
  refine wg_run rfl ?_
  unfold b__law_start
  walk_at "nr"
  refine ws_mid (fun e => ∃ (w : Int) (ps : List Int), PotOk ps ∧ 0 ≤ w ∧ w < 4 ∧ e = [.own false (ps.map .int), .val (.int m), .val (.int w)]) ?_ ?_
  · (repeat' first | walk_at "v1" | ((with_reducible refine take_w ?_ ?_ ?_ fun _ _ _ _ _ _ => ?_); (· walk_at "sd"); (· walk_at "sd"); (· walk_at "sd")))
    exact ⟨_, _, by assumption, by assumption, by assumption, rfl⟩
  rintro e ⟨w, ps, hp, hw0, hw1, rfl⟩
  walk_at "vc"
  · exact q _ _ _ hp (by omega) (by omega)
  · refine take_w hp (by omega) (by omega) fun r ps' _ hp' hr0 hr1 => ?_
    walk_at "vc"
    have h2 : r = 0 ∨ r = 1 := by omega
    have hb : 0 ≤ m / 2 * r ∧ m / 2 * r < m := by rcases h2 with rfl | rfl <;> omega
    exact q _ _ _ hp' hb.1 hb.2
  · refine take_w hp (by omega) (by omega) fun r ps' _ hp' hr0 hr1 => ?_
    walk_at "vc"
    exact q _ _ _ hp' hr0 hr1
theorem order2_w {ps : List Int} {n : Nat} {Q : D → List Sl → Prop} (hp : PotOk ps) (hn : n ≤ 5) (q : ∀ (o : List Nat) (ps' : List Int) x, PotOk ps' → o.length = n → o.Nodup → (∀ j ∈ o, j < n) → Q (.list ((o.map fun (j : Nat) => (j : Int)).map .int)) [.own false (ps'.map .int), x]) :
    WG g__law_order [.own false (ps.map .int), .val (.int n)] Q := by
  refine wg_run rfl ?_
  unfold b__law_order
  walk_at "vc"
  rw [Int.toNat_natCast]
  refine wl_comp (fun ds rs acc e' e => ∃ (left is ps : List Int), PotOk ps ∧ acc = is.map .int ∧ is.length + rs.length = n ∧ (is ++ left).Perm (natsI n) ∧ e' = [.own false (ps.map .int), .val (.int n), .own true (left.map .int), .no]) ?_
  walk_at "vc"
  rw [irange_ints0]
  refine ⟨rfl, fits_of (by rw [irange_length]; omega), ⟨natsI n, [], ps, hp, rfl, by rw [irange_length]; simp, List.Perm.refl _, rfl⟩, ?_, ?_⟩
  · rintro d rs acc e' ⟨left, is, ps, hp, rfl, h1, h2, rfl⟩
    rw [List.length_cons] at h1
    have hl := h2.length_eq
    rw [List.length_append, natsI_len] at hl
    walk_at "vc"
    refine take_w hp (by rw [List.length_map]; omega) (by rw [List.length_map]; omega) fun r ps' _ hp' hr0 hr1 => ?_
    rw [List.length_map] at hr1
    walk_at "vc"
    refine wo_popAt hr0 (by rw [List.length_map]; omega) (by rw [List.length_map]; omega) fun d hd hm => ?_
    rw [List.getElem?_map] at hd
    obtain ⟨v, hv, rfl⟩ := Option.map_eq_some_iff.mp hd
    walk_at "vc"
    refine ⟨left.eraseIdx r.toNat, is ++ [v], ps', hp', by rw [List.map_append]; rfl, by simp; omega, ?_, by rw [map_erase]; rfl⟩
    obtain ⟨hrl, hv'⟩ := List.getElem?_eq_some_iff.mp hv
    have hpm : (v :: left.eraseIdx r.toNat).Perm left := by
      rw [← hv']
      exact perm_erase hrl
    rw [List.append_assoc]
    exact (hpm.append_left is).trans h2
  · rintro acc e' ⟨left, is, ps, hp, rfl, h1, h2, rfl⟩
    walk_at "nb"
    have hl := h2.length_eq
    rw [List.length_append, natsI_len] at hl
    have hil : is.length = n := by simpa using h1
    have h0 : left = [] := List.eq_nil_of_length_eq_zero (by omega)
    subst h0
    rw [List.append_nil] at h2
    have hr : ∀ i ∈ is, 0 ≤ i ∧ i < n := fun i hi => natsI_mem (h2.mem_iff.mp hi)
    have e : is = (is.map Int.toNat).map fun (j : Nat) => (j : Int) := by
      rw [List.map_map]
      conv => lhs; rw [← List.map_id is]
      exact List.map_congr_left fun i hi => by have := hr i hi; show i = ((i.toNat : Nat) : Int); omega
    rw [e]
    refine q (is.map Int.toNat) ps _ hp (by rw [List.length_map]; exact hil) ?_ fun j hj => ?_
    · have hnd : (natsI n).Nodup := by
        unfold natsI
        rw [List.nodup_iff_pairwise_ne, List.pairwise_map]
        exact (List.nodup_iff_pairwise_ne.mp List.nodup_range).imp fun h z => h (by omega)
      have h3 : is.Nodup := h2.nodup_iff.mpr hnd
      rw [List.nodup_iff_pairwise_ne, List.pairwise_map]
      exact (List.nodup_iff_pairwise_ne.mp h3).imp_of_mem fun {a b} ha hb h z => h (by have := hr a ha; have := hr b hb; omega)
    · obtain ⟨i, hi, rfl⟩ := List.mem_map.mp hj
      have := hr i hi
      omega
theorem looks2_w {ps : List Int} {n w : Nat} {Q : D → List Sl → Prop} (hp : PotOk ps) (h1 : 1 ≤ n) (hn : n ≤ 5) (hw : w ≤ 3) (q : ∀ (xs : List Str) (ps' : List Int) x y, PotOk ps' → xs.length = n → (∀ x ∈ xs, isLk x) → cntR xs ≤ 6 → (w < 2 → cntR xs ≤ 2) → Q (.list (xs.map .str)) [.own false (ps'.map .int), x, y]) :
    WG g__law_looks [.own false (ps.map .int), .val (.int n), .val (.int w)] Q := by
  refine wg_run rfl ?_
  unfold b__law_looks
  walk_at "nr"
  refine ws_mid (fun e => ∃ (b : Int) (ps : List Int), PotOk ps ∧ 0 ≤ b ∧ b < 26 ∧ e = [.own false (ps.map .int), .val (.int n), .val (.int w), .val (.int b), .no, .no, .no, .no]) ?_ ?_
  · (repeat' first | walk_at "v1" | ((with_reducible refine take_w ?_ ?_ ?_ fun _ _ _ _ _ _ => ?_); (· walk_at "sd"); (· walk_at "sd"); (· walk_at "sd")))
    exact ⟨_, _, by assumption, by assumption, by assumption, rfl⟩
  rintro e ⟨b, ps, hp, hb0, hb1, rfl⟩
  refine ws_mid (fun e => ∃ (s : Int) (ps : List Int), PotOk ps ∧ 1 ≤ s ∧ s ≤ 25 ∧ s ∈ ([1, 3, 5, 7, 9, 11, 15, 17, 19, 21, 23, 25] : List Int) ∧ e = [.own false (ps.map .int), .val (.int n), .val (.int w), .val (.int b), .val (.int s), .no, .no, .no]) ?_ ?_
  · walk_at "vc"
    refine take_w hp (by omega) (by omega) fun r ps' _ hp' hr0 hr1 => ?_
    walk_at "vc"
    refine pick_w (xs := [1, 3, 5, 7, 9, 11, 15, 17, 19, 21, 23, 25]) (lo := 1) (hi := 25) (by omega) (by simp; omega) rfl (by decide) fun x h1' h2 h3 => ?_
    walk_at "vc"
    exact ⟨_, _, hp', h1', h2, h3, rfl⟩
  rintro e ⟨s, ps, hp, hs0, hs1, hs, rfl⟩
  refine ws_mid (fun e => e = [.own false (ps.map .int), .val (.int n), .val (.int w), .val (.int b), .val (.int s), .own true (((List.range n).map (ltr b s)).map .str), .no, .no]) ?_ ?_
  · walk_at "vc"
    refine wl_compP (fun _ _ => true) (fun _ => fun d => match d with | .int k => .str (ltr b s k.toNat) | d => d) ?_
    walk_at "vc"
    rw [Int.toNat_natCast]
    refine ⟨rfl, fits_of (by rw [irange_length]; omega), fun d hd => ?_, ?_⟩
    · obtain ⟨i, rfl, hi0, hi1⟩ := irange_zero hd
      obtain ⟨j, rfl⟩ := Int.eq_ofNat_of_zero_le hi0
      walk_at "vc"
      refine ⟨rfl, ?_⟩
      walk_at "vc"
      refine wo_abc2 (Int.emod_nonneg _ (by decide)) (Int.emod_lt_of_pos _ (by decide)) ?_
      walk_at "vc"
      exact ⟨rfl, rfl⟩
    · rw [filter_yes, irange_nat, List.map_map]
      walk_at "vc"
      rw [List.map_map]
      rfl
  rintro _ rfl
  refine ws_mid (fun e => ∃ (o : List Nat) (ps : List Int), PotOk ps ∧ o.length = n ∧ o.Nodup ∧ (∀ j ∈ o, j < n) ∧ e = [.own false (ps.map .int), .val (.int n), .val (.int w), .val (.int b), .val (.int s), .own true (((List.range n).map (ltr b s)).map .str), .val (.list ((o.map fun (j : Nat) => (j : Int)).map .int)), .no]) ?_ ?_
  · walk_at "vc"
    refine order2_w hp hn fun o ps' _ hp' g1 g2 g3 => ?_
    walk_at "vc"
    exact ⟨o, ps', hp', g1, g2, g3, rfl⟩
  rintro e ⟨o, ps, hp, hol, hond, hoj, rfl⟩
  have hget : ∀ k, k < n → o.getD k 0 < n := fun k hk => by
    rw [List.getD_eq_getElem?_getD, List.getElem?_eq_getElem (by omega)]
    exact hoj _ (List.getElem_mem _)
  have l0 : (List.range o.length).length = n := by rw [List.length_range]; exact hol
  have l1 : (pt1 w o (List.range o.length)).length = n := by unfold pt1; split <;> simp [hol]
  have l2 : (pt2 w o (pt1 w o (List.range o.length))).length = n := by unfold pt2; split <;> simp [l1]
  subst hol
  refine ws_mid (fun e => e = [.own false (ps.map .int), .val (.int o.length), .val (.int w), .val (.int b), .val (.int s), .own true (((pt1 w o (List.range o.length)).map (ltr b s)).map .str), .val (.list ((o.map fun (j : Nat) => (j : Int)).map .int)), .no]) ?_ ?_
  · by_cases hc : 0 < w ∧ 1 < o.length
    · obtain ⟨c1, c2⟩ := hc
      walk_at "vc"
      refine wo_idxNats (k := 0) (by omega) ?_
      walk_at "vc"
      refine wo_idxLs (by rw [l0]; exact hget 0 (by omega)) ?_
      walk_at "vc"
      refine wo_idxNats (k := 1) (by omega) ?_
      have := hget 1 (by omega)
      walk_at "vc"
      refine wo_ix (by omega) (by rw [List.length_map, List.length_map, l0]; omega) ?_
      walk_at "vc"
      rw [Int.toNat_natCast]
      unfold pt1
      rw [if_pos ⟨c1, c2⟩, List.map_set, List.map_set]
    · have e : pt1 w o (List.range o.length) = List.range o.length := if_neg hc
      rw [e]
      by_cases c1 : 0 < w
      · have c2 : ¬ 1 < o.length := fun c2 => hc ⟨c1, c2⟩
        walk_at "vc"
        rfl
      · walk_at "vc"
        rfl
  rintro _ rfl
  refine ws_mid (fun e => e = [.own false (ps.map .int), .val (.int o.length), .val (.int w), .val (.int b), .val (.int s), .own true (((pt2 w o (pt1 w o (List.range o.length))).map (ltr b s)).map .str), .val (.list ((o.map fun (j : Nat) => (j : Int)).map .int)), .no]) ?_ ?_
  · generalize pt1 w o (List.range o.length) = a at *
    by_cases hc : w = 2 ∧ 3 < o.length
    · obtain ⟨c1, c2⟩ := hc
      walk_at "vc"
      refine wo_idxNats (k := 2) (by omega) ?_
      walk_at "vc"
      refine wo_idxLs (by rw [l1]; exact hget 2 (by omega)) ?_
      walk_at "vc"
      refine wo_idxNats (k := 3) (by omega) ?_
      have := hget 3 (by omega)
      walk_at "vc"
      refine wo_ix (by omega) (by rw [List.length_map, List.length_map, l1]; omega) ?_
      walk_at "vc"
      rw [Int.toNat_natCast]
      unfold pt2
      rw [if_pos ⟨c1, c2⟩, List.map_set, List.map_set]
    · have e : pt2 w o a = a := if_neg hc
      rw [e]
      by_cases c1 : w = 2
      · have c2 : ¬ 3 < o.length := fun c2 => hc ⟨c1, c2⟩
        walk_at "vc"
        rfl
      · walk_at "vc"
        rfl
  rintro _ rfl
  refine ws_mid (fun e => e = [.own false (ps.map .int), .val (.int o.length), .val (.int w), .val (.int b), .val (.int s), .own true (((pat w o).map (ltr b s)).map .str), .val (.list ((o.map fun (j : Nat) => (j : Int)).map .int)), .no]) ?_ ?_
  · have hpe : pat w o = pt3 w o (pt2 w o (pt1 w o (List.range o.length))) := rfl
    rw [hpe]
    generalize pt2 w o (pt1 w o (List.range o.length)) = a at *
    by_cases hc : w = 3 ∧ 2 < o.length
    · obtain ⟨c1, c2⟩ := hc
      walk_at "vc"
      refine wo_idxNats (k := 0) (by omega) ?_
      walk_at "vc"
      refine wo_idxLs (by rw [l2]; exact hget 0 (by omega)) ?_
      walk_at "vc"
      refine wo_idxNats (k := 2) (by omega) ?_
      have := hget 2 (by omega)
      walk_at "vc"
      refine wo_ix (by omega) (by rw [List.length_map, List.length_map, l2]; omega) ?_
      walk_at "vc"
      rw [Int.toNat_natCast]
      unfold pt3
      rw [if_pos ⟨c1, c2⟩, List.map_set, List.map_set]
    · have e : pt3 w o a = a := if_neg hc
      rw [e]
      by_cases c1 : w = 3
      · have c2 : ¬ 2 < o.length := fun c2 => hc ⟨c1, c2⟩
        walk_at "vc"
        rfl
      · walk_at "vc"
        rfl
  rintro _ rfl
  have hpj : ∀ j ∈ pat w o, j < o.length := fun j hj => by
    have hset : ∀ (a : List Nat) (i v : Nat), a.length = o.length → (∀ j ∈ a, j < o.length) → (∀ j ∈ a.set i (a.getD v 0), j < o.length) := fun a i v hal ha j hj => by
      rcases List.mem_or_eq_of_mem_set hj with hj | rfl
      · exact ha j hj
      · rw [List.getD_eq_getElem?_getD]
        cases hv : a[v]? with
        | none => show 0 < o.length; omega
        | some x => exact ha x (List.mem_of_getElem? hv)
    have h0 : ∀ j ∈ List.range o.length, j < o.length := fun j hj => List.mem_range.mp hj
    have h1' : ∀ j ∈ pt1 w o (List.range o.length), j < o.length := by unfold pt1; split; exact hset _ _ _ l0 h0; exact h0
    have h2' : ∀ j ∈ pt2 w o (pt1 w o (List.range o.length)), j < o.length := by unfold pt2; split; exact hset _ _ _ l1 h1'; exact h1'
    have h3' : ∀ j ∈ pt3 w o (pt2 w o (pt1 w o (List.range o.length))), j < o.length := by unfold pt3; split; exact hset _ _ _ l2 h2'; exact h2'
    exact h3' j hj
  have hpl : (pat w o).length = o.length := by
    show (pt3 w o (pt2 w o (pt1 w o (List.range o.length)))).length = _
    unfold pt3; split <;> simp [l2]
  have hcm : cntR ((pat w o).map (ltr b s)) = cntR (pat w o) := cntR_map _ _ fun i hi j hj => ltr_inj hs (by have := hpj i hi; omega) (by have := hpj j hj; omega)
  have hle := pat_le (w := w) hn hw hond hoj
  walk_at "vc"
  refine q ((pat w o).map (ltr b s)) ps _ _ hp (by rw [List.length_map]; exact hpl) (fun x hx => ?_) (by rw [hcm]; exact hle.1) fun h => by rw [hcm]; exact hle.2 h
  obtain ⟨i, _, rfl⟩ := List.mem_map.mp hx
  exact ltr_lk _ _ _
theorem clockof2_w {ps : List Int} {m : Int} {Q : D → List Sl → Prop} (hp : PotOk ps) (hm : 1 < m) (hm2 : m ≤ 10 ^ 60) (q : ∀ (hs : List Hd) (bl mir : Bool) (ps' : List Int) x, PotOk ps' → 1 ≤ hs.length → hs.length ≤ 5 → HandsOk m hs → RdOk (looksOf hs) mir → Q (clockD m hs bl mir) [.own false (ps'.map .int), x]) :
    WG g__law_clock_of [.own false (ps.map .int), .val (.int m)] Q := by
  refine wg_run rfl ?_
  unfold b__law_clock_of
  walk_at "nr"
  refine ws_mid (fun e => ∃ (n : Nat) (ps : List Int), PotOk ps ∧ 1 ≤ n ∧ n ≤ 5 ∧ e = [.own false (ps.map .int), .val (.int m), .val (.int (n : Int)), .no, .no, .no, .no, .no, .no]) ?_ ?_
  · walk_at "vc"
    refine take_w hp (by omega) (by omega) fun r ps' _ hp' hr0 hr1 => ?_
    walk_at "vc"
    exact ⟨(1 + r).toNat, _, hp', by omega, by omega, by rw [Int.toNat_of_nonneg (by omega)]⟩
  rintro e ⟨n, ps, hp, h1, hn, rfl⟩
  refine ws_mid (fun e => ∃ (w : Nat) (ps : List Int), PotOk ps ∧ w ≤ 3 ∧ e = [.own false (ps.map .int), .val (.int m), .val (.int (n : Int)), .val (.int (w : Int)), .no, .no, .no, .no, .no]) ?_ ?_
  · walk_at "vc"
    refine take_w hp (by omega) (by omega) fun r ps' _ hp' hr0 hr1 => ?_
    walk_at "vc"
    refine pick_w (xs := [0, 0, 1, 1, 2, 3]) (lo := 0) (hi := 3) (by omega) (by simp; omega) rfl (by decide) fun x h1' h2 _ => ?_
    obtain ⟨k, rfl⟩ := Int.eq_ofNat_of_zero_le h1'
    walk_at "vc"
    exact ⟨k, _, hp', by omega, rfl⟩
  rintro e ⟨w, ps, hp, hw, rfl⟩
  refine ws_mid (fun e => ∃ (xs : List Str) (ps : List Int), PotOk ps ∧ xs.length = n ∧ (∀ x ∈ xs, isLk x) ∧ cntR xs ≤ 6 ∧ (w < 2 → cntR xs ≤ 2) ∧ e = [.own false (ps.map .int), .val (.int m), .val (.int (n : Int)), .val (.int (w : Int)), .val (.list (xs.map .str)), .no, .no, .no, .no]) ?_ ?_
  · walk_at "vc"
    refine looks2_w hp h1 hn hw fun xs ps' _ _ hp' h1 h2 h3 h4 => ?_
    walk_at "vc"
    exact ⟨xs, ps', hp', h1, h2, h3, h4, rfl⟩
  rintro e ⟨xs, ps, hp, hxl, hx, hx6, hx2, rfl⟩
  walk_at "vd"
  refine ws_cut (fun e => ∃ (hs : List Hd) (ps : List Int) (x6 x7 : Sl), PotOk ps ∧ looksOf hs = xs ∧ HandsOk m hs ∧ e = [.own false (ps.map .int), .val (.int m), .val (.int (n : Int)), .val (.int (w : Int)), .val (.list (xs.map .str)), .own true (hs.map hD), x6, x7, .no]) ?_ ?_
  · refine ws_forN (fun ds k e => ∃ (hs : List Hd) (ps : List Int) (x6 x7 : Sl), PotOk ps ∧ looksOf hs = xs.take k ∧ HandsOk m hs ∧ e = [.own false (ps.map .int), .val (.int m), .val (.int (n : Int)), .val (.int (w : Int)), .val (.list (xs.map .str)), .own true (hs.map hD), x6, x7, .no]) ?_
    walk_at "vc"
    rw [Int.toNat_natCast]
    refine ⟨⟨[], ps, _, _, hp, rfl, fun h hh => (by cases hh), rfl⟩, ?_, ?_⟩
    · rintro k d e hkl hd ⟨hs, ps, x6, x7, hp, hsl, hk, rfl⟩
      obtain ⟨rfl, hk1⟩ := irange_at hd
      have hsn : hs.length = k := by
        have := congrArg List.length hsl
        rw [List.length_map, List.length_take] at this
        omega
      walk_at "vc"
      refine gear_w hp hm hm2 fun g ps' _ hp' hg0 hg1 => ?_
      walk_at "vc"
      refine start_w hp' hm hm2 fun s ps' _ hp' hs0 hs1 => ?_
      walk_at "vc"
      refine wo_idxS (ls := xs) (j := k) (by omega) ?_
      walk_at "vc"
      refine ⟨hs ++ [(g, s, xs[k]'(by omega))], ps', _, _, hp', ?_, fun h hh => ?_, by rw [List.map_append]; rfl⟩
      · unfold looksOf at hsl ⊢
        rw [List.map_append, hsl, List.take_succ_eq_append_getElem (by omega)]
        rfl
      rcases List.mem_append.mp hh with hh | hh
      · exact hk h hh
      · rw [List.mem_singleton] at hh
        subst hh
        exact ⟨hg0, hg1, hs0, hs1, hx _ (List.getElem_mem _)⟩
    · rintro e ⟨hs, ps, x6, x7, hp, hsl, hk, rfl⟩
      rw [irange_length, List.take_of_length_le (by omega)] at hsl
      exact ⟨hs, ps, _, _, hp, hsl, hk, rfl⟩
  rintro e ⟨hs, ps, x6, x7, hp, hsl, hk, rfl⟩
  have hl : hs.length = n := by rw [← hxl, ← hsl, List.length_map]
  have hR : ∀ mir : Bool, (mir = true → w < 2) → RdOk (looksOf hs) mir := fun mir h => by
    unfold RdOk
    rw [hsl]
    cases mir
    · show cntR xs * (1 + 0) ≤ 6; omega
    · have := hx2 (h rfl)
      show cntR xs * (1 + 1) ≤ 6; omega
  walk_at "vc"
  all_goals
    refine take_w hp (by omega) (by omega) fun r ps' _ hp' hr0 hr1 => ?_
    walk_at "vc"
  · refine take_w hp' (by omega) (by omega) fun r ps' _ hp' hr0 hr1 => ?_
    walk_at "vc"
    exact q hs _ _ ps' _ hp' (by omega) (by omega) hk (hR _ fun _ => by omega)
  · exact q hs _ _ ps' _ hp' (by omega) (by omega) hk (hR _ fun h => by cases h)

theorem whole_w {n : Int} {Q : D → List Sl → Prop} (q : ∀ x, Q (.bool true) [x]) : WG g__law_whole [.val (.int n)] Q := by
  refine wg_run rfl ?_
  unfold b__law_whole
  walk_at "vc"
  exact q _

section
variable {m : Int} {hs : List Hd} {bl mir : Bool} {Q : D → List Sl → Prop}
theorem form_w (hm : 0 < m) (hk : HandsOk m hs) (hl : hs.length ≤ 6) (q : ∀ x, Q (.bool true) [x]) : WG g__law_form [.val (clockD m hs bl mir)] Q := by
  refine wg_run rfl ?_
  unfold b__law_form
  walk_at "nr"
  refine ws_mid (fun e => e = [.val (clockD m hs bl mir), .no]) ?_ ?_
  · walk_at "vc"
    refine whole_w fun _ => ?_
    walk_at "vc"
    rfl
  rintro _ rfl
  refine ws_mid (fun e => ∃ x1 : Sl, e = [.val (clockD m hs bl mir), x1]) ?_ ?_
  · refine ws_for (fun _ rs e => (∀ d ∈ rs, ∃ h ∈ hs, d = hD h) ∧ ∃ x1 : Sl, e = [.val (clockD m hs bl mir), x1]) ?_
    walk_at "vc"
    refine ⟨⟨fun d hd => ?_, _, rfl⟩, ?_, ?_⟩
    · obtain ⟨h, hh, rfl⟩ := List.mem_map.mp hd
      exact ⟨h, hh, rfl⟩
    · rintro d rs e ⟨hr, x1, rfl⟩
      obtain ⟨h, hh, rfl⟩ := hr d List.mem_cons_self
      have htl := fun d hd => hr d (List.mem_cons_of_mem _ hd)
      obtain ⟨a, b, c, d, _⟩ := hk h hh
      unfold hD
      walk_at "vc"
      refine whole_w fun _ => ?_
      walk_at "vc"
      refine whole_w fun _ => ?_
      walk_at "vc"
      have e : ∀ (x y : Int) (z : Str), M.cutD [PyData.int x, .int y, .str z] none (some 2) = [.int x, .int y] := fun _ _ _ => rfl
      rw [e]
      refine wo_minT2 ?_
      walk_at "vc"
      rw [e]
      refine wo_maxT2 ?_
      walk_at "vc"
      exact ⟨htl, _, rfl⟩
    · rintro e ⟨_, x1, rfl⟩
      exact ⟨_, rfl⟩
  rintro e ⟨x1, rfl⟩
  walk_at "vc"
  exact q _
end

end Lw

namespace Lw
open PySem PySem.Spec PyProof.Rows L2 M
local macro_rules | `(tactic| walk_at "sd") => `(tactic| (first | (with_reducible assumption) | omega | (simp; done) | (simp; omega) | decide))
local macro_rules | `(tactic| walk_at "v1") => `(tactic| (first | ((with_reducible show WE _ _ _); first | with_reducible refine we_chain3 ?_ | with_reducible refine we_callNL ?_ | with_reducible refine we_callN ?_ | with_reducible refine we_c ?_ | with_reducible refine we_un ?_ | with_reducible refine we_bin ?_ | with_reducible refine we_chain ?_ | with_reducible refine we_and ?_ | with_reducible refine we_or ?_ | with_reducible refine we_not ?_ | with_reducible refine we_if ?_ | with_reducible refine we_fz ?_ | with_reducible refine we_tup ?_ | with_reducible refine we_sl ?_ | with_reducible refine we_tupRg ?_ | with_reducible refine we_bor ?_ | with_reducible refine we_call ?_ | with_reducible refine we_din ?_ | with_reducible refine we_borL ?_ | ((with_reducible apply we_v); (· rfl)) | ((with_reducible show WE (eO _) _ _); first | ((with_reducible apply we_oV); (· rfl)) | ((with_reducible apply we_oW); (· rfl)) | ((with_reducible apply we_oR); (· rfl))) | ((with_reducible show WE (eBinV _ _ _) _ _); first | ((with_reducible apply we_bV); (· rfl)) | ((with_reducible apply we_bVr); (· rfl)) | ((with_reducible apply we_bVv); (· rfl))) | ((with_reducible apply we_mut); (· rfl)) | ((with_reducible apply we_mut0); (· rfl)) | ((with_reducible apply we_dget2); (· rfl)) | ((with_reducible apply we_didx); (· rfl))) | ((with_reducible show WO _ _); first | ((with_reducible show WO (gIsO _ _) _); first | with_reducible refine wo_isON ?_ | ((with_reducible refine wo_isO (b := true) ?_ ?_); (· rfl)) | ((with_reducible refine wo_isO (b := false) ?_ ?_); (· rfl))) | with_reducible refine wo_attr ?_ | ((with_reducible show WO (valsA _) _); first | with_reducible refine vals_nil ?_ | with_reducible refine vals_v ?_) | with_reducible refine wo_isB ?_ | with_reducible refine wo_ntB ?_ | ((with_reducible show WO (backAr _ _ _) _); first | with_reducible refine back_nil ?_ | with_reducible refine back_v ?_ | with_reducible refine back_o ?_ | ((with_reducible apply back_r); (· rfl))) | ((with_reducible show WO (resArs _ _) _); first | with_reducible refine res_nil ?_ | with_reducible refine res_v ?_ | ((with_reducible apply res_r); (· rfl)) | ((with_reducible apply res_oO); (· rfl)) | ((with_reducible apply res_oR); (· rfl)) | ((with_reducible apply res_oV); (· rfl))) | ((with_reducible show WO (gAdd _ _) _); first | with_reducible refine wo_add ?_ | ((with_reducible refine wo_addL ?_ ?_); (· first | rfl | (apply fits_of; first | omega | (simp; omega)))) | ((with_reducible refine wo_addT ?_ ?_); (· first | rfl | (apply fits_of; first | omega | (simp; omega))))) | with_reducible refine wo_sub ?_ | with_reducible refine wo_neg ?_ | with_reducible refine wo_lt ?_ | with_reducible refine wo_le ?_ | with_reducible refine wo_gt ?_ | with_reducible refine wo_ge ?_ | ((with_reducible show WO (gEq _ _) _); first | with_reducible refine wo_eq ?_ | with_reducible refine wo_eqB ?_ | ((with_reducible refine wo_eqT ?_ ?_); (· decide +kernel)) | ((with_reducible refine wo_eqF ?_ ?_); (· decide +kernel))) | ((with_reducible show WO (gNe _ _) _); first | with_reducible refine wo_ne ?_ | with_reducible refine wo_neB ?_ | ((with_reducible refine wo_neT ?_ ?_); (· decide +kernel)) | ((with_reducible refine wo_neF ?_ ?_); (· decide +kernel))) | with_reducible refine wo_isN ?_ | with_reducible refine wo_ntN ?_ | ((with_reducible show WO (gLen _) _); first | with_reducible refine wo_lenL ?_ | with_reducible refine wo_lenT ?_) | with_reducible refine wo_abs ?_ | ((with_reducible show WO (gInt _) _); first | with_reducible refine wo_intB ?_ | with_reducible refine wo_intI ?_) | ((with_reducible show WO (gList _) _); first | with_reducible refine wo_listL ?_ | with_reducible refine wo_listT ?_) | ((with_reducible show WO (gTuple _) _); first | with_reducible refine wo_tupL ?_ | with_reducible refine wo_tupT ?_) | with_reducible refine wo_max ?_ | with_reducible refine wo_min ?_ | ((with_reducible show WO (gIsi _ _) _); first | with_reducible refine wo_isiI ?_ | with_reducible refine wo_isiB ?_ | ((with_reducible apply wo_isiE); (· rfl))) | ((with_reducible show WO (cutOf _ _ _) _); first | with_reducible refine wo_cutL ?_ | with_reducible refine wo_cutT ?_) | ((with_reducible show WO (gPow _ _) _); first | with_reducible refine wo_p10_60 ?_ | with_reducible refine wo_p10_18 ?_ | with_reducible refine wo_p10_30 ?_ | with_reducible refine wo_p2_24 ?_ | with_reducible refine wo_p10_8 ?_ | with_reducible refine wo_p10_19 ?_ | with_reducible refine wo_p10_55 ?_ | with_reducible refine wo_p10_59 ?_ | with_reducible refine wo_p3_30 ?_ | with_reducible refine wo_p2_40 ?_ | with_reducible refine wo_p10_54 ?_ | with_reducible refine wo_p3_13 ?_ | with_reducible refine wo_p2_20 ?_ | with_reducible refine wo_p10_57 ?_ | with_reducible refine wo_p10_40 ?_ | with_reducible refine wo_p10_61 ?_ | with_reducible refine wo_p10_50 ?_) | ((with_reducible apply wo_idxE); (· rfl)) | ((with_reducible apply wo_allE); (· rfl)) | ((with_reducible apply wo_anyE); (· rfl)) | ((with_reducible show WO (ixN _ _) _); first | ((with_reducible apply wo_ixE); (· rfl)) | ((with_reducible refine wo_ix ?_ ?_ ?_); (· walk_at "sd"); (· walk_at "sd"))) | ((with_reducible refine wo_mod ?_ ?_); (· walk_at "sd")) | ((with_reducible refine wo_div ?_ ?_ ?_); (· walk_at "sd"); (· walk_at "sd")) | ((with_reducible refine wo_mul ?_ ?_); (· first | exact mul_ok1 (by walk_at "sd") | exact mul_ok2 (by walk_at "sd") | exact mul_ok3 (by omega) (by omega))) | ((with_reducible refine wo_app ?_ ?_); (· first | rfl | (apply fits_of; first | omega | (simp; omega)))) | ((with_reducible refine wo_ext ?_ ?_); (· first | rfl | (apply fits_of; first | omega | (simp; omega))))) | ((with_reducible show WS _ _ _); first | with_reducible refine ws_try ?_ | with_reducible refine ws_retT ?_ | with_reducible refine ws_seq ?_ | with_reducible refine ws_expr ?_ | with_reducible refine ws_ret ?_ | with_reducible refine ws_retL ?_ | with_reducible refine ws_if ?_ | with_reducible refine ws_set ?_ | with_reducible refine ws_setO ?_ | with_reducible refine ws_asg ?_ | with_reducible refine ws_par ?_ | with_reducible refine ws_nil ?_ | with_reducible refine ws_retN ?_ | with_reducible refine ws_dput ?_ | with_reducible refine ws_dnew ?_ | ((with_reducible show WS (sFrz _ _) _ _); first | ((with_reducible apply ws_frz); (· rfl)) | ((with_reducible apply ws_frzV); (· rfl))) | ((with_reducible apply ws_retO); (· rfl)) | ((with_reducible apply ws_putI); (· rfl))) | ((with_reducible apply nrm_); (· (try simp only [wipeE, backE, List.set_cons_zero, List.set_cons_succ, List.getElem?_cons_zero, List.getElem?_cons_succ, List.cons_append, List.nil_append, List.replicate_succ, List.replicate_zero, Nat.reduceSub, unowns_nil, unowns_cons, unown_own, unown_val, unown_no, unown_ro, unown_dct]); rfl)) | ((with_reducible show IfB _ _ _); first | with_reducible refine ifb_not ?_ | with_reducible refine ifb_t ?_ | with_reducible refine ifb_f ?_ | ((with_reducible refine ifb_decT ?_ ?_); (· first | (with_reducible assumption) | omega | (simp only [List.length_cons, List.length_nil]; omega))) | ((with_reducible refine ifb_decF ?_ ?_); (· first | (with_reducible assumption) | omega | (simp only [List.length_cons, List.length_nil]; omega))) | with_reducible refine ifb_dec (fun _ => ?_) (fun _ => ?_) | ((with_reducible apply ifb_eT); (· rfl)) | ((with_reducible apply ifb_eF); (· rfl))) | ((with_reducible show WB _ _ _); first | with_reducible refine wb_bor ?_ | with_reducible refine wb_v ?_ | with_reducible refine wb_and ?_ | with_reducible refine wb_or ?_ | with_reducible refine wb_not ?_ | with_reducible refine wb_yes ?_) | with_reducible refine isb ?_ | ((with_reducible show WL _ _ _); first | with_reducible refine wl_nil ?_ | with_reducible refine wl_cons ?_ | with_reducible refine wl_lst ?_ | with_reducible refine wl_un ?_ | with_reducible refine wl_it ?_ | with_reducible refine wl_rng1 ?_ | with_reducible refine wl_rng2 ?_ | with_reducible refine wl_enum ?_ | with_reducible refine wl_enumA ?_ | with_reducible refine wl_addE ?_ | with_reducible refine wl_rg1 ?_ | with_reducible refine wl_bor ?_ | with_reducible refine wl_call ?_ | ((with_reducible apply wl_addO); (· rfl)) | ((with_reducible show WL (lSlV _ _ _) _ _); first | ((with_reducible apply wl_slO); (· rfl)) | ((with_reducible apply wl_slR); (· rfl)))) | ((with_reducible show WA _ _ _); first | with_reducible refine wa_nil ?_ | with_reducible refine wa_v ?_ | ((with_reducible apply wa_r); (· rfl)) | ((with_reducible show WA (aO _ _) _ _); first | ((with_reducible apply wa_oR); (· rfl)) | ((with_reducible apply wa_oO); (· rfl)) | ((with_reducible apply wa_oV); (· rfl)))) | ((with_reducible show IsS _ _); first | with_reducible refine iss_l ?_ | with_reducible refine iss_t ?_) | ((with_reducible refine fit_ ?_ ?_); (· first | rfl | (apply fits_of; first | omega | (simp; omega)))) | ((with_reducible show CallG _ _ _ _); first | ((with_reducible apply cg0); (· rfl)) | ((with_reducible apply cg1); (· rfl); (· rfl))) | ((with_reducible show WT _ _ _ _); first | with_reducible refine wt_n ?_ | ((with_reducible apply wt_t); (· rfl)) | ((with_reducible apply wt_unl); (· rfl))) | ((with_reducible show WTs _ _ _ _); first | with_reducible refine wts_nil ?_ | with_reducible refine wts_cons ?_) | ((with_reducible apply own_); (· rfl)) | ((with_reducible refine sml_ ?_ ?_ ?_); (· walk_at "sd"); (· walk_at "sd")) | with_reducible refine isi_ ?_ | ((with_reducible show WNl _ _ _); first | with_reducible refine wnl_l ?_ | with_reducible refine wnl_v ?_) | ((with_reducible show WSX _ _ _); first | with_reducible refine wsx_lift ?_ | with_reducible refine wsx_seq ?_ | with_reducible refine wsx_if ?_ | with_reducible refine wsx_raise0 ?_ | with_reducible refine wsx_expr ?_ | with_reducible refine wsx_ret ?_ | with_reducible refine wsx_set ?_) | with_reducible refine wex_call ?_ | ((with_reducible show WPu _ _ _ _); first | with_reducible refine wpu_nil ?_ | with_reducible refine wpu_seq ?_ | with_reducible refine wpu_ret ?_ | with_reducible refine wpu_if ?_) | ((with_reducible show WTd _ _ _ _ _); first | with_reducible refine wtd_P ?_ | with_reducible refine wtd_G ?_ | with_reducible refine wtd_If ?_ | ((with_reducible refine wtd_K ?_ ?_); (· exact ⟨rfl, by decide⟩)) | ((with_reducible refine wtd_U ?_ ?_); (· exact ⟨rfl, by decide⟩)) | ((with_reducible refine wtd_C ?_ ?_); (· rfl)) | ((with_reducible refine wtd_A ?_ ?_ ?_); (· rfl); (· first | rfl | (apply fits_of; first | omega | (simp; omega))))) | with_reducible refine two_ ?_ | ((with_reducible show WC _ _ _ _ _ _ _); first | with_reducible refine wc_nil ?_ | with_reducible refine wc_cons ?_) | ((with_reducible show WP _ _ _); first | with_reducible refine wp_no ?_ | with_reducible refine wp_e ?_) | with_reducible refine isl ?_ | ((with_reducible show RetT _ _ _); first | ((with_reducible apply retT1); (· rfl)) | ((with_reducible apply retT2); (· rfl))) | ((with_reducible show Any _ _); first | ((with_reducible apply any_o); (· rfl)) | ((with_reducible apply any_r); (· rfl))) | ((with_reducible show CallH _ _ _ _); first | ((with_reducible apply ch0); (· rfl)) | ((with_reducible apply ch1); (· rfl); (· rfl))) | ((with_reducible apply cgx0); (· rfl))))
local macro_rules | `(tactic| walk_at "v2") => `(tactic| (first | ((with_reducible show WE _ _ _); first | with_reducible refine we_chain3 ?_ | with_reducible refine we_callNL ?_ | with_reducible refine we_callN ?_ | with_reducible refine we_c ?_ | with_reducible refine we_un ?_ | with_reducible refine we_bin ?_ | with_reducible refine we_chain ?_ | with_reducible refine we_and ?_ | with_reducible refine we_or ?_ | with_reducible refine we_not ?_ | with_reducible refine we_if ?_ | with_reducible refine we_fz ?_ | with_reducible refine we_tup ?_ | with_reducible refine we_sl ?_ | with_reducible refine we_tupRg ?_ | with_reducible refine we_bor ?_ | with_reducible refine we_call ?_ | with_reducible refine we_din ?_ | with_reducible refine we_borL ?_ | ((with_reducible apply we_v); (· rfl)) | ((with_reducible show WE (eO _) _ _); first | ((with_reducible apply we_oV); (· rfl)) | ((with_reducible apply we_oW); (· rfl)) | ((with_reducible apply we_oR); (· rfl))) | ((with_reducible show WE (eBinV _ _ _) _ _); first | ((with_reducible apply we_bV); (· rfl)) | ((with_reducible apply we_bVr); (· rfl)) | ((with_reducible apply we_bVv); (· rfl))) | ((with_reducible apply we_mut); (· rfl)) | ((with_reducible apply we_mut0); (· rfl)) | ((with_reducible apply we_dget2); (· rfl)) | ((with_reducible apply we_didx); (· rfl))) | ((with_reducible show WO _ _); first | ((with_reducible show WO (gIsO _ _) _); first | with_reducible refine wo_isON ?_ | ((with_reducible refine wo_isO (b := true) ?_ ?_); (· rfl)) | ((with_reducible refine wo_isO (b := false) ?_ ?_); (· rfl))) | with_reducible refine wo_attr ?_ | ((with_reducible show WO (valsA _) _); first | with_reducible refine vals_nil ?_ | with_reducible refine vals_v ?_) | with_reducible refine wo_isB ?_ | with_reducible refine wo_ntB ?_ | ((with_reducible show WO (backAr _ _ _) _); first | with_reducible refine back_nil ?_ | with_reducible refine back_v ?_ | with_reducible refine back_o ?_ | ((with_reducible apply back_r); (· rfl))) | ((with_reducible show WO (resArs _ _) _); first | with_reducible refine res_nil ?_ | with_reducible refine res_v ?_ | ((with_reducible apply res_r); (· rfl)) | ((with_reducible apply res_oO); (· rfl)) | ((with_reducible apply res_oR); (· rfl)) | ((with_reducible apply res_oV); (· rfl))) | ((with_reducible show WO (gAdd _ _) _); first | with_reducible refine wo_add ?_ | ((with_reducible refine wo_addL ?_ ?_); (· first | rfl | (apply fits_of; first | omega | (simp; omega)))) | ((with_reducible refine wo_addT ?_ ?_); (· first | rfl | (apply fits_of; first | omega | (simp; omega))))) | with_reducible refine wo_sub ?_ | with_reducible refine wo_neg ?_ | with_reducible refine wo_lt ?_ | with_reducible refine wo_le ?_ | with_reducible refine wo_gt ?_ | with_reducible refine wo_ge ?_ | ((with_reducible show WO (gEq _ _) _); first | with_reducible refine wo_eq ?_ | with_reducible refine wo_eqB ?_ | ((with_reducible refine wo_eqT ?_ ?_); (· decide +kernel)) | ((with_reducible refine wo_eqF ?_ ?_); (· decide +kernel))) | ((with_reducible show WO (gNe _ _) _); first | with_reducible refine wo_ne ?_ | with_reducible refine wo_neB ?_ | ((with_reducible refine wo_neT ?_ ?_); (· decide +kernel)) | ((with_reducible refine wo_neF ?_ ?_); (· decide +kernel))) | with_reducible refine wo_isN ?_ | with_reducible refine wo_ntN ?_ | ((with_reducible show WO (gLen _) _); first | with_reducible refine wo_lenL ?_ | with_reducible refine wo_lenT ?_) | with_reducible refine wo_abs ?_ | ((with_reducible show WO (gInt _) _); first | with_reducible refine wo_intB ?_ | with_reducible refine wo_intI ?_) | ((with_reducible show WO (gList _) _); first | with_reducible refine wo_listL ?_ | with_reducible refine wo_listT ?_) | ((with_reducible show WO (gTuple _) _); first | with_reducible refine wo_tupL ?_ | with_reducible refine wo_tupT ?_) | with_reducible refine wo_max ?_ | with_reducible refine wo_min ?_ | ((with_reducible show WO (gIsi _ _) _); first | with_reducible refine wo_isiI ?_ | with_reducible refine wo_isiB ?_ | ((with_reducible apply wo_isiE); (· rfl))) | ((with_reducible show WO (cutOf _ _ _) _); first | with_reducible refine wo_cutL ?_ | with_reducible refine wo_cutT ?_) | ((with_reducible show WO (gPow _ _) _); first | with_reducible refine wo_p10_60 ?_ | with_reducible refine wo_p10_18 ?_ | with_reducible refine wo_p10_30 ?_ | with_reducible refine wo_p2_24 ?_ | with_reducible refine wo_p10_8 ?_ | with_reducible refine wo_p10_19 ?_ | with_reducible refine wo_p10_55 ?_ | with_reducible refine wo_p10_59 ?_ | with_reducible refine wo_p3_30 ?_ | with_reducible refine wo_p2_40 ?_ | with_reducible refine wo_p10_54 ?_ | with_reducible refine wo_p3_13 ?_ | with_reducible refine wo_p2_20 ?_ | with_reducible refine wo_p10_57 ?_ | with_reducible refine wo_p10_40 ?_ | with_reducible refine wo_p10_61 ?_ | with_reducible refine wo_p10_50 ?_) | ((with_reducible apply wo_idxE); (· rfl)) | ((with_reducible apply wo_allE); (· rfl)) | ((with_reducible apply wo_anyE); (· rfl)) | ((with_reducible show WO (ixN _ _) _); first | ((with_reducible apply wo_ixE); (· rfl)) | ((with_reducible refine wo_ix ?_ ?_ ?_); (· walk_at "sd"); (· walk_at "sd"))) | ((with_reducible refine wo_mod ?_ ?_); (· walk_at "sd")) | ((with_reducible refine wo_div ?_ ?_ ?_); (· walk_at "sd"); (· walk_at "sd")) | ((with_reducible refine wo_mul ?_ ?_); (· first | exact mul_ok1 (by walk_at "sd") | exact mul_ok2 (by walk_at "sd") | exact mul_ok3 (by omega) (by omega))) | ((with_reducible refine wo_app ?_ ?_); (· first | rfl | (apply fits_of; first | omega | (simp; omega)))) | ((with_reducible refine wo_ext ?_ ?_); (· first | rfl | (apply fits_of; first | omega | (simp; omega))))) | ((with_reducible show WS _ _ _); first | with_reducible refine ws_try ?_ | with_reducible refine ws_retT ?_ | with_reducible refine ws_seq ?_ | with_reducible refine ws_expr ?_ | with_reducible refine ws_ret ?_ | with_reducible refine ws_retL ?_ | with_reducible refine ws_set ?_ | with_reducible refine ws_setO ?_ | with_reducible refine ws_asg ?_ | with_reducible refine ws_par ?_ | with_reducible refine ws_nil ?_ | with_reducible refine ws_retN ?_ | with_reducible refine ws_dput ?_ | with_reducible refine ws_dnew ?_ | ((with_reducible show WS (sFrz _ _) _ _); first | ((with_reducible apply ws_frz); (· rfl)) | ((with_reducible apply ws_frzV); (· rfl))) | ((with_reducible apply ws_retO); (· rfl)) | ((with_reducible apply ws_putI); (· rfl))) | ((with_reducible apply nrm_); (· (try simp only [wipeE, backE, List.set_cons_zero, List.set_cons_succ, List.getElem?_cons_zero, List.getElem?_cons_succ, List.cons_append, List.nil_append, List.replicate_succ, List.replicate_zero, Nat.reduceSub, unowns_nil, unowns_cons, unown_own, unown_val, unown_no, unown_ro, unown_dct]); rfl)) | ((with_reducible show IfB _ _ _); first | with_reducible refine ifb_not ?_ | with_reducible refine ifb_t ?_ | with_reducible refine ifb_f ?_ | ((with_reducible refine ifb_decT ?_ ?_); (· first | (with_reducible assumption) | omega | (simp only [List.length_cons, List.length_nil]; omega))) | ((with_reducible refine ifb_decF ?_ ?_); (· first | (with_reducible assumption) | omega | (simp only [List.length_cons, List.length_nil]; omega))) | with_reducible refine ifb_dec (fun _ => ?_) (fun _ => ?_) | ((with_reducible apply ifb_eT); (· rfl)) | ((with_reducible apply ifb_eF); (· rfl))) | ((with_reducible show WB _ _ _); first | with_reducible refine wb_bor ?_ | with_reducible refine wb_v ?_ | with_reducible refine wb_and ?_ | with_reducible refine wb_or ?_ | with_reducible refine wb_not ?_ | with_reducible refine wb_yes ?_) | with_reducible refine isb ?_ | ((with_reducible show WL _ _ _); first | with_reducible refine wl_nil ?_ | with_reducible refine wl_cons ?_ | with_reducible refine wl_lst ?_ | with_reducible refine wl_un ?_ | with_reducible refine wl_it ?_ | with_reducible refine wl_rng1 ?_ | with_reducible refine wl_rng2 ?_ | with_reducible refine wl_enum ?_ | with_reducible refine wl_enumA ?_ | with_reducible refine wl_addE ?_ | with_reducible refine wl_rg1 ?_ | with_reducible refine wl_bor ?_ | with_reducible refine wl_call ?_ | ((with_reducible apply wl_addO); (· rfl)) | ((with_reducible show WL (lSlV _ _ _) _ _); first | ((with_reducible apply wl_slO); (· rfl)) | ((with_reducible apply wl_slR); (· rfl)))) | ((with_reducible show WA _ _ _); first | with_reducible refine wa_nil ?_ | with_reducible refine wa_v ?_ | ((with_reducible apply wa_r); (· rfl)) | ((with_reducible show WA (aO _ _) _ _); first | ((with_reducible apply wa_oR); (· rfl)) | ((with_reducible apply wa_oO); (· rfl)) | ((with_reducible apply wa_oV); (· rfl)))) | ((with_reducible show IsS _ _); first | with_reducible refine iss_l ?_ | with_reducible refine iss_t ?_) | ((with_reducible refine fit_ ?_ ?_); (· first | rfl | (apply fits_of; first | omega | (simp; omega)))) | ((with_reducible show CallG _ _ _ _); first | ((with_reducible apply cg0); (· rfl)) | ((with_reducible apply cg1); (· rfl); (· rfl))) | ((with_reducible show WT _ _ _ _); first | with_reducible refine wt_n ?_ | ((with_reducible apply wt_t); (· rfl)) | ((with_reducible apply wt_unl); (· rfl))) | ((with_reducible show WTs _ _ _ _); first | with_reducible refine wts_nil ?_ | with_reducible refine wts_cons ?_) | ((with_reducible apply own_); (· rfl)) | ((with_reducible refine sml_ ?_ ?_ ?_); (· walk_at "sd"); (· walk_at "sd")) | with_reducible refine isi_ ?_ | ((with_reducible show WNl _ _ _); first | with_reducible refine wnl_l ?_ | with_reducible refine wnl_v ?_) | ((with_reducible show WSX _ _ _); first | with_reducible refine wsx_lift ?_ | with_reducible refine wsx_seq ?_ | with_reducible refine wsx_if ?_ | with_reducible refine wsx_raise0 ?_ | with_reducible refine wsx_expr ?_ | with_reducible refine wsx_ret ?_ | with_reducible refine wsx_set ?_) | with_reducible refine wex_call ?_ | ((with_reducible show WPu _ _ _ _); first | with_reducible refine wpu_nil ?_ | with_reducible refine wpu_seq ?_ | with_reducible refine wpu_ret ?_ | with_reducible refine wpu_if ?_) | ((with_reducible show WTd _ _ _ _ _); first | with_reducible refine wtd_P ?_ | with_reducible refine wtd_G ?_ | with_reducible refine wtd_If ?_ | ((with_reducible refine wtd_K ?_ ?_); (· exact ⟨rfl, by decide⟩)) | ((with_reducible refine wtd_U ?_ ?_); (· exact ⟨rfl, by decide⟩)) | ((with_reducible refine wtd_C ?_ ?_); (· rfl)) | ((with_reducible refine wtd_A ?_ ?_ ?_); (· rfl); (· first | rfl | (apply fits_of; first | omega | (simp; omega))))) | with_reducible refine two_ ?_ | ((with_reducible show WC _ _ _ _ _ _ _); first | with_reducible refine wc_nil ?_ | with_reducible refine wc_cons ?_) | ((with_reducible show WP _ _ _); first | with_reducible refine wp_no ?_ | with_reducible refine wp_e ?_) | with_reducible refine isl ?_ | ((with_reducible show RetT _ _ _); first | ((with_reducible apply retT1); (· rfl)) | ((with_reducible apply retT2); (· rfl))) | ((with_reducible show Any _ _); first | ((with_reducible apply any_o); (· rfl)) | ((with_reducible apply any_r); (· rfl))) | ((with_reducible show CallH _ _ _ _); first | ((with_reducible apply ch0); (· rfl)) | ((with_reducible apply ch1); (· rfl); (· rfl))) | ((with_reducible apply cgx0); (· rfl))))
local macro_rules | `(tactic| walk_at "vc") => `(tactic| (repeat' first | ((with_reducible show WE _ _ _); first | with_reducible refine we_chain3 ?_ | with_reducible refine we_callNL ?_ | with_reducible refine we_callN ?_ | with_reducible refine we_c ?_ | with_reducible refine we_un ?_ | with_reducible refine we_bin ?_ | with_reducible refine we_chain ?_ | with_reducible refine we_and ?_ | with_reducible refine we_or ?_ | with_reducible refine we_not ?_ | with_reducible refine we_if ?_ | with_reducible refine we_fz ?_ | with_reducible refine we_tup ?_ | with_reducible refine we_sl ?_ | with_reducible refine we_tupRg ?_ | with_reducible refine we_bor ?_ | with_reducible refine we_call ?_ | with_reducible refine we_din ?_ | with_reducible refine we_borL ?_ | ((with_reducible apply we_v); (· rfl)) | ((with_reducible show WE (eO _) _ _); first | ((with_reducible apply we_oV); (· rfl)) | ((with_reducible apply we_oW); (· rfl)) | ((with_reducible apply we_oR); (· rfl))) | ((with_reducible show WE (eBinV _ _ _) _ _); first | ((with_reducible apply we_bV); (· rfl)) | ((with_reducible apply we_bVr); (· rfl)) | ((with_reducible apply we_bVv); (· rfl))) | ((with_reducible apply we_mut); (· rfl)) | ((with_reducible apply we_mut0); (· rfl)) | ((with_reducible apply we_dget2); (· rfl)) | ((with_reducible apply we_didx); (· rfl))) | ((with_reducible show WO _ _); first | ((with_reducible show WO (gIsO _ _) _); first | with_reducible refine wo_isON ?_ | ((with_reducible refine wo_isO (b := true) ?_ ?_); (· rfl)) | ((with_reducible refine wo_isO (b := false) ?_ ?_); (· rfl))) | with_reducible refine wo_attr ?_ | ((with_reducible show WO (valsA _) _); first | with_reducible refine vals_nil ?_ | with_reducible refine vals_v ?_) | with_reducible refine wo_isB ?_ | with_reducible refine wo_ntB ?_ | ((with_reducible show WO (backAr _ _ _) _); first | with_reducible refine back_nil ?_ | with_reducible refine back_v ?_ | with_reducible refine back_o ?_ | ((with_reducible apply back_r); (· rfl))) | ((with_reducible show WO (resArs _ _) _); first | with_reducible refine res_nil ?_ | with_reducible refine res_v ?_ | ((with_reducible apply res_r); (· rfl)) | ((with_reducible apply res_oO); (· rfl)) | ((with_reducible apply res_oR); (· rfl)) | ((with_reducible apply res_oV); (· rfl))) | ((with_reducible show WO (gAdd _ _) _); first | with_reducible refine wo_add ?_ | ((with_reducible refine wo_addL ?_ ?_); (· first | rfl | (apply fits_of; first | omega | (simp; omega)))) | ((with_reducible refine wo_addT ?_ ?_); (· first | rfl | (apply fits_of; first | omega | (simp; omega))))) | with_reducible refine wo_sub ?_ | with_reducible refine wo_neg ?_ | with_reducible refine wo_lt ?_ | with_reducible refine wo_le ?_ | with_reducible refine wo_gt ?_ | with_reducible refine wo_ge ?_ | ((with_reducible show WO (gEq _ _) _); first | with_reducible refine wo_eq ?_ | with_reducible refine wo_eqB ?_ | ((with_reducible refine wo_eqT ?_ ?_); (· decide +kernel)) | ((with_reducible refine wo_eqF ?_ ?_); (· decide +kernel))) | ((with_reducible show WO (gNe _ _) _); first | with_reducible refine wo_ne ?_ | with_reducible refine wo_neB ?_ | ((with_reducible refine wo_neT ?_ ?_); (· decide +kernel)) | ((with_reducible refine wo_neF ?_ ?_); (· decide +kernel))) | with_reducible refine wo_isN ?_ | with_reducible refine wo_ntN ?_ | ((with_reducible show WO (gLen _) _); first | with_reducible refine wo_lenL ?_ | with_reducible refine wo_lenT ?_) | with_reducible refine wo_abs ?_ | ((with_reducible show WO (gInt _) _); first | with_reducible refine wo_intB ?_ | with_reducible refine wo_intI ?_) | ((with_reducible show WO (gList _) _); first | with_reducible refine wo_listL ?_ | with_reducible refine wo_listT ?_) | ((with_reducible show WO (gTuple _) _); first | with_reducible refine wo_tupL ?_ | with_reducible refine wo_tupT ?_) | with_reducible refine wo_max ?_ | with_reducible refine wo_min ?_ | ((with_reducible show WO (gIsi _ _) _); first | with_reducible refine wo_isiI ?_ | with_reducible refine wo_isiB ?_ | ((with_reducible apply wo_isiE); (· rfl))) | ((with_reducible show WO (cutOf _ _ _) _); first | with_reducible refine wo_cutL ?_ | with_reducible refine wo_cutT ?_) | ((with_reducible show WO (gPow _ _) _); first | with_reducible refine wo_p10_60 ?_ | with_reducible refine wo_p10_18 ?_ | with_reducible refine wo_p10_30 ?_ | with_reducible refine wo_p2_24 ?_ | with_reducible refine wo_p10_8 ?_ | with_reducible refine wo_p10_19 ?_ | with_reducible refine wo_p10_55 ?_ | with_reducible refine wo_p10_59 ?_ | with_reducible refine wo_p3_30 ?_ | with_reducible refine wo_p2_40 ?_ | with_reducible refine wo_p10_54 ?_ | with_reducible refine wo_p3_13 ?_ | with_reducible refine wo_p2_20 ?_ | with_reducible refine wo_p10_57 ?_ | with_reducible refine wo_p10_40 ?_ | with_reducible refine wo_p10_61 ?_ | with_reducible refine wo_p10_50 ?_) | ((with_reducible apply wo_idxE); (· rfl)) | ((with_reducible apply wo_allE); (· rfl)) | ((with_reducible apply wo_anyE); (· rfl)) | ((with_reducible show WO (ixN _ _) _); first | ((with_reducible apply wo_ixE); (· rfl)) | ((with_reducible refine wo_ix ?_ ?_ ?_); (· walk_at "sd"); (· walk_at "sd"))) | ((with_reducible refine wo_mod ?_ ?_); (· walk_at "sd")) | ((with_reducible refine wo_div ?_ ?_ ?_); (· walk_at "sd"); (· walk_at "sd")) | ((with_reducible refine wo_mul ?_ ?_); (· first | exact mul_ok1 (by walk_at "sd") | exact mul_ok2 (by walk_at "sd") | exact mul_ok3 (by omega) (by omega))) | ((with_reducible refine wo_app ?_ ?_); (· first | rfl | (apply fits_of; first | omega | (simp; omega)))) | ((with_reducible refine wo_ext ?_ ?_); (· first | rfl | (apply fits_of; first | omega | (simp; omega))))) | ((with_reducible show WS _ _ _); first | with_reducible refine ws_try ?_ | with_reducible refine ws_retT ?_ | with_reducible refine ws_seq ?_ | with_reducible refine ws_expr ?_ | with_reducible refine ws_ret ?_ | with_reducible refine ws_retL ?_ | with_reducible refine ws_if ?_ | with_reducible refine ws_set ?_ | with_reducible refine ws_setO ?_ | with_reducible refine ws_asg ?_ | with_reducible refine ws_par ?_ | with_reducible refine ws_nil ?_ | with_reducible refine ws_retN ?_ | with_reducible refine ws_dput ?_ | with_reducible refine ws_dnew ?_ | ((with_reducible show WS (sFrz _ _) _ _); first | ((with_reducible apply ws_frz); (· rfl)) | ((with_reducible apply ws_frzV); (· rfl))) | ((with_reducible apply ws_retO); (· rfl)) | ((with_reducible apply ws_putI); (· rfl))) | ((with_reducible apply nrm_); (· (try simp only [wipeE, backE, List.set_cons_zero, List.set_cons_succ, List.getElem?_cons_zero, List.getElem?_cons_succ, List.cons_append, List.nil_append, List.replicate_succ, List.replicate_zero, Nat.reduceSub, unowns_nil, unowns_cons, unown_own, unown_val, unown_no, unown_ro, unown_dct]); rfl)) | ((with_reducible show IfB _ _ _); first | with_reducible refine ifb_not ?_ | with_reducible refine ifb_t ?_ | with_reducible refine ifb_f ?_ | ((with_reducible refine ifb_decT ?_ ?_); (· first | (with_reducible assumption) | omega | (simp only [List.length_cons, List.length_nil]; omega))) | ((with_reducible refine ifb_decF ?_ ?_); (· first | (with_reducible assumption) | omega | (simp only [List.length_cons, List.length_nil]; omega))) | with_reducible refine ifb_dec (fun _ => ?_) (fun _ => ?_) | ((with_reducible apply ifb_eT); (· rfl)) | ((with_reducible apply ifb_eF); (· rfl))) | ((with_reducible show WB _ _ _); first | with_reducible refine wb_bor ?_ | with_reducible refine wb_v ?_ | with_reducible refine wb_and ?_ | with_reducible refine wb_or ?_ | with_reducible refine wb_not ?_ | with_reducible refine wb_yes ?_) | with_reducible refine isb ?_ | ((with_reducible show WL _ _ _); first | with_reducible refine wl_nil ?_ | with_reducible refine wl_cons ?_ | with_reducible refine wl_lst ?_ | with_reducible refine wl_un ?_ | with_reducible refine wl_it ?_ | with_reducible refine wl_rng1 ?_ | with_reducible refine wl_rng2 ?_ | with_reducible refine wl_enum ?_ | with_reducible refine wl_enumA ?_ | with_reducible refine wl_addE ?_ | with_reducible refine wl_rg1 ?_ | with_reducible refine wl_bor ?_ | with_reducible refine wl_call ?_ | ((with_reducible apply wl_addO); (· rfl)) | ((with_reducible show WL (lSlV _ _ _) _ _); first | ((with_reducible apply wl_slO); (· rfl)) | ((with_reducible apply wl_slR); (· rfl)))) | ((with_reducible show WA _ _ _); first | with_reducible refine wa_nil ?_ | with_reducible refine wa_v ?_ | ((with_reducible apply wa_r); (· rfl)) | ((with_reducible show WA (aO _ _) _ _); first | ((with_reducible apply wa_oR); (· rfl)) | ((with_reducible apply wa_oO); (· rfl)) | ((with_reducible apply wa_oV); (· rfl)))) | ((with_reducible show IsS _ _); first | with_reducible refine iss_l ?_ | with_reducible refine iss_t ?_) | ((with_reducible refine fit_ ?_ ?_); (· first | rfl | (apply fits_of; first | omega | (simp; omega)))) | ((with_reducible show CallG _ _ _ _); first | ((with_reducible apply cg0); (· rfl)) | ((with_reducible apply cg1); (· rfl); (· rfl))) | ((with_reducible show WT _ _ _ _); first | with_reducible refine wt_n ?_ | ((with_reducible apply wt_t); (· rfl)) | ((with_reducible apply wt_unl); (· rfl))) | ((with_reducible show WTs _ _ _ _); first | with_reducible refine wts_nil ?_ | with_reducible refine wts_cons ?_) | ((with_reducible apply own_); (· rfl)) | ((with_reducible refine sml_ ?_ ?_ ?_); (· walk_at "sd"); (· walk_at "sd")) | with_reducible refine isi_ ?_ | ((with_reducible show WNl _ _ _); first | with_reducible refine wnl_l ?_ | with_reducible refine wnl_v ?_) | ((with_reducible show WSX _ _ _); first | with_reducible refine wsx_lift ?_ | with_reducible refine wsx_seq ?_ | with_reducible refine wsx_if ?_ | with_reducible refine wsx_raise0 ?_ | with_reducible refine wsx_expr ?_ | with_reducible refine wsx_ret ?_ | with_reducible refine wsx_set ?_) | with_reducible refine wex_call ?_ | ((with_reducible show WPu _ _ _ _); first | with_reducible refine wpu_nil ?_ | with_reducible refine wpu_seq ?_ | with_reducible refine wpu_ret ?_ | with_reducible refine wpu_if ?_) | ((with_reducible show WTd _ _ _ _ _); first | with_reducible refine wtd_P ?_ | with_reducible refine wtd_G ?_ | with_reducible refine wtd_If ?_ | ((with_reducible refine wtd_K ?_ ?_); (· exact ⟨rfl, by decide⟩)) | ((with_reducible refine wtd_U ?_ ?_); (· exact ⟨rfl, by decide⟩)) | ((with_reducible refine wtd_C ?_ ?_); (· rfl)) | ((with_reducible refine wtd_A ?_ ?_ ?_); (· rfl); (· first | rfl | (apply fits_of; first | omega | (simp; omega))))) | with_reducible refine two_ ?_ | ((with_reducible show WC _ _ _ _ _ _ _); first | with_reducible refine wc_nil ?_ | with_reducible refine wc_cons ?_) | ((with_reducible show WP _ _ _); first | with_reducible refine wp_no ?_ | with_reducible refine wp_e ?_) | with_reducible refine isl ?_ | ((with_reducible show RetT _ _ _); first | ((with_reducible apply retT1); (· rfl)) | ((with_reducible apply retT2); (· rfl))) | ((with_reducible show Any _ _); first | ((with_reducible apply any_o); (· rfl)) | ((with_reducible apply any_r); (· rfl))) | ((with_reducible show CallH _ _ _ _); first | ((with_reducible apply ch0); (· rfl)) | ((with_reducible apply ch1); (· rfl); (· rfl))) | ((with_reducible apply cgx0); (· rfl))))
local macro_rules | `(tactic| walk_at "vd") => `(tactic| (repeat' first | ((with_reducible show WE _ _ _); first | with_reducible refine we_chain3 ?_ | with_reducible refine we_callNL ?_ | with_reducible refine we_callN ?_ | with_reducible refine we_c ?_ | with_reducible refine we_un ?_ | with_reducible refine we_bin ?_ | with_reducible refine we_chain ?_ | with_reducible refine we_and ?_ | with_reducible refine we_or ?_ | with_reducible refine we_not ?_ | with_reducible refine we_if ?_ | with_reducible refine we_fz ?_ | with_reducible refine we_tup ?_ | with_reducible refine we_sl ?_ | with_reducible refine we_tupRg ?_ | with_reducible refine we_bor ?_ | with_reducible refine we_call ?_ | with_reducible refine we_din ?_ | with_reducible refine we_borL ?_ | ((with_reducible apply we_v); (· rfl)) | ((with_reducible show WE (eO _) _ _); first | ((with_reducible apply we_oV); (· rfl)) | ((with_reducible apply we_oW); (· rfl)) | ((with_reducible apply we_oR); (· rfl))) | ((with_reducible show WE (eBinV _ _ _) _ _); first | ((with_reducible apply we_bV); (· rfl)) | ((with_reducible apply we_bVr); (· rfl)) | ((with_reducible apply we_bVv); (· rfl))) | ((with_reducible apply we_mut); (· rfl)) | ((with_reducible apply we_mut0); (· rfl)) | ((with_reducible apply we_dget2); (· rfl)) | ((with_reducible apply we_didx); (· rfl))) | ((with_reducible show WO _ _); first | ((with_reducible show WO (gIsO _ _) _); first | with_reducible refine wo_isON ?_ | ((with_reducible refine wo_isO (b := true) ?_ ?_); (· rfl)) | ((with_reducible refine wo_isO (b := false) ?_ ?_); (· rfl))) | with_reducible refine wo_attr ?_ | ((with_reducible show WO (valsA _) _); first | with_reducible refine vals_nil ?_ | with_reducible refine vals_v ?_) | with_reducible refine wo_isB ?_ | with_reducible refine wo_ntB ?_ | ((with_reducible show WO (backAr _ _ _) _); first | with_reducible refine back_nil ?_ | with_reducible refine back_v ?_ | with_reducible refine back_o ?_ | ((with_reducible apply back_r); (· rfl))) | ((with_reducible show WO (resArs _ _) _); first | with_reducible refine res_nil ?_ | with_reducible refine res_v ?_ | ((with_reducible apply res_r); (· rfl)) | ((with_reducible apply res_oO); (· rfl)) | ((with_reducible apply res_oR); (· rfl)) | ((with_reducible apply res_oV); (· rfl))) | ((with_reducible show WO (gAdd _ _) _); first | with_reducible refine wo_add ?_ | ((with_reducible refine wo_addL ?_ ?_); (· first | rfl | (apply fits_of; first | omega | (simp; omega)))) | ((with_reducible refine wo_addT ?_ ?_); (· first | rfl | (apply fits_of; first | omega | (simp; omega))))) | with_reducible refine wo_sub ?_ | with_reducible refine wo_neg ?_ | with_reducible refine wo_lt ?_ | with_reducible refine wo_le ?_ | with_reducible refine wo_gt ?_ | with_reducible refine wo_ge ?_ | ((with_reducible show WO (gEq _ _) _); first | with_reducible refine wo_eq ?_ | with_reducible refine wo_eqB ?_ | ((with_reducible refine wo_eqT ?_ ?_); (· decide +kernel)) | ((with_reducible refine wo_eqF ?_ ?_); (· decide +kernel))) | ((with_reducible show WO (gNe _ _) _); first | with_reducible refine wo_ne ?_ | with_reducible refine wo_neB ?_ | ((with_reducible refine wo_neT ?_ ?_); (· decide +kernel)) | ((with_reducible refine wo_neF ?_ ?_); (· decide +kernel))) | with_reducible refine wo_isN ?_ | with_reducible refine wo_ntN ?_ | ((with_reducible show WO (gLen _) _); first | with_reducible refine wo_lenL ?_ | with_reducible refine wo_lenT ?_) | with_reducible refine wo_abs ?_ | ((with_reducible show WO (gInt _) _); first | with_reducible refine wo_intB ?_ | with_reducible refine wo_intI ?_) | ((with_reducible show WO (gList _) _); first | with_reducible refine wo_listL ?_ | with_reducible refine wo_listT ?_) | ((with_reducible show WO (gTuple _) _); first | with_reducible refine wo_tupL ?_ | with_reducible refine wo_tupT ?_) | with_reducible refine wo_max ?_ | with_reducible refine wo_min ?_ | ((with_reducible show WO (gIsi _ _) _); first | with_reducible refine wo_isiI ?_ | with_reducible refine wo_isiB ?_ | ((with_reducible apply wo_isiE); (· rfl))) | ((with_reducible show WO (cutOf _ _ _) _); first | with_reducible refine wo_cutL ?_ | with_reducible refine wo_cutT ?_) | ((with_reducible show WO (gPow _ _) _); first | with_reducible refine wo_p10_60 ?_ | with_reducible refine wo_p10_18 ?_ | with_reducible refine wo_p10_30 ?_ | with_reducible refine wo_p2_24 ?_ | with_reducible refine wo_p10_8 ?_ | with_reducible refine wo_p10_19 ?_ | with_reducible refine wo_p10_55 ?_ | with_reducible refine wo_p10_59 ?_ | with_reducible refine wo_p3_30 ?_ | with_reducible refine wo_p2_40 ?_ | with_reducible refine wo_p10_54 ?_ | with_reducible refine wo_p3_13 ?_ | with_reducible refine wo_p2_20 ?_ | with_reducible refine wo_p10_57 ?_ | with_reducible refine wo_p10_40 ?_ | with_reducible refine wo_p10_61 ?_ | with_reducible refine wo_p10_50 ?_) | ((with_reducible apply wo_idxE); (· rfl)) | ((with_reducible apply wo_allE); (· rfl)) | ((with_reducible apply wo_anyE); (· rfl)) | ((with_reducible show WO (ixN _ _) _); first | ((with_reducible apply wo_ixE); (· rfl)) | ((with_reducible refine wo_ix ?_ ?_ ?_); (· walk_at "sd"); (· walk_at "sd"))) | ((with_reducible refine wo_mod ?_ ?_); (· walk_at "sd")) | ((with_reducible refine wo_div ?_ ?_ ?_); (· walk_at "sd"); (· walk_at "sd")) | ((with_reducible refine wo_mul ?_ ?_); (· first | exact mul_ok1 (by walk_at "sd") | exact mul_ok2 (by walk_at "sd") | exact mul_ok3 (by omega) (by omega))) | ((with_reducible refine wo_app ?_ ?_); (· first | rfl | (apply fits_of; first | omega | (simp; omega)))) | ((with_reducible refine wo_ext ?_ ?_); (· first | rfl | (apply fits_of; first | omega | (simp; omega))))) | ((with_reducible show WS _ _ _); first | with_reducible refine ws_try ?_ | with_reducible refine ws_retT ?_ | with_reducible refine ws_seq ?_ | with_reducible refine ws_expr ?_ | with_reducible refine ws_ret ?_ | with_reducible refine ws_retL ?_ | with_reducible refine ws_set ?_ | with_reducible refine ws_setO ?_ | with_reducible refine ws_asg ?_ | with_reducible refine ws_par ?_ | with_reducible refine ws_nil ?_ | with_reducible refine ws_retN ?_ | with_reducible refine ws_dput ?_ | with_reducible refine ws_dnew ?_ | ((with_reducible show WS (sFrz _ _) _ _); first | ((with_reducible apply ws_frz); (· rfl)) | ((with_reducible apply ws_frzV); (· rfl))) | ((with_reducible apply ws_retO); (· rfl)) | ((with_reducible apply ws_putI); (· rfl))) | ((with_reducible apply nrm_); (· (try simp only [wipeE, backE, List.set_cons_zero, List.set_cons_succ, List.getElem?_cons_zero, List.getElem?_cons_succ, List.cons_append, List.nil_append, List.replicate_succ, List.replicate_zero, Nat.reduceSub, unowns_nil, unowns_cons, unown_own, unown_val, unown_no, unown_ro, unown_dct]); rfl)) | ((with_reducible show IfB _ _ _); first | with_reducible refine ifb_not ?_ | with_reducible refine ifb_t ?_ | with_reducible refine ifb_f ?_ | ((with_reducible refine ifb_decT ?_ ?_); (· first | (with_reducible assumption) | omega | (simp only [List.length_cons, List.length_nil]; omega))) | ((with_reducible refine ifb_decF ?_ ?_); (· first | (with_reducible assumption) | omega | (simp only [List.length_cons, List.length_nil]; omega))) | with_reducible refine ifb_dec (fun _ => ?_) (fun _ => ?_) | ((with_reducible apply ifb_eT); (· rfl)) | ((with_reducible apply ifb_eF); (· rfl))) | ((with_reducible show WB _ _ _); first | with_reducible refine wb_bor ?_ | with_reducible refine wb_v ?_ | with_reducible refine wb_and ?_ | with_reducible refine wb_or ?_ | with_reducible refine wb_not ?_ | with_reducible refine wb_yes ?_) | with_reducible refine isb ?_ | ((with_reducible show WL _ _ _); first | with_reducible refine wl_nil ?_ | with_reducible refine wl_cons ?_ | with_reducible refine wl_lst ?_ | with_reducible refine wl_un ?_ | with_reducible refine wl_it ?_ | with_reducible refine wl_rng1 ?_ | with_reducible refine wl_rng2 ?_ | with_reducible refine wl_enum ?_ | with_reducible refine wl_enumA ?_ | with_reducible refine wl_addE ?_ | with_reducible refine wl_rg1 ?_ | with_reducible refine wl_bor ?_ | with_reducible refine wl_call ?_ | ((with_reducible apply wl_addO); (· rfl)) | ((with_reducible show WL (lSlV _ _ _) _ _); first | ((with_reducible apply wl_slO); (· rfl)) | ((with_reducible apply wl_slR); (· rfl)))) | ((with_reducible show WA _ _ _); first | with_reducible refine wa_nil ?_ | with_reducible refine wa_v ?_ | ((with_reducible apply wa_r); (· rfl)) | ((with_reducible show WA (aO _ _) _ _); first | ((with_reducible apply wa_oR); (· rfl)) | ((with_reducible apply wa_oO); (· rfl)) | ((with_reducible apply wa_oV); (· rfl)))) | ((with_reducible show IsS _ _); first | with_reducible refine iss_l ?_ | with_reducible refine iss_t ?_) | ((with_reducible refine fit_ ?_ ?_); (· first | rfl | (apply fits_of; first | omega | (simp; omega)))) | ((with_reducible show CallG _ _ _ _); first | ((with_reducible apply cg0); (· rfl)) | ((with_reducible apply cg1); (· rfl); (· rfl))) | ((with_reducible show WT _ _ _ _); first | with_reducible refine wt_n ?_ | ((with_reducible apply wt_t); (· rfl)) | ((with_reducible apply wt_unl); (· rfl))) | ((with_reducible show WTs _ _ _ _); first | with_reducible refine wts_nil ?_ | with_reducible refine wts_cons ?_) | ((with_reducible apply own_); (· rfl)) | ((with_reducible refine sml_ ?_ ?_ ?_); (· walk_at "sd"); (· walk_at "sd")) | with_reducible refine isi_ ?_ | ((with_reducible show WNl _ _ _); first | with_reducible refine wnl_l ?_ | with_reducible refine wnl_v ?_) | ((with_reducible show WSX _ _ _); first | with_reducible refine wsx_lift ?_ | with_reducible refine wsx_seq ?_ | with_reducible refine wsx_if ?_ | with_reducible refine wsx_raise0 ?_ | with_reducible refine wsx_expr ?_ | with_reducible refine wsx_ret ?_ | with_reducible refine wsx_set ?_) | with_reducible refine wex_call ?_ | ((with_reducible show WPu _ _ _ _); first | with_reducible refine wpu_nil ?_ | with_reducible refine wpu_seq ?_ | with_reducible refine wpu_ret ?_ | with_reducible refine wpu_if ?_) | ((with_reducible show WTd _ _ _ _ _); first | with_reducible refine wtd_P ?_ | with_reducible refine wtd_G ?_ | with_reducible refine wtd_If ?_ | ((with_reducible refine wtd_K ?_ ?_); (· exact ⟨rfl, by decide⟩)) | ((with_reducible refine wtd_U ?_ ?_); (· exact ⟨rfl, by decide⟩)) | ((with_reducible refine wtd_C ?_ ?_); (· rfl)) | ((with_reducible refine wtd_A ?_ ?_ ?_); (· rfl); (· first | rfl | (apply fits_of; first | omega | (simp; omega))))) | with_reducible refine two_ ?_ | ((with_reducible show WC _ _ _ _ _ _ _); first | with_reducible refine wc_nil ?_ | with_reducible refine wc_cons ?_) | ((with_reducible show WP _ _ _); first | with_reducible refine wp_no ?_ | with_reducible refine wp_e ?_) | with_reducible refine isl ?_ | ((with_reducible show RetT _ _ _); first | ((with_reducible apply retT1); (· rfl)) | ((with_reducible apply retT2); (· rfl))) | ((with_reducible show Any _ _); first | ((with_reducible apply any_o); (· rfl)) | ((with_reducible apply any_r); (· rfl))) | ((with_reducible show CallH _ _ _ _); first | ((with_reducible apply ch0); (· rfl)) | ((with_reducible apply ch1); (· rfl); (· rfl))) | ((with_reducible apply cgx0); (· rfl))))
local macro_rules | `(tactic| walk_at "nr") => `(tactic| ((with_reducible apply nrm_); (· (try simp only [wipeE, backE, List.set_cons_zero, List.set_cons_succ, List.getElem?_cons_zero, List.getElem?_cons_succ, List.cons_append, List.nil_append, List.replicate_succ, List.replicate_zero, Nat.reduceSub, unowns_nil, unowns_cons, unown_own, unown_val, unown_no, unown_ro, unown_dct]); rfl)))
local macro_rules | `(tactic| walk_at "nb") => `(tactic| simp only [wipeE, backE, List.set_cons_zero, List.set_cons_succ, List.getElem?_cons_zero, List.getElem?_cons_succ])
section
open TL
theorem move_lt {m g r D : Int} (hm : 1 < m) (hg : 0 ≤ g ∧ g < m) (hD : D * m ≤ 10 ^ 61) (r0 : 0 ≤ r) (r1 : r < D) : 0 ≤ g + m * r ∧ g + m * r < 10 ^ 61 ∧ (g + m * r) % m = g := by
  have h1 : 0 ≤ m * r := Int.mul_nonneg (by omega) r0
  have h2 : m * (r + 1) ≤ m * D := Int.mul_le_mul_of_nonneg_left (by omega) (by omega)
  have h3 : m * D = D * m := Int.mul_comm ..
  have h4 : m * (r + 1) = m * r + m := by rw [Int.mul_add, Int.mul_one]
  refine ⟨by omega, by omega, ?_⟩
  rw [Int.add_mul_emod_self_left, Int.emod_eq_of_lt hg.1 hg.2]
variable {w : World} {m : Int} {hs : List Hd} {bl mir : Bool} {Q : D → List Sl → Prop}
theorem lrows_w {ps : List Int} (hp : PotOk ps) (hm : 1 < m) (hm2 : m ≤ 10 ^ 60) (hn : hs.length ≤ 5) (hk : HandsOk m hs) (q : ∀ (hs' : List Hd) (ps' : List Int) x, PotOk ps' → hs'.length = hs.length → redH m hs' = hs → HandsT hs' → Q (.list ((trowsL m hs' bl mir).map .str)) [.own false (ps'.map .int), x]) :
    WG g__law_rows [.own false (ps.map .int), .val (clockD m hs bl mir)] Q := by
  have h0 : 0 ≤ m := by omega
  have h1 : m < 10 ^ 61 := by omega
  have hmn : m.natAbs < 10 ^ 200 := Nat.lt_of_lt_of_le (show m.natAbs < 10 ^ 61 by omega) (by decide +kernel)
  have hml := (iS_len h0 h1).2
  have e5 : ("dial " : Str).length = 5 := by decide +kernel
  have d0 : 1 ≤ (10 ^ 61 : Int) / m := (Int.le_ediv_iff_mul_le (by omega)).mpr (by omega)
  have d1 : (10 ^ 61 : Int) / m * m ≤ 10 ^ 61 := Int.ediv_mul_le _ (by omega)
  have d2 : (10 ^ 61 : Int) / m ≤ 10 ^ 61 := Int.ediv_le_self _ (by decide)
  have e61 : (10 ^ 61 : Int) = 10000000000000000000000000000000000000000000000000000000000000 := by decide
  refine wg_run rfl ?_
  unfold b__law_rows
  walk_at "nr"
  refine ws_mid (fun e => e = [.own false (ps.map .int), .val (clockD m hs bl mir), .val (.int m), .val (.tuple (hs.map hD)), .val (.bool bl), .val (.bool mir), .no, .no, .no, .no, .no]) (by walk_at "vc"; rfl) ?_
  rintro _ rfl
  refine ws_mid (fun e => e = [.own false (ps.map .int), .val (clockD m hs bl mir), .val (.int m), .val (.tuple (hs.map hD)), .val (.bool bl), .val (.bool mir), .own true ((trowsL m [] bl mir).map .str), .no, .no, .no, .no]) ?_ ?_
  · walk_at "vc"
    refine wo_strI hmn ?_
    refine wo_addST (by omega) ?_
    walk_at "vc"
    refine wo_mulIf ?_
    walk_at "vc"
    refine wo_addIf ?_
    walk_at "vc"
    refine wo_mulIf ?_
    walk_at "vc"
    refine ⟨?_, ?_⟩
    · cases bl <;> cases mir <;> rfl
    · walk_at "nr"
      cases bl <;> cases mir <;> rfl
  rintro _ rfl
  refine ws_mid (fun e => ∃ (hs' : List Hd) (ps : List Int) (x7 x8 x9 x10 : Sl), (PotOk ps ∧ hs'.length = hs.length ∧ redH m hs' = hs ∧ HandsT hs') ∧ e = [.own false (ps.map .int), .val (clockD m hs bl mir), .val (.int m), .val (.tuple (hs.map hD)), .val (.bool bl), .val (.bool mir), .own true ((trowsL m hs' bl mir).map .str), x7, x8, x9, x10]) ?_ ?_
  · refine ws_forN (fun _ k e => ∃ (hs' : List Hd) (ps : List Int) (x7 x8 x9 x10 : Sl), (PotOk ps ∧ hs'.length = k ∧ redH m hs' = hs.take k ∧ HandsT hs') ∧ e = [.own false (ps.map .int), .val (clockD m hs bl mir), .val (.int m), .val (.tuple (hs.map hD)), .val (.bool bl), .val (.bool mir), .own true ((trowsL m hs' bl mir).map .str), x7, x8, x9, x10]) ?_
    walk_at "vc"
    refine ⟨⟨[], ps, _, _, _, _, ⟨hp, rfl, rfl, fun h hh => nomatch hh⟩, rfl⟩, ?_, ?_⟩
    · rintro k d e hkl hd ⟨hs', ps, x7, x8, x9, x10, ⟨hp, g1, g2, g3⟩, rfl⟩
      rw [List.length_map] at hkl
      rw [List.getElem?_map, List.getElem?_eq_getElem hkl] at hd
      obtain rfl := Option.some.inj hd
      obtain ⟨a1, a2, a3, a4, a5⟩ := hk hs[k] (List.getElem_mem _)
      have htk : hs.take (k + 1) = hs.take k ++ [hs[k]] := List.take_succ_eq_append_getElem hkl
      have hrl := rows_len (m := m) (hs := hs') (bl := bl) (mir := mir) (by omega)
      rw [htk, ← g2]
      generalize hs[k] = h at *
      obtain ⟨g, s, x⟩ := h
      dsimp only at a1 a2 a3 a4 a5
      have c3 := lk_len a5
      have e6 : ("hand " : Str).length = 5 := by decide +kernel
      have e7 : (" " : Str).length = 1 := by decide +kernel
      rw [show hD (g, s, x) = .tuple [.int g, .int s, .str x] from rfl]
      rw [e61] at d0 d1 d2
      walk_at "vc"
      obtain ⟨dd, hdd⟩ : ∃ dd : Int, dd = 10000000000000000000000000000000000000000000000000000000000000 / m := ⟨_, rfl⟩
      rw [← hdd] at d0 d1 d2 ⊢
      refine take_w hp (by omega) (by omega) fun r1 ps _ hp r10 r11 => ?_
      obtain ⟨f1, f2, f3⟩ := move_lt hm ⟨a1, a2⟩ (by omega) r10 r11
      walk_at "vc"
      rw [← hdd]
      refine take_w hp (by omega) (by omega) fun r2 ps _ hp r20 r21 => ?_
      obtain ⟨f4, f5, f6⟩ := move_lt hm ⟨a3, a4⟩ (by omega) r20 r21
      walk_at "vc"
      generalize g + m * r1 = g' at *
      generalize s + m * r2 = s' at *
      have b1 : g'.natAbs < 10 ^ 200 := Nat.lt_of_lt_of_le (show g'.natAbs < 10 ^ 61 by omega) (by decide +kernel)
      have b2 : s'.natAbs < 10 ^ 200 := Nat.lt_of_lt_of_le (show s'.natAbs < 10 ^ 61 by omega) (by decide +kernel)
      have c1 := (iS_len f1 f2).2
      have c2 := (iS_len f4 f5).2
      refine wo_strI b1 ?_
      refine wo_addST (by omega) ?_
      walk_at "vc"
      refine wo_addST (by rw [Str.length_append]; omega) ?_
      walk_at "vc"
      refine wo_strI b2 ?_
      refine wo_addST (by rw [Str.length_append, Str.length_append]; omega) ?_
      walk_at "vc"
      refine wo_addST (by rw [Str.length_append, Str.length_append, Str.length_append]; omega) ?_
      walk_at "vc"
      refine wo_addST (by rw [Str.length_append, Str.length_append, Str.length_append, Str.length_append]; omega) ?_
      walk_at "vc"
      refine ⟨hs' ++ [(g', s', x)], ps, _, _, _, _, ⟨hp, by simp [g1], ?_, ?_⟩, by rw [trows_snoc, List.map_append]; rfl⟩
      · unfold redH at g2 ⊢
        rw [List.map_append]
        show _ ++ [(g' % m, s' % m, x)] = _
        rw [f3, f6]
      · intro h hh
        rcases List.mem_append.mp hh with h' | h'
        · exact g3 h h'
        · rw [List.mem_singleton.mp h']
          exact ⟨f1, f2, f4, f5, a5⟩
    · rintro e ⟨hs', ps, x7, x8, x9, x10, ⟨hp, g1, g2, g3⟩, rfl⟩
      rw [List.length_map] at g1 g2
      rw [List.take_length] at g2
      exact ⟨hs', ps, _, _, _, _, ⟨hp, g1, g2, g3⟩, rfl⟩
  rintro e ⟨hs', ps, x7, x8, x9, x10, ⟨hp, g1, g2, g3⟩, rfl⟩
  walk_at "vc"
  exact q hs' ps _ hp g1 g2 g3
end

end Lw

namespace Lw
open PySem PySem.Spec PyProof.Rows L2 M
local macro_rules | `(tactic| walk_at "sd") => `(tactic| (first | (with_reducible assumption) | omega | (simp; done) | (simp; omega) | decide))
local macro_rules | `(tactic| walk_at "v1") => `(tactic| (first | ((with_reducible show WE _ _ _); first | with_reducible refine we_chain3 ?_ | with_reducible refine we_callNL ?_ | with_reducible refine we_callN ?_ | with_reducible refine we_c ?_ | with_reducible refine we_un ?_ | with_reducible refine we_bin ?_ | with_reducible refine we_chain ?_ | with_reducible refine we_and ?_ | with_reducible refine we_or ?_ | with_reducible refine we_not ?_ | with_reducible refine we_if ?_ | with_reducible refine we_fz ?_ | with_reducible refine we_tup ?_ | with_reducible refine we_sl ?_ | with_reducible refine we_tupRg ?_ | with_reducible refine we_bor ?_ | with_reducible refine we_call ?_ | with_reducible refine we_din ?_ | with_reducible refine we_borL ?_ | ((with_reducible apply we_v); (· rfl)) | ((with_reducible show WE (eO _) _ _); first | ((with_reducible apply we_oV); (· rfl)) | ((with_reducible apply we_oW); (· rfl)) | ((with_reducible apply we_oR); (· rfl))) | ((with_reducible show WE (eBinV _ _ _) _ _); first | ((with_reducible apply we_bV); (· rfl)) | ((with_reducible apply we_bVr); (· rfl)) | ((with_reducible apply we_bVv); (· rfl))) | ((with_reducible apply we_mut); (· rfl)) | ((with_reducible apply we_mut0); (· rfl)) | ((with_reducible apply we_dget2); (· rfl)) | ((with_reducible apply we_didx); (· rfl))) | ((with_reducible show WO _ _); first | ((with_reducible show WO (gIsO _ _) _); first | with_reducible refine wo_isON ?_ | ((with_reducible refine wo_isO (b := true) ?_ ?_); (· rfl)) | ((with_reducible refine wo_isO (b := false) ?_ ?_); (· rfl))) | with_reducible refine wo_attr ?_ | ((with_reducible show WO (valsA _) _); first | with_reducible refine vals_nil ?_ | with_reducible refine vals_v ?_) | with_reducible refine wo_isB ?_ | with_reducible refine wo_ntB ?_ | ((with_reducible show WO (backAr _ _ _) _); first | with_reducible refine back_nil ?_ | with_reducible refine back_v ?_ | with_reducible refine back_o ?_ | ((with_reducible apply back_r); (· rfl))) | ((with_reducible show WO (resArs _ _) _); first | with_reducible refine res_nil ?_ | with_reducible refine res_v ?_ | ((with_reducible apply res_r); (· rfl)) | ((with_reducible apply res_oO); (· rfl)) | ((with_reducible apply res_oR); (· rfl)) | ((with_reducible apply res_oV); (· rfl))) | ((with_reducible show WO (gAdd _ _) _); first | with_reducible refine wo_add ?_ | ((with_reducible refine wo_addL ?_ ?_); (· first | rfl | (apply fits_of; first | omega | (simp; omega)))) | ((with_reducible refine wo_addT ?_ ?_); (· first | rfl | (apply fits_of; first | omega | (simp; omega))))) | with_reducible refine wo_sub ?_ | with_reducible refine wo_neg ?_ | with_reducible refine wo_lt ?_ | with_reducible refine wo_le ?_ | with_reducible refine wo_gt ?_ | with_reducible refine wo_ge ?_ | ((with_reducible show WO (gEq _ _) _); first | with_reducible refine wo_eq ?_ | with_reducible refine wo_eqB ?_ | ((with_reducible refine wo_eqT ?_ ?_); (· decide +kernel)) | ((with_reducible refine wo_eqF ?_ ?_); (· decide +kernel))) | ((with_reducible show WO (gNe _ _) _); first | with_reducible refine wo_ne ?_ | with_reducible refine wo_neB ?_ | ((with_reducible refine wo_neT ?_ ?_); (· decide +kernel)) | ((with_reducible refine wo_neF ?_ ?_); (· decide +kernel))) | with_reducible refine wo_isN ?_ | with_reducible refine wo_ntN ?_ | ((with_reducible show WO (gLen _) _); first | with_reducible refine wo_lenL ?_ | with_reducible refine wo_lenT ?_) | with_reducible refine wo_abs ?_ | ((with_reducible show WO (gInt _) _); first | with_reducible refine wo_intB ?_ | with_reducible refine wo_intI ?_) | ((with_reducible show WO (gList _) _); first | with_reducible refine wo_listL ?_ | with_reducible refine wo_listT ?_) | ((with_reducible show WO (gTuple _) _); first | with_reducible refine wo_tupL ?_ | with_reducible refine wo_tupT ?_) | with_reducible refine wo_max ?_ | with_reducible refine wo_min ?_ | ((with_reducible show WO (gIsi _ _) _); first | with_reducible refine wo_isiI ?_ | with_reducible refine wo_isiB ?_ | ((with_reducible apply wo_isiE); (· rfl))) | ((with_reducible show WO (cutOf _ _ _) _); first | with_reducible refine wo_cutL ?_ | with_reducible refine wo_cutT ?_) | ((with_reducible show WO (gPow _ _) _); first | with_reducible refine wo_p10_60 ?_ | with_reducible refine wo_p10_18 ?_ | with_reducible refine wo_p10_30 ?_ | with_reducible refine wo_p2_24 ?_ | with_reducible refine wo_p10_8 ?_ | with_reducible refine wo_p10_19 ?_ | with_reducible refine wo_p10_55 ?_ | with_reducible refine wo_p10_59 ?_ | with_reducible refine wo_p3_30 ?_ | with_reducible refine wo_p2_40 ?_ | with_reducible refine wo_p10_54 ?_ | with_reducible refine wo_p3_13 ?_ | with_reducible refine wo_p2_20 ?_ | with_reducible refine wo_p10_57 ?_ | with_reducible refine wo_p10_40 ?_ | with_reducible refine wo_p10_61 ?_ | with_reducible refine wo_p10_50 ?_) | ((with_reducible apply wo_idxE); (· rfl)) | ((with_reducible apply wo_allE); (· rfl)) | ((with_reducible apply wo_anyE); (· rfl)) | ((with_reducible show WO (ixN _ _) _); first | ((with_reducible apply wo_ixE); (· rfl)) | ((with_reducible refine wo_ix ?_ ?_ ?_); (· walk_at "sd"); (· walk_at "sd"))) | ((with_reducible refine wo_mod ?_ ?_); (· walk_at "sd")) | ((with_reducible refine wo_div ?_ ?_ ?_); (· walk_at "sd"); (· walk_at "sd")) | ((with_reducible refine wo_mul ?_ ?_); (· first | exact mul_ok1 (by walk_at "sd") | exact mul_ok2 (by walk_at "sd") | exact mul_ok3 (by omega) (by omega))) | ((with_reducible refine wo_app ?_ ?_); (· first | rfl | (apply fits_of; first | omega | (simp; omega)))) | ((with_reducible refine wo_ext ?_ ?_); (· first | rfl | (apply fits_of; first | omega | (simp; omega))))) | ((with_reducible show WS _ _ _); first | with_reducible refine ws_try ?_ | with_reducible refine ws_retT ?_ | with_reducible refine ws_seq ?_ | with_reducible refine ws_expr ?_ | with_reducible refine ws_ret ?_ | with_reducible refine ws_retL ?_ | with_reducible refine ws_if ?_ | with_reducible refine ws_set ?_ | with_reducible refine ws_setO ?_ | with_reducible refine ws_asg ?_ | with_reducible refine ws_par ?_ | with_reducible refine ws_nil ?_ | with_reducible refine ws_retN ?_ | with_reducible refine ws_dput ?_ | with_reducible refine ws_dnew ?_ | ((with_reducible show WS (sFrz _ _) _ _); first | ((with_reducible apply ws_frz); (· rfl)) | ((with_reducible apply ws_frzV); (· rfl))) | ((with_reducible apply ws_retO); (· rfl)) | ((with_reducible apply ws_putI); (· rfl))) | ((with_reducible apply nrm_); (· (try simp only [wipeE, backE, List.set_cons_zero, List.set_cons_succ, List.getElem?_cons_zero, List.getElem?_cons_succ, List.cons_append, List.nil_append, List.replicate_succ, List.replicate_zero, Nat.reduceSub, unowns_nil, unowns_cons, unown_own, unown_val, unown_no, unown_ro, unown_dct]); rfl)) | ((with_reducible show IfB _ _ _); first | with_reducible refine ifb_not ?_ | with_reducible refine ifb_t ?_ | with_reducible refine ifb_f ?_ | ((with_reducible refine ifb_decT ?_ ?_); (· first | (with_reducible assumption) | omega | (simp only [List.length_cons, List.length_nil]; omega))) | ((with_reducible refine ifb_decF ?_ ?_); (· first | (with_reducible assumption) | omega | (simp only [List.length_cons, List.length_nil]; omega))) | with_reducible refine ifb_dec (fun _ => ?_) (fun _ => ?_) | ((with_reducible apply ifb_eT); (· rfl)) | ((with_reducible apply ifb_eF); (· rfl))) | ((with_reducible show WB _ _ _); first | with_reducible refine wb_bor ?_ | with_reducible refine wb_v ?_ | with_reducible refine wb_and ?_ | with_reducible refine wb_or ?_ | with_reducible refine wb_not ?_ | with_reducible refine wb_yes ?_) | with_reducible refine isb ?_ | ((with_reducible show WL _ _ _); first | with_reducible refine wl_nil ?_ | with_reducible refine wl_cons ?_ | with_reducible refine wl_lst ?_ | with_reducible refine wl_un ?_ | with_reducible refine wl_it ?_ | with_reducible refine wl_rng1 ?_ | with_reducible refine wl_rng2 ?_ | with_reducible refine wl_enum ?_ | with_reducible refine wl_enumA ?_ | with_reducible refine wl_addE ?_ | with_reducible refine wl_rg1 ?_ | with_reducible refine wl_bor ?_ | with_reducible refine wl_call ?_ | ((with_reducible apply wl_addO); (· rfl)) | ((with_reducible show WL (lSlV _ _ _) _ _); first | ((with_reducible apply wl_slO); (· rfl)) | ((with_reducible apply wl_slR); (· rfl)))) | ((with_reducible show WA _ _ _); first | with_reducible refine wa_nil ?_ | with_reducible refine wa_v ?_ | ((with_reducible apply wa_r); (· rfl)) | ((with_reducible show WA (aO _ _) _ _); first | ((with_reducible apply wa_oR); (· rfl)) | ((with_reducible apply wa_oO); (· rfl)) | ((with_reducible apply wa_oV); (· rfl)))) | ((with_reducible show IsS _ _); first | with_reducible refine iss_l ?_ | with_reducible refine iss_t ?_) | ((with_reducible refine fit_ ?_ ?_); (· first | rfl | (apply fits_of; first | omega | (simp; omega)))) | ((with_reducible show CallG _ _ _ _); first | ((with_reducible apply cg0); (· rfl)) | ((with_reducible apply cg1); (· rfl); (· rfl))) | ((with_reducible show WT _ _ _ _); first | with_reducible refine wt_n ?_ | ((with_reducible apply wt_t); (· rfl)) | ((with_reducible apply wt_unl); (· rfl))) | ((with_reducible show WTs _ _ _ _); first | with_reducible refine wts_nil ?_ | with_reducible refine wts_cons ?_) | ((with_reducible apply own_); (· rfl)) | ((with_reducible refine sml_ ?_ ?_ ?_); (· walk_at "sd"); (· walk_at "sd")) | with_reducible refine isi_ ?_ | ((with_reducible show WNl _ _ _); first | with_reducible refine wnl_l ?_ | with_reducible refine wnl_v ?_) | ((with_reducible show WSX _ _ _); first | with_reducible refine wsx_lift ?_ | with_reducible refine wsx_seq ?_ | with_reducible refine wsx_if ?_ | with_reducible refine wsx_raise0 ?_ | with_reducible refine wsx_expr ?_ | with_reducible refine wsx_ret ?_ | with_reducible refine wsx_set ?_) | with_reducible refine wex_call ?_ | ((with_reducible show WPu _ _ _ _); first | with_reducible refine wpu_nil ?_ | with_reducible refine wpu_seq ?_ | with_reducible refine wpu_ret ?_ | with_reducible refine wpu_if ?_) | ((with_reducible show WTd _ _ _ _ _); first | with_reducible refine wtd_P ?_ | with_reducible refine wtd_G ?_ | with_reducible refine wtd_If ?_ | ((with_reducible refine wtd_K ?_ ?_); (· exact ⟨rfl, by decide⟩)) | ((with_reducible refine wtd_U ?_ ?_); (· exact ⟨rfl, by decide⟩)) | ((with_reducible refine wtd_C ?_ ?_); (· rfl)) | ((with_reducible refine wtd_A ?_ ?_ ?_); (· rfl); (· first | rfl | (apply fits_of; first | omega | (simp; omega))))) | with_reducible refine two_ ?_ | ((with_reducible show WC _ _ _ _ _ _ _); first | with_reducible refine wc_nil ?_ | with_reducible refine wc_cons ?_) | ((with_reducible show WP _ _ _); first | with_reducible refine wp_no ?_ | with_reducible refine wp_e ?_) | with_reducible refine isl ?_ | ((with_reducible show RetT _ _ _); first | ((with_reducible apply retT1); (· rfl)) | ((with_reducible apply retT2); (· rfl))) | ((with_reducible show Any _ _); first | ((with_reducible apply any_o); (· rfl)) | ((with_reducible apply any_r); (· rfl))) | ((with_reducible show CallH _ _ _ _); first | ((with_reducible apply ch0); (· rfl)) | ((with_reducible apply ch1); (· rfl); (· rfl))) | ((with_reducible apply cgx0); (· rfl))))
local macro_rules | `(tactic| walk_at "v2") => `(tactic| (first | ((with_reducible show WE _ _ _); first | with_reducible refine we_chain3 ?_ | with_reducible refine we_callNL ?_ | with_reducible refine we_callN ?_ | with_reducible refine we_c ?_ | with_reducible refine we_un ?_ | with_reducible refine we_bin ?_ | with_reducible refine we_chain ?_ | with_reducible refine we_and ?_ | with_reducible refine we_or ?_ | with_reducible refine we_not ?_ | with_reducible refine we_if ?_ | with_reducible refine we_fz ?_ | with_reducible refine we_tup ?_ | with_reducible refine we_sl ?_ | with_reducible refine we_tupRg ?_ | with_reducible refine we_bor ?_ | with_reducible refine we_call ?_ | with_reducible refine we_din ?_ | with_reducible refine we_borL ?_ | ((with_reducible apply we_v); (· rfl)) | ((with_reducible show WE (eO _) _ _); first | ((with_reducible apply we_oV); (· rfl)) | ((with_reducible apply we_oW); (· rfl)) | ((with_reducible apply we_oR); (· rfl))) | ((with_reducible show WE (eBinV _ _ _) _ _); first | ((with_reducible apply we_bV); (· rfl)) | ((with_reducible apply we_bVr); (· rfl)) | ((with_reducible apply we_bVv); (· rfl))) | ((with_reducible apply we_mut); (· rfl)) | ((with_reducible apply we_mut0); (· rfl)) | ((with_reducible apply we_dget2); (· rfl)) | ((with_reducible apply we_didx); (· rfl))) | ((with_reducible show WO _ _); first | ((with_reducible show WO (gIsO _ _) _); first | with_reducible refine wo_isON ?_ | ((with_reducible refine wo_isO (b := true) ?_ ?_); (· rfl)) | ((with_reducible refine wo_isO (b := false) ?_ ?_); (· rfl))) | with_reducible refine wo_attr ?_ | ((with_reducible show WO (valsA _) _); first | with_reducible refine vals_nil ?_ | with_reducible refine vals_v ?_) | with_reducible refine wo_isB ?_ | with_reducible refine wo_ntB ?_ | ((with_reducible show WO (backAr _ _ _) _); first | with_reducible refine back_nil ?_ | with_reducible refine back_v ?_ | with_reducible refine back_o ?_ | ((with_reducible apply back_r); (· rfl))) | ((with_reducible show WO (resArs _ _) _); first | with_reducible refine res_nil ?_ | with_reducible refine res_v ?_ | ((with_reducible apply res_r); (· rfl)) | ((with_reducible apply res_oO); (· rfl)) | ((with_reducible apply res_oR); (· rfl)) | ((with_reducible apply res_oV); (· rfl))) | ((with_reducible show WO (gAdd _ _) _); first | with_reducible refine wo_add ?_ | ((with_reducible refine wo_addL ?_ ?_); (· first | rfl | (apply fits_of; first | omega | (simp; omega)))) | ((with_reducible refine wo_addT ?_ ?_); (· first | rfl | (apply fits_of; first | omega | (simp; omega))))) | with_reducible refine wo_sub ?_ | with_reducible refine wo_neg ?_ | with_reducible refine wo_lt ?_ | with_reducible refine wo_le ?_ | with_reducible refine wo_gt ?_ | with_reducible refine wo_ge ?_ | ((with_reducible show WO (gEq _ _) _); first | with_reducible refine wo_eq ?_ | with_reducible refine wo_eqB ?_ | ((with_reducible refine wo_eqT ?_ ?_); (· decide +kernel)) | ((with_reducible refine wo_eqF ?_ ?_); (· decide +kernel))) | ((with_reducible show WO (gNe _ _) _); first | with_reducible refine wo_ne ?_ | with_reducible refine wo_neB ?_ | ((with_reducible refine wo_neT ?_ ?_); (· decide +kernel)) | ((with_reducible refine wo_neF ?_ ?_); (· decide +kernel))) | with_reducible refine wo_isN ?_ | with_reducible refine wo_ntN ?_ | ((with_reducible show WO (gLen _) _); first | with_reducible refine wo_lenL ?_ | with_reducible refine wo_lenT ?_) | with_reducible refine wo_abs ?_ | ((with_reducible show WO (gInt _) _); first | with_reducible refine wo_intB ?_ | with_reducible refine wo_intI ?_) | ((with_reducible show WO (gList _) _); first | with_reducible refine wo_listL ?_ | with_reducible refine wo_listT ?_) | ((with_reducible show WO (gTuple _) _); first | with_reducible refine wo_tupL ?_ | with_reducible refine wo_tupT ?_) | with_reducible refine wo_max ?_ | with_reducible refine wo_min ?_ | ((with_reducible show WO (gIsi _ _) _); first | with_reducible refine wo_isiI ?_ | with_reducible refine wo_isiB ?_ | ((with_reducible apply wo_isiE); (· rfl))) | ((with_reducible show WO (cutOf _ _ _) _); first | with_reducible refine wo_cutL ?_ | with_reducible refine wo_cutT ?_) | ((with_reducible show WO (gPow _ _) _); first | with_reducible refine wo_p10_60 ?_ | with_reducible refine wo_p10_18 ?_ | with_reducible refine wo_p10_30 ?_ | with_reducible refine wo_p2_24 ?_ | with_reducible refine wo_p10_8 ?_ | with_reducible refine wo_p10_19 ?_ | with_reducible refine wo_p10_55 ?_ | with_reducible refine wo_p10_59 ?_ | with_reducible refine wo_p3_30 ?_ | with_reducible refine wo_p2_40 ?_ | with_reducible refine wo_p10_54 ?_ | with_reducible refine wo_p3_13 ?_ | with_reducible refine wo_p2_20 ?_ | with_reducible refine wo_p10_57 ?_ | with_reducible refine wo_p10_40 ?_ | with_reducible refine wo_p10_61 ?_ | with_reducible refine wo_p10_50 ?_) | ((with_reducible apply wo_idxE); (· rfl)) | ((with_reducible apply wo_allE); (· rfl)) | ((with_reducible apply wo_anyE); (· rfl)) | ((with_reducible show WO (ixN _ _) _); first | ((with_reducible apply wo_ixE); (· rfl)) | ((with_reducible refine wo_ix ?_ ?_ ?_); (· walk_at "sd"); (· walk_at "sd"))) | ((with_reducible refine wo_mod ?_ ?_); (· walk_at "sd")) | ((with_reducible refine wo_div ?_ ?_ ?_); (· walk_at "sd"); (· walk_at "sd")) | ((with_reducible refine wo_mul ?_ ?_); (· first | exact mul_ok1 (by walk_at "sd") | exact mul_ok2 (by walk_at "sd") | exact mul_ok3 (by omega) (by omega))) | ((with_reducible refine wo_app ?_ ?_); (· first | rfl | (apply fits_of; first | omega | (simp; omega)))) | ((with_reducible refine wo_ext ?_ ?_); (· first | rfl | (apply fits_of; first | omega | (simp; omega))))) | ((with_reducible show WS _ _ _); first | with_reducible refine ws_try ?_ | with_reducible refine ws_retT ?_ | with_reducible refine ws_seq ?_ | with_reducible refine ws_expr ?_ | with_reducible refine ws_ret ?_ | with_reducible refine ws_retL ?_ | with_reducible refine ws_set ?_ | with_reducible refine ws_setO ?_ | with_reducible refine ws_asg ?_ | with_reducible refine ws_par ?_ | with_reducible refine ws_nil ?_ | with_reducible refine ws_retN ?_ | with_reducible refine ws_dput ?_ | with_reducible refine ws_dnew ?_ | ((with_reducible show WS (sFrz _ _) _ _); first | ((with_reducible apply ws_frz); (· rfl)) | ((with_reducible apply ws_frzV); (· rfl))) | ((with_reducible apply ws_retO); (· rfl)) | ((with_reducible apply ws_putI); (· rfl))) | ((with_reducible apply nrm_); (· (try simp only [wipeE, backE, List.set_cons_zero, List.set_cons_succ, List.getElem?_cons_zero, List.getElem?_cons_succ, List.cons_append, List.nil_append, List.replicate_succ, List.replicate_zero, Nat.reduceSub, unowns_nil, unowns_cons, unown_own, unown_val, unown_no, unown_ro, unown_dct]); rfl)) | ((with_reducible show IfB _ _ _); first | with_reducible refine ifb_not ?_ | with_reducible refine ifb_t ?_ | with_reducible refine ifb_f ?_ | ((with_reducible refine ifb_decT ?_ ?_); (· first | (with_reducible assumption) | omega | (simp only [List.length_cons, List.length_nil]; omega))) | ((with_reducible refine ifb_decF ?_ ?_); (· first | (with_reducible assumption) | omega | (simp only [List.length_cons, List.length_nil]; omega))) | with_reducible refine ifb_dec (fun _ => ?_) (fun _ => ?_) | ((with_reducible apply ifb_eT); (· rfl)) | ((with_reducible apply ifb_eF); (· rfl))) | ((with_reducible show WB _ _ _); first | with_reducible refine wb_bor ?_ | with_reducible refine wb_v ?_ | with_reducible refine wb_and ?_ | with_reducible refine wb_or ?_ | with_reducible refine wb_not ?_ | with_reducible refine wb_yes ?_) | with_reducible refine isb ?_ | ((with_reducible show WL _ _ _); first | with_reducible refine wl_nil ?_ | with_reducible refine wl_cons ?_ | with_reducible refine wl_lst ?_ | with_reducible refine wl_un ?_ | with_reducible refine wl_it ?_ | with_reducible refine wl_rng1 ?_ | with_reducible refine wl_rng2 ?_ | with_reducible refine wl_enum ?_ | with_reducible refine wl_enumA ?_ | with_reducible refine wl_addE ?_ | with_reducible refine wl_rg1 ?_ | with_reducible refine wl_bor ?_ | with_reducible refine wl_call ?_ | ((with_reducible apply wl_addO); (· rfl)) | ((with_reducible show WL (lSlV _ _ _) _ _); first | ((with_reducible apply wl_slO); (· rfl)) | ((with_reducible apply wl_slR); (· rfl)))) | ((with_reducible show WA _ _ _); first | with_reducible refine wa_nil ?_ | with_reducible refine wa_v ?_ | ((with_reducible apply wa_r); (· rfl)) | ((with_reducible show WA (aO _ _) _ _); first | ((with_reducible apply wa_oR); (· rfl)) | ((with_reducible apply wa_oO); (· rfl)) | ((with_reducible apply wa_oV); (· rfl)))) | ((with_reducible show IsS _ _); first | with_reducible refine iss_l ?_ | with_reducible refine iss_t ?_) | ((with_reducible refine fit_ ?_ ?_); (· first | rfl | (apply fits_of; first | omega | (simp; omega)))) | ((with_reducible show CallG _ _ _ _); first | ((with_reducible apply cg0); (· rfl)) | ((with_reducible apply cg1); (· rfl); (· rfl))) | ((with_reducible show WT _ _ _ _); first | with_reducible refine wt_n ?_ | ((with_reducible apply wt_t); (· rfl)) | ((with_reducible apply wt_unl); (· rfl))) | ((with_reducible show WTs _ _ _ _); first | with_reducible refine wts_nil ?_ | with_reducible refine wts_cons ?_) | ((with_reducible apply own_); (· rfl)) | ((with_reducible refine sml_ ?_ ?_ ?_); (· walk_at "sd"); (· walk_at "sd")) | with_reducible refine isi_ ?_ | ((with_reducible show WNl _ _ _); first | with_reducible refine wnl_l ?_ | with_reducible refine wnl_v ?_) | ((with_reducible show WSX _ _ _); first | with_reducible refine wsx_lift ?_ | with_reducible refine wsx_seq ?_ | with_reducible refine wsx_if ?_ | with_reducible refine wsx_raise0 ?_ | with_reducible refine wsx_expr ?_ | with_reducible refine wsx_ret ?_ | with_reducible refine wsx_set ?_) | with_reducible refine wex_call ?_ | ((with_reducible show WPu _ _ _ _); first | with_reducible refine wpu_nil ?_ | with_reducible refine wpu_seq ?_ | with_reducible refine wpu_ret ?_ | with_reducible refine wpu_if ?_) | ((with_reducible show WTd _ _ _ _ _); first | with_reducible refine wtd_P ?_ | with_reducible refine wtd_G ?_ | with_reducible refine wtd_If ?_ | ((with_reducible refine wtd_K ?_ ?_); (· exact ⟨rfl, by decide⟩)) | ((with_reducible refine wtd_U ?_ ?_); (· exact ⟨rfl, by decide⟩)) | ((with_reducible refine wtd_C ?_ ?_); (· rfl)) | ((with_reducible refine wtd_A ?_ ?_ ?_); (· rfl); (· first | rfl | (apply fits_of; first | omega | (simp; omega))))) | with_reducible refine two_ ?_ | ((with_reducible show WC _ _ _ _ _ _ _); first | with_reducible refine wc_nil ?_ | with_reducible refine wc_cons ?_) | ((with_reducible show WP _ _ _); first | with_reducible refine wp_no ?_ | with_reducible refine wp_e ?_) | with_reducible refine isl ?_ | ((with_reducible show RetT _ _ _); first | ((with_reducible apply retT1); (· rfl)) | ((with_reducible apply retT2); (· rfl))) | ((with_reducible show Any _ _); first | ((with_reducible apply any_o); (· rfl)) | ((with_reducible apply any_r); (· rfl))) | ((with_reducible show CallH _ _ _ _); first | ((with_reducible apply ch0); (· rfl)) | ((with_reducible apply ch1); (· rfl); (· rfl))) | ((with_reducible apply cgx0); (· rfl))))
local macro_rules | `(tactic| walk_at "vc") => `(tactic| (repeat' first | ((with_reducible show WE _ _ _); first | with_reducible refine we_chain3 ?_ | with_reducible refine we_callNL ?_ | with_reducible refine we_callN ?_ | with_reducible refine we_c ?_ | with_reducible refine we_un ?_ | with_reducible refine we_bin ?_ | with_reducible refine we_chain ?_ | with_reducible refine we_and ?_ | with_reducible refine we_or ?_ | with_reducible refine we_not ?_ | with_reducible refine we_if ?_ | with_reducible refine we_fz ?_ | with_reducible refine we_tup ?_ | with_reducible refine we_sl ?_ | with_reducible refine we_tupRg ?_ | with_reducible refine we_bor ?_ | with_reducible refine we_call ?_ | with_reducible refine we_din ?_ | with_reducible refine we_borL ?_ | ((with_reducible apply we_v); (· rfl)) | ((with_reducible show WE (eO _) _ _); first | ((with_reducible apply we_oV); (· rfl)) | ((with_reducible apply we_oW); (· rfl)) | ((with_reducible apply we_oR); (· rfl))) | ((with_reducible show WE (eBinV _ _ _) _ _); first | ((with_reducible apply we_bV); (· rfl)) | ((with_reducible apply we_bVr); (· rfl)) | ((with_reducible apply we_bVv); (· rfl))) | ((with_reducible apply we_mut); (· rfl)) | ((with_reducible apply we_mut0); (· rfl)) | ((with_reducible apply we_dget2); (· rfl)) | ((with_reducible apply we_didx); (· rfl))) | ((with_reducible show WO _ _); first | ((with_reducible show WO (gIsO _ _) _); first | with_reducible refine wo_isON ?_ | ((with_reducible refine wo_isO (b := true) ?_ ?_); (· rfl)) | ((with_reducible refine wo_isO (b := false) ?_ ?_); (· rfl))) | with_reducible refine wo_attr ?_ | ((with_reducible show WO (valsA _) _); first | with_reducible refine vals_nil ?_ | with_reducible refine vals_v ?_) | with_reducible refine wo_isB ?_ | with_reducible refine wo_ntB ?_ | ((with_reducible show WO (backAr _ _ _) _); first | with_reducible refine back_nil ?_ | with_reducible refine back_v ?_ | with_reducible refine back_o ?_ | ((with_reducible apply back_r); (· rfl))) | ((with_reducible show WO (resArs _ _) _); first | with_reducible refine res_nil ?_ | with_reducible refine res_v ?_ | ((with_reducible apply res_r); (· rfl)) | ((with_reducible apply res_oO); (· rfl)) | ((with_reducible apply res_oR); (· rfl)) | ((with_reducible apply res_oV); (· rfl))) | ((with_reducible show WO (gAdd _ _) _); first | with_reducible refine wo_add ?_ | ((with_reducible refine wo_addL ?_ ?_); (· first | rfl | (apply fits_of; first | omega | (simp; omega)))) | ((with_reducible refine wo_addT ?_ ?_); (· first | rfl | (apply fits_of; first | omega | (simp; omega))))) | with_reducible refine wo_sub ?_ | with_reducible refine wo_neg ?_ | with_reducible refine wo_lt ?_ | with_reducible refine wo_le ?_ | with_reducible refine wo_gt ?_ | with_reducible refine wo_ge ?_ | ((with_reducible show WO (gEq _ _) _); first | with_reducible refine wo_eq ?_ | with_reducible refine wo_eqB ?_ | ((with_reducible refine wo_eqT ?_ ?_); (· decide +kernel)) | ((with_reducible refine wo_eqF ?_ ?_); (· decide +kernel))) | ((with_reducible show WO (gNe _ _) _); first | with_reducible refine wo_ne ?_ | with_reducible refine wo_neB ?_ | ((with_reducible refine wo_neT ?_ ?_); (· decide +kernel)) | ((with_reducible refine wo_neF ?_ ?_); (· decide +kernel))) | with_reducible refine wo_isN ?_ | with_reducible refine wo_ntN ?_ | ((with_reducible show WO (gLen _) _); first | with_reducible refine wo_lenL ?_ | with_reducible refine wo_lenT ?_) | with_reducible refine wo_abs ?_ | ((with_reducible show WO (gInt _) _); first | with_reducible refine wo_intB ?_ | with_reducible refine wo_intI ?_) | ((with_reducible show WO (gList _) _); first | with_reducible refine wo_listL ?_ | with_reducible refine wo_listT ?_) | ((with_reducible show WO (gTuple _) _); first | with_reducible refine wo_tupL ?_ | with_reducible refine wo_tupT ?_) | with_reducible refine wo_max ?_ | with_reducible refine wo_min ?_ | ((with_reducible show WO (gIsi _ _) _); first | with_reducible refine wo_isiI ?_ | with_reducible refine wo_isiB ?_ | ((with_reducible apply wo_isiE); (· rfl))) | ((with_reducible show WO (cutOf _ _ _) _); first | with_reducible refine wo_cutL ?_ | with_reducible refine wo_cutT ?_) | ((with_reducible show WO (gPow _ _) _); first | with_reducible refine wo_p10_60 ?_ | with_reducible refine wo_p10_18 ?_ | with_reducible refine wo_p10_30 ?_ | with_reducible refine wo_p2_24 ?_ | with_reducible refine wo_p10_8 ?_ | with_reducible refine wo_p10_19 ?_ | with_reducible refine wo_p10_55 ?_ | with_reducible refine wo_p10_59 ?_ | with_reducible refine wo_p3_30 ?_ | with_reducible refine wo_p2_40 ?_ | with_reducible refine wo_p10_54 ?_ | with_reducible refine wo_p3_13 ?_ | with_reducible refine wo_p2_20 ?_ | with_reducible refine wo_p10_57 ?_ | with_reducible refine wo_p10_40 ?_ | with_reducible refine wo_p10_61 ?_ | with_reducible refine wo_p10_50 ?_) | ((with_reducible apply wo_idxE); (· rfl)) | ((with_reducible apply wo_allE); (· rfl)) | ((with_reducible apply wo_anyE); (· rfl)) | ((with_reducible show WO (ixN _ _) _); first | ((with_reducible apply wo_ixE); (· rfl)) | ((with_reducible refine wo_ix ?_ ?_ ?_); (· walk_at "sd"); (· walk_at "sd"))) | ((with_reducible refine wo_mod ?_ ?_); (· walk_at "sd")) | ((with_reducible refine wo_div ?_ ?_ ?_); (· walk_at "sd"); (· walk_at "sd")) | ((with_reducible refine wo_mul ?_ ?_); (· first | exact mul_ok1 (by walk_at "sd") | exact mul_ok2 (by walk_at "sd") | exact mul_ok3 (by omega) (by omega))) | ((with_reducible refine wo_app ?_ ?_); (· first | rfl | (apply fits_of; first | omega | (simp; omega)))) | ((with_reducible refine wo_ext ?_ ?_); (· first | rfl | (apply fits_of; first | omega | (simp; omega))))) | ((with_reducible show WS _ _ _); first | with_reducible refine ws_try ?_ | with_reducible refine ws_retT ?_ | with_reducible refine ws_seq ?_ | with_reducible refine ws_expr ?_ | with_reducible refine ws_ret ?_ | with_reducible refine ws_retL ?_ | with_reducible refine ws_if ?_ | with_reducible refine ws_set ?_ | with_reducible refine ws_setO ?_ | with_reducible refine ws_asg ?_ | with_reducible refine ws_par ?_ | with_reducible refine ws_nil ?_ | with_reducible refine ws_retN ?_ | with_reducible refine ws_dput ?_ | with_reducible refine ws_dnew ?_ | ((with_reducible show WS (sFrz _ _) _ _); first | ((with_reducible apply ws_frz); (· rfl)) | ((with_reducible apply ws_frzV); (· rfl))) | ((with_reducible apply ws_retO); (· rfl)) | ((with_reducible apply ws_putI); (· rfl))) | ((with_reducible apply nrm_); (· (try simp only [wipeE, backE, List.set_cons_zero, List.set_cons_succ, List.getElem?_cons_zero, List.getElem?_cons_succ, List.cons_append, List.nil_append, List.replicate_succ, List.replicate_zero, Nat.reduceSub, unowns_nil, unowns_cons, unown_own, unown_val, unown_no, unown_ro, unown_dct]); rfl)) | ((with_reducible show IfB _ _ _); first | with_reducible refine ifb_not ?_ | with_reducible refine ifb_t ?_ | with_reducible refine ifb_f ?_ | ((with_reducible refine ifb_decT ?_ ?_); (· first | (with_reducible assumption) | omega | (simp only [List.length_cons, List.length_nil]; omega))) | ((with_reducible refine ifb_decF ?_ ?_); (· first | (with_reducible assumption) | omega | (simp only [List.length_cons, List.length_nil]; omega))) | with_reducible refine ifb_dec (fun _ => ?_) (fun _ => ?_) | ((with_reducible apply ifb_eT); (· rfl)) | ((with_reducible apply ifb_eF); (· rfl))) | ((with_reducible show WB _ _ _); first | with_reducible refine wb_bor ?_ | with_reducible refine wb_v ?_ | with_reducible refine wb_and ?_ | with_reducible refine wb_or ?_ | with_reducible refine wb_not ?_ | with_reducible refine wb_yes ?_) | with_reducible refine isb ?_ | ((with_reducible show WL _ _ _); first | with_reducible refine wl_nil ?_ | with_reducible refine wl_cons ?_ | with_reducible refine wl_lst ?_ | with_reducible refine wl_un ?_ | with_reducible refine wl_it ?_ | with_reducible refine wl_rng1 ?_ | with_reducible refine wl_rng2 ?_ | with_reducible refine wl_enum ?_ | with_reducible refine wl_enumA ?_ | with_reducible refine wl_addE ?_ | with_reducible refine wl_rg1 ?_ | with_reducible refine wl_bor ?_ | with_reducible refine wl_call ?_ | ((with_reducible apply wl_addO); (· rfl)) | ((with_reducible show WL (lSlV _ _ _) _ _); first | ((with_reducible apply wl_slO); (· rfl)) | ((with_reducible apply wl_slR); (· rfl)))) | ((with_reducible show WA _ _ _); first | with_reducible refine wa_nil ?_ | with_reducible refine wa_v ?_ | ((with_reducible apply wa_r); (· rfl)) | ((with_reducible show WA (aO _ _) _ _); first | ((with_reducible apply wa_oR); (· rfl)) | ((with_reducible apply wa_oO); (· rfl)) | ((with_reducible apply wa_oV); (· rfl)))) | ((with_reducible show IsS _ _); first | with_reducible refine iss_l ?_ | with_reducible refine iss_t ?_) | ((with_reducible refine fit_ ?_ ?_); (· first | rfl | (apply fits_of; first | omega | (simp; omega)))) | ((with_reducible show CallG _ _ _ _); first | ((with_reducible apply cg0); (· rfl)) | ((with_reducible apply cg1); (· rfl); (· rfl))) | ((with_reducible show WT _ _ _ _); first | with_reducible refine wt_n ?_ | ((with_reducible apply wt_t); (· rfl)) | ((with_reducible apply wt_unl); (· rfl))) | ((with_reducible show WTs _ _ _ _); first | with_reducible refine wts_nil ?_ | with_reducible refine wts_cons ?_) | ((with_reducible apply own_); (· rfl)) | ((with_reducible refine sml_ ?_ ?_ ?_); (· walk_at "sd"); (· walk_at "sd")) | with_reducible refine isi_ ?_ | ((with_reducible show WNl _ _ _); first | with_reducible refine wnl_l ?_ | with_reducible refine wnl_v ?_) | ((with_reducible show WSX _ _ _); first | with_reducible refine wsx_lift ?_ | with_reducible refine wsx_seq ?_ | with_reducible refine wsx_if ?_ | with_reducible refine wsx_raise0 ?_ | with_reducible refine wsx_expr ?_ | with_reducible refine wsx_ret ?_ | with_reducible refine wsx_set ?_) | with_reducible refine wex_call ?_ | ((with_reducible show WPu _ _ _ _); first | with_reducible refine wpu_nil ?_ | with_reducible refine wpu_seq ?_ | with_reducible refine wpu_ret ?_ | with_reducible refine wpu_if ?_) | ((with_reducible show WTd _ _ _ _ _); first | with_reducible refine wtd_P ?_ | with_reducible refine wtd_G ?_ | with_reducible refine wtd_If ?_ | ((with_reducible refine wtd_K ?_ ?_); (· exact ⟨rfl, by decide⟩)) | ((with_reducible refine wtd_U ?_ ?_); (· exact ⟨rfl, by decide⟩)) | ((with_reducible refine wtd_C ?_ ?_); (· rfl)) | ((with_reducible refine wtd_A ?_ ?_ ?_); (· rfl); (· first | rfl | (apply fits_of; first | omega | (simp; omega))))) | with_reducible refine two_ ?_ | ((with_reducible show WC _ _ _ _ _ _ _); first | with_reducible refine wc_nil ?_ | with_reducible refine wc_cons ?_) | ((with_reducible show WP _ _ _); first | with_reducible refine wp_no ?_ | with_reducible refine wp_e ?_) | with_reducible refine isl ?_ | ((with_reducible show RetT _ _ _); first | ((with_reducible apply retT1); (· rfl)) | ((with_reducible apply retT2); (· rfl))) | ((with_reducible show Any _ _); first | ((with_reducible apply any_o); (· rfl)) | ((with_reducible apply any_r); (· rfl))) | ((with_reducible show CallH _ _ _ _); first | ((with_reducible apply ch0); (· rfl)) | ((with_reducible apply ch1); (· rfl); (· rfl))) | ((with_reducible apply cgx0); (· rfl))))
local macro_rules | `(tactic| walk_at "vd") => `(tactic| (repeat' first | ((with_reducible show WE _ _ _); first | with_reducible refine we_chain3 ?_ | with_reducible refine we_callNL ?_ | with_reducible refine we_callN ?_ | with_reducible refine we_c ?_ | with_reducible refine we_un ?_ | with_reducible refine we_bin ?_ | with_reducible refine we_chain ?_ | with_reducible refine we_and ?_ | with_reducible refine we_or ?_ | with_reducible refine we_not ?_ | with_reducible refine we_if ?_ | with_reducible refine we_fz ?_ | with_reducible refine we_tup ?_ | with_reducible refine we_sl ?_ | with_reducible refine we_tupRg ?_ | with_reducible refine we_bor ?_ | with_reducible refine we_call ?_ | with_reducible refine we_din ?_ | with_reducible refine we_borL ?_ | ((with_reducible apply we_v); (· rfl)) | ((with_reducible show WE (eO _) _ _); first | ((with_reducible apply we_oV); (· rfl)) | ((with_reducible apply we_oW); (· rfl)) | ((with_reducible apply we_oR); (· rfl))) | ((with_reducible show WE (eBinV _ _ _) _ _); first | ((with_reducible apply we_bV); (· rfl)) | ((with_reducible apply we_bVr); (· rfl)) | ((with_reducible apply we_bVv); (· rfl))) | ((with_reducible apply we_mut); (· rfl)) | ((with_reducible apply we_mut0); (· rfl)) | ((with_reducible apply we_dget2); (· rfl)) | ((with_reducible apply we_didx); (· rfl))) | ((with_reducible show WO _ _); first | ((with_reducible show WO (gIsO _ _) _); first | with_reducible refine wo_isON ?_ | ((with_reducible refine wo_isO (b := true) ?_ ?_); (· rfl)) | ((with_reducible refine wo_isO (b := false) ?_ ?_); (· rfl))) | with_reducible refine wo_attr ?_ | ((with_reducible show WO (valsA _) _); first | with_reducible refine vals_nil ?_ | with_reducible refine vals_v ?_) | with_reducible refine wo_isB ?_ | with_reducible refine wo_ntB ?_ | ((with_reducible show WO (backAr _ _ _) _); first | with_reducible refine back_nil ?_ | with_reducible refine back_v ?_ | with_reducible refine back_o ?_ | ((with_reducible apply back_r); (· rfl))) | ((with_reducible show WO (resArs _ _) _); first | with_reducible refine res_nil ?_ | with_reducible refine res_v ?_ | ((with_reducible apply res_r); (· rfl)) | ((with_reducible apply res_oO); (· rfl)) | ((with_reducible apply res_oR); (· rfl)) | ((with_reducible apply res_oV); (· rfl))) | ((with_reducible show WO (gAdd _ _) _); first | with_reducible refine wo_add ?_ | ((with_reducible refine wo_addL ?_ ?_); (· first | rfl | (apply fits_of; first | omega | (simp; omega)))) | ((with_reducible refine wo_addT ?_ ?_); (· first | rfl | (apply fits_of; first | omega | (simp; omega))))) | with_reducible refine wo_sub ?_ | with_reducible refine wo_neg ?_ | with_reducible refine wo_lt ?_ | with_reducible refine wo_le ?_ | with_reducible refine wo_gt ?_ | with_reducible refine wo_ge ?_ | ((with_reducible show WO (gEq _ _) _); first | with_reducible refine wo_eq ?_ | with_reducible refine wo_eqB ?_ | ((with_reducible refine wo_eqT ?_ ?_); (· decide +kernel)) | ((with_reducible refine wo_eqF ?_ ?_); (· decide +kernel))) | ((with_reducible show WO (gNe _ _) _); first | with_reducible refine wo_ne ?_ | with_reducible refine wo_neB ?_ | ((with_reducible refine wo_neT ?_ ?_); (· decide +kernel)) | ((with_reducible refine wo_neF ?_ ?_); (· decide +kernel))) | with_reducible refine wo_isN ?_ | with_reducible refine wo_ntN ?_ | ((with_reducible show WO (gLen _) _); first | with_reducible refine wo_lenL ?_ | with_reducible refine wo_lenT ?_) | with_reducible refine wo_abs ?_ | ((with_reducible show WO (gInt _) _); first | with_reducible refine wo_intB ?_ | with_reducible refine wo_intI ?_) | ((with_reducible show WO (gList _) _); first | with_reducible refine wo_listL ?_ | with_reducible refine wo_listT ?_) | ((with_reducible show WO (gTuple _) _); first | with_reducible refine wo_tupL ?_ | with_reducible refine wo_tupT ?_) | with_reducible refine wo_max ?_ | with_reducible refine wo_min ?_ | ((with_reducible show WO (gIsi _ _) _); first | with_reducible refine wo_isiI ?_ | with_reducible refine wo_isiB ?_ | ((with_reducible apply wo_isiE); (· rfl))) | ((with_reducible show WO (cutOf _ _ _) _); first | with_reducible refine wo_cutL ?_ | with_reducible refine wo_cutT ?_) | ((with_reducible show WO (gPow _ _) _); first | with_reducible refine wo_p10_60 ?_ | with_reducible refine wo_p10_18 ?_ | with_reducible refine wo_p10_30 ?_ | with_reducible refine wo_p2_24 ?_ | with_reducible refine wo_p10_8 ?_ | with_reducible refine wo_p10_19 ?_ | with_reducible refine wo_p10_55 ?_ | with_reducible refine wo_p10_59 ?_ | with_reducible refine wo_p3_30 ?_ | with_reducible refine wo_p2_40 ?_ | with_reducible refine wo_p10_54 ?_ | with_reducible refine wo_p3_13 ?_ | with_reducible refine wo_p2_20 ?_ | with_reducible refine wo_p10_57 ?_ | with_reducible refine wo_p10_40 ?_ | with_reducible refine wo_p10_61 ?_ | with_reducible refine wo_p10_50 ?_) | ((with_reducible apply wo_idxE); (· rfl)) | ((with_reducible apply wo_allE); (· rfl)) | ((with_reducible apply wo_anyE); (· rfl)) | ((with_reducible show WO (ixN _ _) _); first | ((with_reducible apply wo_ixE); (· rfl)) | ((with_reducible refine wo_ix ?_ ?_ ?_); (· walk_at "sd"); (· walk_at "sd"))) | ((with_reducible refine wo_mod ?_ ?_); (· walk_at "sd")) | ((with_reducible refine wo_div ?_ ?_ ?_); (· walk_at "sd"); (· walk_at "sd")) | ((with_reducible refine wo_mul ?_ ?_); (· first | exact mul_ok1 (by walk_at "sd") | exact mul_ok2 (by walk_at "sd") | exact mul_ok3 (by omega) (by omega))) | ((with_reducible refine wo_app ?_ ?_); (· first | rfl | (apply fits_of; first | omega | (simp; omega)))) | ((with_reducible refine wo_ext ?_ ?_); (· first | rfl | (apply fits_of; first | omega | (simp; omega))))) | ((with_reducible show WS _ _ _); first | with_reducible refine ws_try ?_ | with_reducible refine ws_retT ?_ | with_reducible refine ws_seq ?_ | with_reducible refine ws_expr ?_ | with_reducible refine ws_ret ?_ | with_reducible refine ws_retL ?_ | with_reducible refine ws_set ?_ | with_reducible refine ws_setO ?_ | with_reducible refine ws_asg ?_ | with_reducible refine ws_par ?_ | with_reducible refine ws_nil ?_ | with_reducible refine ws_retN ?_ | with_reducible refine ws_dput ?_ | with_reducible refine ws_dnew ?_ | ((with_reducible show WS (sFrz _ _) _ _); first | ((with_reducible apply ws_frz); (· rfl)) | ((with_reducible apply ws_frzV); (· rfl))) | ((with_reducible apply ws_retO); (· rfl)) | ((with_reducible apply ws_putI); (· rfl))) | ((with_reducible apply nrm_); (· (try simp only [wipeE, backE, List.set_cons_zero, List.set_cons_succ, List.getElem?_cons_zero, List.getElem?_cons_succ, List.cons_append, List.nil_append, List.replicate_succ, List.replicate_zero, Nat.reduceSub, unowns_nil, unowns_cons, unown_own, unown_val, unown_no, unown_ro, unown_dct]); rfl)) | ((with_reducible show IfB _ _ _); first | with_reducible refine ifb_not ?_ | with_reducible refine ifb_t ?_ | with_reducible refine ifb_f ?_ | ((with_reducible refine ifb_decT ?_ ?_); (· first | (with_reducible assumption) | omega | (simp only [List.length_cons, List.length_nil]; omega))) | ((with_reducible refine ifb_decF ?_ ?_); (· first | (with_reducible assumption) | omega | (simp only [List.length_cons, List.length_nil]; omega))) | with_reducible refine ifb_dec (fun _ => ?_) (fun _ => ?_) | ((with_reducible apply ifb_eT); (· rfl)) | ((with_reducible apply ifb_eF); (· rfl))) | ((with_reducible show WB _ _ _); first | with_reducible refine wb_bor ?_ | with_reducible refine wb_v ?_ | with_reducible refine wb_and ?_ | with_reducible refine wb_or ?_ | with_reducible refine wb_not ?_ | with_reducible refine wb_yes ?_) | with_reducible refine isb ?_ | ((with_reducible show WL _ _ _); first | with_reducible refine wl_nil ?_ | with_reducible refine wl_cons ?_ | with_reducible refine wl_lst ?_ | with_reducible refine wl_un ?_ | with_reducible refine wl_it ?_ | with_reducible refine wl_rng1 ?_ | with_reducible refine wl_rng2 ?_ | with_reducible refine wl_enum ?_ | with_reducible refine wl_enumA ?_ | with_reducible refine wl_addE ?_ | with_reducible refine wl_rg1 ?_ | with_reducible refine wl_bor ?_ | with_reducible refine wl_call ?_ | ((with_reducible apply wl_addO); (· rfl)) | ((with_reducible show WL (lSlV _ _ _) _ _); first | ((with_reducible apply wl_slO); (· rfl)) | ((with_reducible apply wl_slR); (· rfl)))) | ((with_reducible show WA _ _ _); first | with_reducible refine wa_nil ?_ | with_reducible refine wa_v ?_ | ((with_reducible apply wa_r); (· rfl)) | ((with_reducible show WA (aO _ _) _ _); first | ((with_reducible apply wa_oR); (· rfl)) | ((with_reducible apply wa_oO); (· rfl)) | ((with_reducible apply wa_oV); (· rfl)))) | ((with_reducible show IsS _ _); first | with_reducible refine iss_l ?_ | with_reducible refine iss_t ?_) | ((with_reducible refine fit_ ?_ ?_); (· first | rfl | (apply fits_of; first | omega | (simp; omega)))) | ((with_reducible show CallG _ _ _ _); first | ((with_reducible apply cg0); (· rfl)) | ((with_reducible apply cg1); (· rfl); (· rfl))) | ((with_reducible show WT _ _ _ _); first | with_reducible refine wt_n ?_ | ((with_reducible apply wt_t); (· rfl)) | ((with_reducible apply wt_unl); (· rfl))) | ((with_reducible show WTs _ _ _ _); first | with_reducible refine wts_nil ?_ | with_reducible refine wts_cons ?_) | ((with_reducible apply own_); (· rfl)) | ((with_reducible refine sml_ ?_ ?_ ?_); (· walk_at "sd"); (· walk_at "sd")) | with_reducible refine isi_ ?_ | ((with_reducible show WNl _ _ _); first | with_reducible refine wnl_l ?_ | with_reducible refine wnl_v ?_) | ((with_reducible show WSX _ _ _); first | with_reducible refine wsx_lift ?_ | with_reducible refine wsx_seq ?_ | with_reducible refine wsx_if ?_ | with_reducible refine wsx_raise0 ?_ | with_reducible refine wsx_expr ?_ | with_reducible refine wsx_ret ?_ | with_reducible refine wsx_set ?_) | with_reducible refine wex_call ?_ | ((with_reducible show WPu _ _ _ _); first | with_reducible refine wpu_nil ?_ | with_reducible refine wpu_seq ?_ | with_reducible refine wpu_ret ?_ | with_reducible refine wpu_if ?_) | ((with_reducible show WTd _ _ _ _ _); first | with_reducible refine wtd_P ?_ | with_reducible refine wtd_G ?_ | with_reducible refine wtd_If ?_ | ((with_reducible refine wtd_K ?_ ?_); (· exact ⟨rfl, by decide⟩)) | ((with_reducible refine wtd_U ?_ ?_); (· exact ⟨rfl, by decide⟩)) | ((with_reducible refine wtd_C ?_ ?_); (· rfl)) | ((with_reducible refine wtd_A ?_ ?_ ?_); (· rfl); (· first | rfl | (apply fits_of; first | omega | (simp; omega))))) | with_reducible refine two_ ?_ | ((with_reducible show WC _ _ _ _ _ _ _); first | with_reducible refine wc_nil ?_ | with_reducible refine wc_cons ?_) | ((with_reducible show WP _ _ _); first | with_reducible refine wp_no ?_ | with_reducible refine wp_e ?_) | with_reducible refine isl ?_ | ((with_reducible show RetT _ _ _); first | ((with_reducible apply retT1); (· rfl)) | ((with_reducible apply retT2); (· rfl))) | ((with_reducible show Any _ _); first | ((with_reducible apply any_o); (· rfl)) | ((with_reducible apply any_r); (· rfl))) | ((with_reducible show CallH _ _ _ _); first | ((with_reducible apply ch0); (· rfl)) | ((with_reducible apply ch1); (· rfl); (· rfl))) | ((with_reducible apply cgx0); (· rfl))))
local macro_rules | `(tactic| walk_at "nr") => `(tactic| ((with_reducible apply nrm_); (· (try simp only [wipeE, backE, List.set_cons_zero, List.set_cons_succ, List.getElem?_cons_zero, List.getElem?_cons_succ, List.cons_append, List.nil_append, List.replicate_succ, List.replicate_zero, Nat.reduceSub, unowns_nil, unowns_cons, unown_own, unown_val, unown_no, unown_ro, unown_dct]); rfl)))
local macro_rules | `(tactic| walk_at "nb") => `(tactic| simp only [wipeE, backE, List.set_cons_zero, List.set_cons_succ, List.getElem?_cons_zero, List.getElem?_cons_succ])
section
open TL
theorem strOk_text {m : Int} {hs : List Hd} {bl mir : Bool} (h0 : 0 ≤ m) (hk : HandsT hs) : PyData.strOk (textS m hs bl mir) = true := strOk_tl fun c hc => by
  unfold textS at hc
  rw [join_eq, tl_join] at hc
  have hrow : ∀ y ∈ trowsL m hs bl mir, ∀ c ∈ tl y, c < 1114112 := by
    clear hc
    intro y hy c hc
    unfold trowsL at hy
    simp only [List.mem_append, List.mem_singleton, List.mem_map] at hy
    rcases hy with ((rfl | hy) | hy) | ⟨h, hh, rfl⟩
    · unfold rowM at hc
      simp only [tl_append, List.mem_append] at hc
      rcases hc with hc | hc
      · have : ∀ c ∈ tl "dial ", c < 1114112 := by decide +kernel
        exact this c hc
      · rw [tl_iS h0] at hc
        have := numL_digits _ c hc; omega
    · cases bl
      · cases hy
      · rw [List.mem_singleton.mp hy] at hc
        have : ∀ c ∈ tl "blank", c < 1114112 := by decide +kernel
        exact this c hc
    · cases mir
      · cases hy
      · rw [List.mem_singleton.mp hy] at hc
        have : ∀ c ∈ tl "mirror", c < 1114112 := by decide +kernel
        exact this c hc
    · obtain ⟨a1, _, a3, _, a5⟩ := hk h hh
      have h := strOk_rowH a1 a3 a5
      unfold PyData.strOk at h
      rw [← Array.all_toList, List.all_eq_true] at h
      exact of_decide_eq_true (h c hc)
  generalize trowsL m hs bl mir = ys at *
  induction ys with
  | nil => exact absurd hc (by simp [joinL])
  | cons y ys ih =>
    cases ys with
    | nil => exact hrow y List.mem_cons_self c hc
    | cons z r =>
      have hc : c ∈ tl y ++ (tl "\n" ++ joinL (tl "\n") ((z :: r).map tl)) := hc
      rcases List.mem_append.mp hc with h | h
      · exact hrow y List.mem_cons_self c h
      · rcases List.mem_append.mp h with h | h
        · have : ∀ c ∈ tl "\n", c < 1114112 := by decide +kernel
          exact this c h
        · exact ih h fun y hy => hrow y (List.mem_cons_of_mem _ hy)
end
theorem law_true : ∀ (w : World) (ns : List Int), ns.length ≤ 63 → ∃ args', g_law w [.ro (ns.map .int)] = some (.bool true, args') := by
  intro w ns hl
  suffices h : WG (g_law w) [.ro (ns.map .int)] (fun d _ => d = .bool true) by
    obtain ⟨d, a, e, rfl⟩ := h
    exact ⟨a, e⟩
  refine wg_run rfl ?_
  unfold b_law
  walk_at "nr"
  refine ws_mid (fun e => ∃ x1 x2 x3 x4 x5 x6 x7 x8 x9 x10 x11 x12 x13 x14 x15 : Sl, e = [.ro (ns.map .int), x1, x2, x3, x4, x5, x6, x7, x8, x9, x10, x11, x12, x13, x14, x15]) ?_ ?_
  · refine ws_for (fun _ rs e => (∀ d ∈ rs, ∃ k c : Int, d = .tuple [.int k, .int c]) ∧ ∃ x1 x2 x3 x4 x5 x6 x7 x8 x9 x10 x11 x12 x13 x14 x15 : Sl, e = [.ro (ns.map .int), x1, x2, x3, x4, x5, x6, x7, x8, x9, x10, x11, x12, x13, x14, x15]) ?_
    walk_at "vc"
    refine cells_w (m := 8) (by omega) (by omega) fun cs x y hc => ?_
    walk_at "vc"
    refine ⟨⟨fun d hd => ?_, _, _, _, _, _, _, _, _, _, _, _, _, _, _, _, rfl⟩, ?_, ?_⟩
    · obtain ⟨x, y, rfl, hx, hy⟩ := pairs_mem hd
      obtain ⟨i, rfl, hi, _⟩ := irange_zero hx
      obtain ⟨n, rfl⟩ := ints_mem hy
      exact ⟨i, n, rfl⟩
    · rintro d rs e ⟨h, x1, x2, x3, x4, x5, x6, x7, x8, x9, x10, x11, x12, x13, x14, x15, rfl⟩
      obtain ⟨k, c, rfl⟩ := h d List.mem_cons_self
      have htl := fun d hd => h d (List.mem_cons_of_mem _ hd)
      walk_at "vd"
      refine pot_w fun ps _ _ hp => ?_
      walk_at "vd"
      refine many_w hp fun m ps hp hm hm2 => ?_
      walk_at "vd"
      refine clockof2_w hp hm hm2 fun hs bl mir ps _ hp h1 hn hk hR => ?_
      have h0 : 0 ≤ m := by omega
      have hm1 : m < 10 ^ 61 := by omega
      have hmn : m.natAbs < 10 ^ 200 := Nat.lt_of_lt_of_le (show m.natAbs < 10 ^ 61 by omega) (by decide +kernel)
      have hml := (iS_len h0 hm1).2
      have e5 : ("dial " : Str).length = 5 := by decide +kernel
      have hkT : HandsT hs := fun h hh => by
        obtain ⟨a1, a2, a3, a4, a5⟩ := hk h hh
        exact ⟨a1, by omega, a3, by omega, a5⟩
      walk_at "vd"
      refine wo_strI hmn ?_
      refine wo_addST (by omega) ?_
      walk_at "vd"
      refine ws_cut (fun e => e = [.ro (ns.map .int), .val (.int k), .val (.int c), .own true (ps.map .int), .val (clockD m hs bl mir), .val (.int m), .val (.tuple (hs.map hD)), .val (.bool bl), .val (.bool mir), .own true ((trowsL m [] bl false).map .str), x10, x11, x12, x13, x14, x15]) (by cases bl <;> (walk_at "vc"; rfl)) ?_
      rintro _ rfl
      refine ws_mid (fun e => e = [.ro (ns.map .int), .val (.int k), .val (.int c), .own true (ps.map .int), .val (clockD m hs bl mir), .val (.int m), .val (.tuple (hs.map hD)), .val (.bool bl), .val (.bool mir), .own true ((trowsL m [] bl mir).map .str), x10, x11, x12, x13, x14, x15]) (by
        cases mir
        · walk_at "vc"
          rfl
        · walk_at "vc"
          refine wo_app (by cases bl <;> rfl) ?_
          walk_at "nr"
          cases bl <;> rfl) ?_
      rintro _ rfl
      refine ws_mid (fun e => ∃ x10 x11 x12, e = [.ro (ns.map .int), .val (.int k), .val (.int c), .own true (ps.map .int), .val (clockD m hs bl mir), .val (.int m), .val (.tuple (hs.map hD)), .val (.bool bl), .val (.bool mir), .own true ((trowsL m hs bl mir).map .str), x10, x11, x12, x13, x14, x15]) ?_ ?_
      · refine ws_forN (fun _ j e => ∃ x10 x11 x12, e = [.ro (ns.map .int), .val (.int k), .val (.int c), .own true (ps.map .int), .val (clockD m hs bl mir), .val (.int m), .val (.tuple (hs.map hD)), .val (.bool bl), .val (.bool mir), .own true ((trowsL m (hs.take j) bl mir).map .str), x10, x11, x12, x13, x14, x15]) ?_
        walk_at "vc"
        refine ⟨⟨_, _, _, rfl⟩, ?_, ?_⟩
        · rintro j d e hkl hd ⟨x10, x11, x12, rfl⟩
          rw [List.length_map] at hkl
          rw [List.getElem?_map, List.getElem?_eq_getElem hkl] at hd
          obtain rfl := Option.some.inj hd
          obtain ⟨a1, a2, a3, a4, a5⟩ := hkT hs[j] (List.getElem_mem _)
          have htk : hs.take (j + 1) = hs.take j ++ [hs[j]] := List.take_succ_eq_append_getElem hkl
          have hrl := rows_len (m := m) (hs := hs.take j) (bl := bl) (mir := mir) (by rw [List.length_take]; omega)
          rw [htk]
          generalize hs[j] = h at *
          obtain ⟨g, s, x⟩ := h
          dsimp only at a1 a2 a3 a4 a5
          have b1 : g.natAbs < 10 ^ 200 := Nat.lt_of_lt_of_le (show g.natAbs < 10 ^ 61 by omega) (by decide +kernel)
          have b2 : s.natAbs < 10 ^ 200 := Nat.lt_of_lt_of_le (show s.natAbs < 10 ^ 61 by omega) (by decide +kernel)
          have c1 := (iS_len a1 a2).2
          have c2 := (iS_len a3 a4).2
          have c3 := lk_len a5
          have e6 : ("hand " : Str).length = 5 := by decide +kernel
          have e7 : (" " : Str).length = 1 := by decide +kernel
          rw [show hD (g, s, x) = .tuple [.int g, .int s, .str x] from rfl]
          walk_at "vc"
          refine wo_strI b1 ?_
          refine wo_addST (by omega) ?_
          walk_at "vc"
          refine wo_addST (by rw [Str.length_append]; omega) ?_
          walk_at "vc"
          refine wo_strI b2 ?_
          refine wo_addST (by rw [Str.length_append, Str.length_append]; omega) ?_
          walk_at "vc"
          refine wo_addST (by rw [Str.length_append, Str.length_append, Str.length_append]; omega) ?_
          walk_at "vc"
          refine wo_addST (by rw [Str.length_append, Str.length_append, Str.length_append, Str.length_append]; omega) ?_
          walk_at "vc"
          rw [trows_snoc, List.map_append]
          exact ⟨_, _, _, rfl⟩
        · rintro e ⟨x10, x11, x12, rfl⟩
          rw [List.length_map, List.take_length]
          exact ⟨_, _, _, rfl⟩
      rintro e ⟨x10, x11, x12, rfl⟩
      refine ws_mid (fun e => e = [.ro (ns.map .int), .val (.int k), .val (.int c), .own true (ps.map .int), .val (clockD m hs bl mir), .val (.int m), .val (.tuple (hs.map hD)), .val (.bool bl), .val (.bool mir), .own true ((trowsL m hs bl mir).map .str), x10, x11, x12, .val (.str (textS m hs bl mir)), x14, x15]) ?_ ?_
      · walk_at "vc"
        refine ctext_w h0 hm1 hn hkT fun _ => ?_
        walk_at "vc"
        rfl
      rintro _ rfl
      have hl9 := rows_len (m := m) (hs := hs) (bl := bl) (mir := mir) (by omega)
      have hs1 := sum_le130 (rows_each (bl := bl) (mir := mir) h0 hm1 hkT)
      have en1 : ("\n" : Str).length = 1 := by decide +kernel
      refine ws_mid (fun e => e = [.ro (ns.map .int), .val (.int k), .val (.int c), .own true (ps.map .int), .val (clockD m hs bl mir), .val (.int m), .val (.tuple (hs.map hD)), .val (.bool bl), .val (.bool mir), .own true ((trowsL m hs bl mir).map .str), x10, x11, x12, .val (.str (textS m hs bl mir)), x14, x15]) ?_ ?_
      · walk_at "vc"
        refine wo_join rfl (by rw [en1]; omega) ?_
        have hok := strOk_text (bl := bl) (mir := mir) h0 hkT
        refine wo_neST hok hok ?_
        rw [decide_eq_true (show textS m hs bl mir = Txt.join "\n" (trowsL m hs bl mir) from rfl)]
        walk_at "vc"
        rfl
      rintro _ rfl
      refine ws_for (fun _ rs e => (∀ d ∈ rs, ∃ hs' : List Hd, (hs'.length = hs.length ∧ redH m hs' = hs ∧ HandsT hs') ∧ d = .str (textS m hs' bl mir)) ∧ ∃ (ps : List Int) (x14 x15 : Sl), PotOk ps ∧ e = [.ro (ns.map .int), .val (.int k), .val (.int c), .own true (ps.map .int), .val (clockD m hs bl mir), .val (.int m), .val (.tuple (hs.map hD)), .val (.bool bl), .val (.bool mir), .own true ((trowsL m hs bl mir).map .str), x10, x11, x12, .val (.str (textS m hs bl mir)), x14, x15]) ?_
      walk_at "vc"
      refine lrows_w hp hm hm2 hn hk fun hs' ps _ hp g1 g2 g3 => ?_
      walk_at "vc"
      have hl9' := rows_len (m := m) (hs := hs') (bl := bl) (mir := mir) (by omega)
      have hs1' := sum_le130 (rows_each (bl := bl) (mir := mir) h0 hm1 g3)
      refine wo_join rfl (by rw [en1]; omega) ?_
      walk_at "vc"
      have hred : redH m hs = hs := by
        unfold redH
        refine (List.map_congr_left fun h hh => ?_).trans (List.map_id hs)
        obtain ⟨a1, a2, a3, a4, a5⟩ := hk h hh
        rw [Int.emod_eq_of_lt a1 a2, Int.emod_eq_of_lt a3 a4]
        rfl
      refine ⟨⟨fun d hd => ?_, ps, _, _, hp, rfl⟩, ?_, ?_⟩
      · simp only [List.mem_cons, List.not_mem_nil, or_false] at hd
        rcases hd with rfl | rfl | rfl
        · exact ⟨hs, ⟨rfl, hred, hkT⟩, rfl⟩
        · exact ⟨hs', ⟨g1, g2, g3⟩, rfl⟩
        · exact ⟨hs, ⟨rfl, hred, hkT⟩, rfl⟩
      · rintro d rs e ⟨hd, ps, x14, x15, hp, rfl⟩
        obtain ⟨hs2, ⟨l1, l2, l3⟩, rfl⟩ := hd d List.mem_cons_self
        have hlo : looksOf hs2 = looksOf hs := by rw [← l2, looks_red]
        walk_at "vc"
        refine readc_w (by omega) hm2 (by omega) (by omega) l3 (by rw [hlo]; exact hR) fun _ => ?_
        rw [l2]
        walk_at "vc"
        refine form_w (by omega) hk (by omega) fun _ => ?_
        walk_at "vc"
        refine wo_neR (shp_clock hk) ?_
        walk_at "vc"
        exact ⟨fun d h => hd d (List.mem_cons_of_mem _ h), ps, _, _, hp, rfl⟩
      · rintro e ⟨_, ps, x14, x15, hp, rfl⟩
        exact ⟨htl, _, _, _, _, _, _, _, _, _, _, _, _, _, _, _, rfl⟩
    · rintro e ⟨_, x1, x2, x3, x4, x5, x6, x7, x8, x9, x10, x11, x12, x13, x14, x15, rfl⟩
      exact ⟨_, _, _, _, _, _, _, _, _, _, _, _, _, _, _, rfl⟩
  rintro e ⟨x1, x2, x3, x4, x5, x6, x7, x8, x9, x10, x11, x12, x13, x14, x15, rfl⟩
  walk_at "vc"
  rfl

end Lw

theorem PySem.Challenge.cw_dialdoubt_k53_clocks_written_and_read_holds : PySem.Challenge.rw_dialdoubt_k53_clocks_written_and_read.Holds :=
  Lw.walked Lw.law_true
