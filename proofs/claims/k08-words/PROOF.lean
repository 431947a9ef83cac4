import PyProof.Rows.All
import Wide.All
import OpenK.AllK
import Wide.FinOn
import PyProof.EqAt
import PyProof.EqKinds
import PyProof.TupleCall
import HandS.ForMost
import HandS.ForExc
import HandS.Conv
import HandS.IsInst
import HandS.Style
import HandS.Flow
import HandS.SortKw
import HandS.SortOrd
import HandS.DictTup
import HandS.More
import HandS.Wide
import HandS.ExcInit
import HandS.ExcField
import HandS.ExcIs
import KE.KExcIs
import HandS.Deep
import HandS.SortInts
import HandS.SetFor
import PySem.Challenge.RW_spelledrows_k08_words_together
set_option Elab.async false
set_option linter.all false
/-! part: DL1 -/
section
set_option Elab.async false
set_option linter.all false
set_option maxRecDepth 100000
set_option maxHeartbeats 2000000
/-! The layer D: values as trees, the heap hidden. -/
namespace DL
open PySem PySem.Spec L2
open PyProof.Rows hiding St

/-! ### 1. trees -/
inductive D where
  | non | bl (b : Bool) | int (i : Int) | str (x : Str) | fd | lst (l : List D) | tup (l : List D) | dct (l : List (List Key × D)) | ob (a dd : Addr) (fl : Str) (x : Int)

/-- the feed: its address and that of the script's copy -/
abbrev Pf := Option (Addr × Addr)

/-- v is the tree d, all of it in F -/
inductive Rp (p : Pf) (F : Hp) : V → D → Prop
  | non : Rp p F .non .non
  | bl (b : Bool) : Rp p F (.bl b) (.bl b)
  | int (i : Int) : Rp p F (.int i) (.int i)
  | str (x : Str) : Rp p F (.str x) (.str x)
  | fd (a b : Addr) : p = some (a, b) → Rp p F (.ref a) .fd
  | lst (a : Addr) (vs : List V) (ds : List D) : F a = some (.lst vs) → vs.length = ds.length → (∀ (i : Nat) (v : V) (d : D), vs[i]? = some v → ds[i]? = some d → Rp p F v d) → Rp p F (.ref a) (.lst ds)
  | tup (a : Addr) (vs : List V) (ds : List D) : F a = some (.tup vs) → vs.length = ds.length → (∀ (i : Nat) (v : V) (d : D), vs[i]? = some v → ds[i]? = some d → Rp p F v d) → Rp p F (.ref a) (.tup ds)
  | dct (a : Addr) (kvs : List (List Key × V)) (l : List (List Key × D)) : F a = some (.dT kvs) → kvs.map Prod.fst = l.map Prod.fst → (∀ (i : Nat) (q : List Key × V) (r : List Key × D), kvs[i]? = some q → l[i]? = some r → Rp p F q.2 r.2) → Rp p F (.ref a) (.dct l)
  | ob (a dd : Addr) (fl : Str) (x : Int) : F dd = some (.xd [(fl, .int x)]) → Rp p F (.ref a) (.ob a dd fl x)

structure RpL (p : Pf) (F : Hp) (vs : List V) (ds : List D) : Prop where
  len : vs.length = ds.length
  at_ : ∀ (i : Nat) (v : V) (d : D), vs[i]? = some v → ds[i]? = some d → Rp p F v d
structure RpK (p : Pf) (F : Hp) (kvs : List (List Key × V)) (l : List (List Key × D)) : Prop where
  keys : kvs.map Prod.fst = l.map Prod.fst
  at_ : ∀ (i : Nat) (q : List Key × V) (r : List Key × D), kvs[i]? = some q → l[i]? = some r → Rp p F q.2 r.2

theorem Rp.mono {p : Pf} {F F' : Hp} (h : Same F F') {v : V} {d : D} (r : Rp p F v d) : Rp p F' v d := by
  induction r with
  | non => exact .non
  | bl b => exact .bl b
  | int i => exact .int i
  | str x => exact .str x
  | fd a b e => exact .fd a b e
  | lst a vs ds e l _ ih => exact .lst a vs ds (h _ _ e) l ih
  | tup a vs ds e l _ ih => exact .tup a vs ds (h _ _ e) l ih
  | dct a kvs l e k _ ih => exact .dct a kvs l (h _ _ e) k ih
  | ob a dd fl x e => exact .ob a dd fl x (h _ _ e)
theorem RpL.mono {p : Pf} {F F' : Hp} (h : Same F F') {vs : List V} {ds : List D} (r : RpL p F vs ds) : RpL p F' vs ds := ⟨r.len, fun i v d a b => (r.at_ i v d a b).mono h⟩
theorem RpK.mono {p : Pf} {F F' : Hp} (h : Same F F') {vs : List (List Key × V)} {ds : List (List Key × D)} (r : RpK p F vs ds) : RpK p F' vs ds := ⟨r.keys, fun i v d a b => (r.at_ i v d a b).mono h⟩
theorem RpL.nil {p : Pf} {F : Hp} : RpL p F [] [] := ⟨rfl, fun i v d h => by simp at h⟩
theorem RpL.cons {p : Pf} {F : Hp} {v : V} {d : D} {vs : List V} {ds : List D} (h : Rp p F v d) (t : RpL p F vs ds) : RpL p F (v :: vs) (d :: ds) :=
  ⟨by simp [t.len], fun i w e a b => by
    cases i with
    | zero => simp at a b; subst a; subst b; exact h
    | succ i => exact t.at_ i w e (by simpa using a) (by simpa using b)⟩
theorem RpL.head {p : Pf} {F : Hp} {v : V} {d : D} {vs : List V} {ds : List D} (t : RpL p F (v :: vs) (d :: ds)) : Rp p F v d := t.at_ 0 v d rfl rfl
theorem RpL.tail {p : Pf} {F : Hp} {v : V} {d : D} {vs : List V} {ds : List D} (t : RpL p F (v :: vs) (d :: ds)) : RpL p F vs ds :=
  ⟨by simpa using t.len, fun i w e a b => t.at_ (i + 1) w e (by simpa using a) (by simpa using b)⟩
theorem RpL.nil_l {p : Pf} {F : Hp} {vs : List V} (t : RpL p F vs []) : vs = [] := List.eq_nil_of_length_eq_zero t.len
theorem RpL.uncons {p : Pf} {F : Hp} {d : D} {vs : List V} {ds : List D} (t : RpL p F vs (d :: ds)) : ∃ v r, vs = v :: r ∧ Rp p F v d ∧ RpL p F r ds := by
  cases vs with
  | nil => have := t.len; simp at this
  | cons v r => exact ⟨v, r, rfl, t.head, t.tail⟩
theorem RpL.append {p : Pf} {F : Hp} {vs ws : List V} {ds es : List D} (a : RpL p F vs ds) (b : RpL p F ws es) : RpL p F (vs ++ ws) (ds ++ es) := by
  refine ⟨by simp [a.len, b.len], fun i v d h1 h2 => ?_⟩
  by_cases hi : i < vs.length
  · rw [List.getElem?_append_left hi] at h1
    rw [List.getElem?_append_left (by rw [← a.len]; exact hi)] at h2
    exact a.at_ i v d h1 h2
  · rw [List.getElem?_append_right (by omega)] at h1
    rw [List.getElem?_append_right (by rw [← a.len]; omega), ← a.len] at h2
    exact b.at_ _ v d h1 h2
theorem RpL.one {p : Pf} {F : Hp} {v : V} {d : D} (h : Rp p F v d) : RpL p F [v] [d] := .cons h .nil
theorem RpL.take {p : Pf} {F : Hp} {vs : List V} {ds : List D} (a : RpL p F vs ds) (n : Nat) : RpL p F (vs.take n) (ds.take n) := by
  refine ⟨by simp [a.len], fun i v d h1 h2 => ?_⟩
  rw [List.getElem?_take] at h1 h2
  split at h1
  · rename_i hi
    rw [if_pos hi] at h2
    exact a.at_ i v d h1 h2
  · cases h1
theorem RpL.drop {p : Pf} {F : Hp} {vs : List V} {ds : List D} (a : RpL p F vs ds) (n : Nat) : RpL p F (vs.drop n) (ds.drop n) := by
  refine ⟨by simp [a.len], fun i v d h1 h2 => ?_⟩
  rw [List.getElem?_drop] at h1 h2
  exact a.at_ _ v d h1 h2
theorem RpL.get {p : Pf} {F : Hp} {vs : List V} {ds : List D} (a : RpL p F vs ds) {i : Nat} {d : D} (h : ds[i]? = some d) : ∃ v, vs[i]? = some v ∧ Rp p F v d := by
  have hi : i < vs.length := by rw [a.len]; exact (List.getElem?_eq_some_iff.mp h).1
  exact ⟨vs[i], List.getElem?_eq_getElem hi, a.at_ i _ d (List.getElem?_eq_getElem hi) h⟩
theorem RpL.getV {p : Pf} {F : Hp} {vs : List V} {ds : List D} (a : RpL p F vs ds) {i : Nat} {v : V} (h : vs[i]? = some v) : ∃ d, ds[i]? = some d ∧ Rp p F v d := by
  have hi : i < ds.length := by rw [← a.len]; exact (List.getElem?_eq_some_iff.mp h).1
  exact ⟨ds[i], List.getElem?_eq_getElem hi, a.at_ i v _ h (List.getElem?_eq_getElem hi)⟩
theorem RpL.set {p : Pf} {F : Hp} {vs : List V} {ds : List D} {v : V} {d : D} (a : RpL p F vs ds) (j : Nat) (h : Rp p F v d) : RpL p F (vs.set j v) (ds.set j d) := by
  refine ⟨by simp [a.len], fun i w e h1 h2 => ?_⟩
  rw [List.getElem?_set] at h1 h2
  split at h1
  · rename_i hi
    rw [if_pos hi] at h2
    split at h1
    · split at h2
      · cases h1; cases h2; exact h
      · cases h2
    · cases h1
  · rename_i hi
    rw [if_neg hi] at h2
    exact a.at_ i w e h1 h2
theorem RpL.eraseIdx {p : Pf} {F : Hp} {vs : List V} {ds : List D} (a : RpL p F vs ds) (j : Nat) : RpL p F (vs.eraseIdx j) (ds.eraseIdx j) := by
  rw [List.eraseIdx_eq_take_drop_succ, List.eraseIdx_eq_take_drop_succ]
  exact (a.take j).append (a.drop (j + 1))
theorem RpL.dropLast {p : Pf} {F : Hp} {vs : List V} {ds : List D} (a : RpL p F vs ds) : RpL p F vs.dropLast ds.dropLast := by
  rw [List.dropLast_eq_take, List.dropLast_eq_take, a.len]
  exact a.take _
theorem RpL.reverse {p : Pf} {F : Hp} {vs : List V} {ds : List D} (a : RpL p F vs ds) : RpL p F vs.reverse ds.reverse := by
  refine ⟨by simp [a.len], fun i v d h1 h2 => ?_⟩
  have hi : i < vs.length := by simpa using (List.getElem?_eq_some_iff.mp h1).1
  rw [List.getElem?_reverse hi] at h1
  rw [List.getElem?_reverse (by rw [← a.len]; exact hi), ← a.len] at h2
  exact a.at_ _ v d h1 h2
theorem RpL.rep {p : Pf} {F : Hp} {vs : List V} {ds : List D} (a : RpL p F vs ds) : ∀ k : Nat, RpL p F (List.replicate k vs).flatten (List.replicate k ds).flatten
  | 0 => by simpa using RpL.nil
  | k + 1 => by
    rw [List.replicate_succ, List.replicate_succ, List.flatten_cons, List.flatten_cons]
    exact a.append (RpL.rep a k)
theorem Rp.lst' {p : Pf} {F : Hp} {a : Addr} {vs : List V} {ds : List D} (e : F a = some (.lst vs)) (r : RpL p F vs ds) : Rp p F (.ref a) (.lst ds) := .lst a vs ds e r.len r.at_
theorem Rp.tup' {p : Pf} {F : Hp} {a : Addr} {vs : List V} {ds : List D} (e : F a = some (.tup vs)) (r : RpL p F vs ds) : Rp p F (.ref a) (.tup ds) := .tup a vs ds e r.len r.at_
theorem Rp.dct' {p : Pf} {F : Hp} {a : Addr} {kvs : List (List Key × V)} {l : List (List Key × D)} (e : F a = some (.dT kvs)) (r : RpK p F kvs l) : Rp p F (.ref a) (.dct l) := .dct a kvs l e r.keys r.at_
theorem Rp.lst_inv {p : Pf} {F : Hp} {v : V} {ds : List D} (h : Rp p F v (.lst ds)) : ∃ a vs, v = .ref a ∧ F a = some (.lst vs) ∧ RpL p F vs ds := by
  cases h with
  | lst a vs _ e l f => exact ⟨a, vs, rfl, e, l, f⟩
theorem Rp.tup_inv {p : Pf} {F : Hp} {v : V} {ds : List D} (h : Rp p F v (.tup ds)) : ∃ a vs, v = .ref a ∧ F a = some (.tup vs) ∧ RpL p F vs ds := by
  cases h with
  | tup a vs _ e l f => exact ⟨a, vs, rfl, e, l, f⟩
theorem Rp.dct_inv {p : Pf} {F : Hp} {v : V} {l : List (List Key × D)} (h : Rp p F v (.dct l)) : ∃ a kvs, v = .ref a ∧ F a = some (.dT kvs) ∧ RpK p F kvs l := by
  cases h with
  | dct a kvs _ e l f => exact ⟨a, kvs, rfl, e, l, f⟩
theorem Rp.int_inv {p : Pf} {F : Hp} {v : V} {i : Int} (h : Rp p F v (.int i)) : v = .int i := by cases h; rfl
theorem Rp.bl_inv {p : Pf} {F : Hp} {v : V} {i : Bool} (h : Rp p F v (.bl i)) : v = .bl i := by cases h; rfl
theorem Rp.str_inv {p : Pf} {F : Hp} {v : V} {i : Str} (h : Rp p F v (.str i)) : v = .str i := by cases h; rfl
theorem Rp.non_inv {p : Pf} {F : Hp} {v : V} (h : Rp p F v .non) : v = .non := by cases h; rfl
theorem Rp.fd_inv {p : Pf} {F : Hp} {v : V} (h : Rp p F v .fd) : ∃ a b, v = .ref a ∧ p = some (a, b) := by cases h with | fd a b e => exact ⟨a, b, rfl, e⟩

/-- no address in it -/
def D.flat : D → Prop
  | .non => True | .bl _ => True | .int _ => True | .str _ => True | _ => False
theorem Rp.flat {p q : Pf} {F G : Hp} {v : V} {d : D} (h : Rp p F v d) (f : d.flat) : Rp q G v d := by
  cases h with
  | non => exact .non
  | bl b => exact .bl b
  | int i => exact .int i
  | str x => exact .str x
  | fd a b e => exact f.elim
  | lst a vs ds e l _ => exact f.elim
  | tup a vs ds e l _ => exact f.elim
  | dct a kvs l e k _ => exact f.elim
  | ob a dd fl x e => exact f.elim

/-! ### 2. the frozen heap, what a step keeps -/
/-- the feed stands at a: the script's copy at b, in F; the rest in range -/
structure FeedAt (F H : Hp) (a b : Addr) : Prop where
  out : F a = none
  ex : ∃ (ns : List Int) (i c r : Int), H a = some (.lst [.ref b, .int i, .int c, .int r]) ∧ F b = some (.lst (ns.map V.int)) ∧ ns.length ≤ 63 ∧ 0 ≤ i ∧ 0 ≤ c ∧ 0 ≤ r ∧ r < 2147483647
def Fd (p : Pf) (F H : Hp) : Prop := ∀ a b, p = some (a, b) → FeedAt F H a b
def ne_p (p : Pf) (a : Addr) : Prop := ∀ b, p ≠ some (a, b)

/-- F is frozen within H, the feed outside -/
structure Fr (p : Pf) (F H : Hp) : Prop where
  fh : Same F H
  fd : Fd p F H
structure Ext (p : Pf) (F H F' H' : Hp) : Prop where
  ff : Same F F'
  hh : ∀ a o, H a = some o → ne_p p a → H' a = some o
  nw : ∀ a o, H a = some o → F a = none → F' a = none
  fr : Fr p F' H'
theorem Fr.ne {p : Pf} {F H : Hp} (f : Fr p F H) {a : Addr} {o : HO} (e : F a = some o) : ne_p p a := fun b z => by
  have := (f.fd a b z).out
  rw [this] at e; cases e
theorem Fr.ne_none {p : Pf} {F H : Hp} (f : Fr p F H) {a : Addr} (e : H a = none) : ne_p p a := fun b z => by
  obtain ⟨ns, i, c, r, h, _⟩ := (f.fd a b z).ex
  rw [e] at h; cases h
theorem Ext.refl {p : Pf} {F H : Hp} (f : Fr p F H) : Ext p F H F H := ⟨Same.refl _, fun _ _ e _ => e, fun _ _ _ e => e, f⟩
theorem Ext.trans {p : Pf} {F H F1 H1 F2 H2 : Hp} (f : Fr p F H) (a : Ext p F H F1 H1) (b : Ext p F1 H1 F2 H2) : Ext p F H F2 H2 := by
  refine ⟨a.ff.trans b.ff, fun c o e n => b.hh c o (a.hh c o e n) n, fun c o e n => ?_, b.fr⟩
  by_cases hp : ne_p p c
  · exact b.nw c o (a.hh c o e hp) (a.nw c o e n)
  · have : ∃ z, p = some (c, z) := by
      apply Classical.byContradiction
      intro q
      exact hp fun z e => q ⟨z, e⟩
    obtain ⟨z, hz⟩ := this
    exact (b.fr.fd c z hz).out
/-- a new object is laid, not frozen -/
theorem Fr.lay {p : Pf} {F H : Hp} (f : Fr p F H) {a : Addr} {o : HO} (n : H a = none) : Fr p F (upd H a o) := by
  refine ⟨fun b u e => ?_, fun x y e => ?_⟩
  · have h := f.fh b u e
    rw [upd_ne (ne_of_none h n)]; exact h
  · obtain ⟨out, ns, i, c, r, h, q⟩ := f.fd x y e
    exact ⟨out, ns, i, c, r, by rw [upd_ne (ne_of_none h n)]; exact h, q⟩
theorem Ext.lay {p : Pf} {F H : Hp} (f : Fr p F H) {a : Addr} {o : HO} (n : H a = none) : Ext p F H F (upd H a o) :=
  ⟨Same.refl _, fun b u e _ => by rw [upd_ne (ne_of_none e n)]; exact e, fun _ _ _ e => e, f.lay n⟩
/-- an object that stands beside F is frozen -/
theorem Fr.freeze {p : Pf} {F H : Hp} (f : Fr p F H) {a : Addr} {o : HO} (h : H a = some o) (n : F a = none) (np : ne_p p a) : Fr p (upd F a o) H := by
  refine ⟨fun b u e => ?_, fun x y e => ?_⟩
  · by_cases hb : b = a
    · subst hb; rw [upd_same] at e; cases e; exact h
    · rw [upd_ne hb] at e; exact f.fh b u e
  · obtain ⟨out, ns, i, c, r, h', q, q'⟩ := f.fd x y e
    have hx : x ≠ a := fun z => np y (z ▸ e)
    have hy : y ≠ a := fun z => by rw [z, n] at q; cases q
    exact ⟨by rw [upd_ne hx]; exact out, ns, i, c, r, h', by rw [upd_ne hy]; exact q, q'⟩
theorem same_new {F : Hp} {a : Addr} {o : HO} (n : F a = none) : Same F (upd F a o) := fun b u e => by rw [upd_ne (ne_of_none e n)]; exact e
/-- a new object is laid and frozen -/
theorem Ext.new {p : Pf} {F H : Hp} (f : Fr p F H) {a : Addr} {o : HO} (n : H a = none) : Ext p F H (upd F a o) (upd H a o) := by
  have nf : F a = none := f.fh.free n
  refine ⟨same_new nf, fun b u e _ => by rw [upd_ne (ne_of_none e n)]; exact e, fun b u e q => ?_, (f.lay n).freeze upd_same nf (f.ne_none n)⟩
  rw [upd_ne (ne_of_none e n)]; exact q

/-! ### 3. kinds of values -/
inductive Kd | fz | nw | tp | vw | dp (n : Nat)
  deriving DecidableEq
/-- an object of the layer's kinds at a, its parts frozen in F -/
def ObD (p : Pf) (F : Hp) : HO → D → Prop
  | .lst vs, .lst ds => RpL p F vs ds
  | .tup vs, .tup ds => RpL p F vs ds
  | .dT kvs, .dct l => RpK p F kvs l
  | _, _ => False
theorem ObD.mono {p : Pf} {F F' : Hp} (h : Same F F') {o : HO} {d : D} (r : ObD p F o d) : ObD p F' o d := by
  cases o <;> cases d <;> first | exact r.elim | exact RpL.mono h r | exact RpK.mono h r
theorem ObD.rp {p : Pf} {F : Hp} {a : Addr} {o : HO} {d : D} (r : ObD p F o d) (e : F a = some o) : Rp p F (.ref a) d := by
  cases o <;> cases d <;> first | exact r.elim | exact Rp.lst' e r | exact Rp.tup' e r | exact Rp.dct' e r
/-- the top object stands in H beside F or in F, its parts are frozen -/
def Top (p : Pf) (F H : Hp) (v : V) (d : D) : Prop := Rp p F v d ∨ ∃ a o, v = .ref a ∧ H a = some o ∧ ne_p p a ∧ ObD p F o d
/-- all of it is to be read in H -/
def Vw (p : Pf) (H : Hp) (v : V) (d : D) : Prop := ∃ G, Same G H ∧ (∀ a o, G a = some o → ne_p p a) ∧ Rp p G v d
/-- its top object was laid since H0 and belongs to no one -/
def New (p : Pf) (H0 F H : Hp) (v : V) (d : D) : Prop := ∃ a o, v = .ref a ∧ H0 a = none ∧ F a = none ∧ H a = some o ∧ ne_p p a ∧ ObD p F o d
/-- its n upper levels stand in G, what is below in F -/
inductive Un (p : Pf) (F G : Hp) : Nat → V → D → Prop
  | zero {v : V} {d : D} : Rp p F v d → Un p F G 0 v d
  | flat {n : Nat} {v : V} {d : D} : d.flat → Rp p F v d → Un p F G (n + 1) v d
  | lst {n : Nat} {a : Addr} {vs : List V} {ds : List D} : G a = some (.lst vs) → vs.length = ds.length → (∀ (i : Nat) (v : V) (d : D), vs[i]? = some v → ds[i]? = some d → Un p F G n v d) → Un p F G (n + 1) (.ref a) (.lst ds)
  | tup {n : Nat} {a : Addr} {vs : List V} {ds : List D} : G a = some (.tup vs) → vs.length = ds.length → (∀ (i : Nat) (v : V) (d : D), vs[i]? = some v → ds[i]? = some d → Un p F G n v d) → Un p F G (n + 1) (.ref a) (.tup ds)
  | dct {n : Nat} {a : Addr} {kvs : List (List Key × V)} {l : List (List Key × D)} : G a = some (.dT kvs) → kvs.map Prod.fst = l.map Prod.fst → (∀ (i : Nat) (q : List Key × V) (r : List Key × D), kvs[i]? = some q → l[i]? = some r → Un p F G n q.2 r.2) → Un p F G (n + 1) (.ref a) (.dct l)
theorem Un.mono {p : Pf} {F G F' G' : Hp} (hF : Same F F') (hG : Same G G') {n : Nat} {v : V} {d : D} (r : Un p F G n v d) : Un p F' G' n v d := by
  induction r with
  | zero h => exact .zero (h.mono hF)
  | flat f h => exact .flat f (h.mono hF)
  | lst e l _ ih => exact .lst (hG _ _ e) l ih
  | tup e l _ ih => exact .tup (hG _ _ e) l ih
  | dct e l _ ih => exact .dct (hG _ _ e) l ih
theorem Un.of_flat {p : Pf} {F G : Hp} {n : Nat} {v : V} {d : D} (f : d.flat) (h : Rp p F v d) : Un p F G n v d := by
  cases n with
  | zero => exact .zero h
  | succ n => exact .flat f h
theorem Un.bl_inv {p : Pf} {F G : Hp} {n : Nat} {v : V} {b : Bool} (r : Un p F G n v (.bl b)) : v = .bl b := by
  cases r with
  | zero h => exact h.bl_inv
  | flat _ h => exact h.bl_inv
theorem Un.int_inv {p : Pf} {F G : Hp} {n : Nat} {v : V} {b : Int} (r : Un p F G n v (.int b)) : v = .int b := by
  cases r with
  | zero h => exact h.int_inv
  | flat _ h => exact h.int_inv
theorem Un.str_inv {p : Pf} {F G : Hp} {n : Nat} {v : V} {b : Str} (r : Un p F G n v (.str b)) : v = .str b := by
  cases r with
  | zero h => exact h.str_inv
  | flat _ h => exact h.str_inv
def join (F G : Hp) : Hp := fun a => match F a with
  | some o => some o
  | none => G a
theorem join_l {F G : Hp} : Same F (join F G) := fun a o e => by unfold join; rw [e]
theorem join_r {F G : Hp} (h : ∀ a o, G a = some o → F a = none) : Same G (join F G) := fun a o e => by unfold join; rw [h a o e]; exact e
theorem join_in {F G H : Hp} (f : Same F H) (g : Same G H) : Same (join F G) H := fun a o e => by
  unfold join at e
  cases q : F a with
  | some u => rw [q] at e; cases e; exact f a _ q
  | none => rw [q] at e; exact g a o e
theorem Un.rp {p : Pf} {F G : Hp} (h : ∀ a o, G a = some o → F a = none) {n : Nat} {v : V} {d : D} (r : Un p F G n v d) : Rp p (join F G) v d := by
  induction r with
  | zero h => exact h.mono join_l
  | flat f h => exact h.mono join_l
  | lst e l _ ih => exact .lst _ _ _ (join_r h _ _ e) l ih
  | tup e l _ ih => exact .tup _ _ _ (join_r h _ _ e) l ih
  | dct e l _ ih => exact .dct _ _ _ (join_r h _ _ e) l ih
theorem Un.rp2 {p : Pf} {F G F' : Hp} (hF : Same F F') (hG : Same G F') {n : Nat} {v : V} {d : D} (r : Un p F G n v d) : Rp p F' v d := by
  induction r with
  | zero h => exact h.mono hF
  | flat f h => exact h.mono hF
  | lst e l _ ih => exact .lst _ _ _ (hG _ _ e) l ih
  | tup e l _ ih => exact .tup _ _ _ (hG _ _ e) l ih
  | dct e l _ ih => exact .dct _ _ _ (hG _ _ e) l ih
/-- its n upper levels were laid since H0, none of them in F -/
def Dpn (n : Nat) (p : Pf) (H0 F H : Hp) (v : V) (d : D) : Prop := ∃ G, Same G H ∧ (∀ a o, G a = some o → ne_p p a ∧ H0 a = none ∧ F a = none) ∧ Un p F G n v d
def Rv (κ : Kd) (p : Pf) (H0 F H : Hp) (v : V) (d : D) : Prop := match κ with
  | .fz => Rp p F v d
  | .nw => New p H0 F H v d
  | .tp => Top p F H v d
  | .vw => Vw p H v d
  | .dp n => Dpn n p H0 F H v d
theorem Rp.vw {p : Pf} {F H : Hp} {v : V} {d : D} (f : Fr p F H) (r : Rp p F v d) : Vw p H v d := ⟨F, f.fh, fun _ _ e => f.ne e, r⟩
theorem Rp.none_p {p : Pf} {G : Hp} {v : V} {d : D} (r : Rp none G v d) : Rp p G v d := by
  induction r with
  | non => exact .non
  | bl b => exact .bl b
  | int i => exact .int i
  | str x => exact .str x
  | fd a b e => cases e
  | lst a vs ds e l _ ih => exact .lst a vs ds e l ih
  | tup a vs ds e l _ ih => exact .tup a vs ds e l ih
  | dct a kvs l e k _ ih => exact .dct a kvs l e k ih
  | ob a dd fl x e => exact .ob a dd fl x e
/-- a top value within a wider frozen heap -/
theorem Top.vw {p : Pf} {F H : Hp} {v : V} {d : D} (f : Fr p F H) (r : Top p F H v d) : Vw p H v d := by
  rcases r with r | ⟨a, o, rfl, h, n, r⟩
  · exact r.vw f
  · by_cases hf : F a = none
    · refine ⟨upd F a o, (f.freeze h hf n).fh, fun b u e => ?_, (r.mono (same_new hf)).rp upd_same⟩
      by_cases hb : b = a
      · rw [hb]; exact n
      · rw [upd_ne hb] at e; exact f.ne e
    · cases q : F a with
      | none => exact absurd q hf
      | some u =>
        have := f.fh a u q
        rw [h] at this; cases this
        exact Rp.vw f (r.rp q)
theorem New.top {p : Pf} {H0 F H : Hp} {v : V} {d : D} (r : New p H0 F H v d) : Top p F H v d := by
  obtain ⟨a, o, rfl, _, _, h, n, r⟩ := r
  exact .inr ⟨a, o, rfl, h, n, r⟩
/-- what stands stays -/
theorem Top.step {p : Pf} {F H F' H' : Hp} {v : V} {d : D} (x : Ext p F H F' H') (r : Top p F H v d) : Top p F' H' v d := by
  rcases r with r | ⟨a, o, rfl, h, n, r⟩
  · exact .inl (r.mono x.ff)
  · exact .inr ⟨a, o, rfl, x.hh a o h n, n, r.mono x.ff⟩
theorem Vw.step {p : Pf} {F H F' H' : Hp} {v : V} {d : D} (x : Ext p F H F' H') (r : Vw p H v d) : Vw p H' v d := by
  obtain ⟨G, s, n, r⟩ := r
  exact ⟨G, fun a o e => x.hh a o (s a o e) (n a o e), n, r⟩
theorem New.step {p : Pf} {H0 F H F' H' : Hp} {v : V} {d : D} (x : Ext p F H F' H') (r : New p H0 F H v d) : New p H0 F' H' v d := by
  obtain ⟨a, o, rfl, h0, f, h, n, r⟩ := r
  exact ⟨a, o, rfl, h0, x.nw a o h f, x.hh a o h n, n, r.mono x.ff⟩
theorem Dpn.step {n : Nat} {p : Pf} {H0 F H F' H' : Hp} {v : V} {d : D} (x : Ext p F H F' H') (r : Dpn n p H0 F H v d) : Dpn n p H0 F' H' v d := by
  obtain ⟨G, s, ng, r⟩ := r
  exact ⟨G, fun a o e => x.hh a o (s a o e) (ng a o e).1, fun a o e => ⟨(ng a o e).1, (ng a o e).2.1, x.nw a o (s a o e) (ng a o e).2.2⟩, r.mono x.ff (Same.refl _)⟩
theorem Rv.step {κ : Kd} {p : Pf} {H0 F H F' H' : Hp} {v : V} {d : D} (x : Ext p F H F' H') (r : Rv κ p H0 F H v d) : Rv κ p H0 F' H' v d := by
  cases κ with
  | fz => exact Rp.mono x.ff r
  | nw => exact New.step x r
  | tp => exact Top.step x r
  | vw => exact Vw.step x r
  | dp n => exact Dpn.step x r
/-- since an earlier heap -/
theorem Rv.since {κ : Kd} {p : Pf} {H0 H1 F H : Hp} {v : V} {d : D} (s : ∀ a, H1 a = none → H0 a = none) (r : Rv κ p H1 F H v d) : Rv κ p H0 F H v d := by
  cases κ with
  | fz => exact r
  | nw =>
    obtain ⟨a, o, rfl, h0, q⟩ := r
    exact ⟨a, o, rfl, s a h0, q⟩
  | tp => exact r
  | vw => exact r
  | dp n =>
    obtain ⟨G, sg, n, r⟩ := r
    exact ⟨G, sg, fun a o e => ⟨(n a o e).1, s a (n a o e).2.1, (n a o e).2.2⟩, r⟩
theorem flat_rv {κ : Kd} {p q : Pf} {H0 F G H : Hp} {v : V} {d : D} (h : Rp q G v d) (f : d.flat) (hk : κ ≠ .nw) (fr : Fr p F H) : Rv κ p H0 F H v d := by
  cases κ with
  | fz => exact h.flat f
  | nw => exact absurd rfl hk
  | tp => exact .inl (h.flat f)
  | vw => exact Rp.vw fr (h.flat f)
  | dp n => exact ⟨fun _ => none, (fun _ _ e => nomatch e), (fun _ _ e => nomatch e), .of_flat f (h.flat f)⟩
end DL
end

/-! part: DL2 -/
section
set_option Elab.async false
set_option linter.all false
set_option maxRecDepth 100000
set_option maxHeartbeats 2000000
namespace DL
open PySem PySem.Spec L2
open PyProof.Rows hiding St
/-! ### 4. the slots -/
def emp : Hp := fun _ => none
def one_ (c : Addr) (o : HO) : Hp := fun a => if a = c then some o else none
theorem one_at {c : Addr} {o : HO} : one_ c o c = some o := by unfold one_; rw [if_pos rfl]
theorem one_only {c a : Addr} {o u : HO} (h : one_ c o a = some u) : a = c ∧ u = o := by
  unfold one_ at h
  split at h
  · exact ⟨by assumption, (Option.some.inj h).symm⟩
  · cases h

abbrev DS := List (Option D)
abbrev Os := List Kd
structure Bs where
  p : Pf
  F : Hp
  H : Hp
def SlotIs (κ : Kd) (p : Pf) (F Ci : Hp) (v : V) (d : D) : Prop := match κ with
  | .fz => Rp p F v d
  | .nw => ∃ c o, v = .ref c ∧ Ci c = some o ∧ (∀ a u, Ci a = some u → a = c) ∧ ObD p F o d
  | .dp n => Un p F Ci n v d
  | _ => False
structure SR (O : Os) (B : Bs) (C : Nat → Hp) (F : Hp) (σ : St) (H : Hp) (δ : DS) : Prop where
  f0 : Fr B.p B.F B.H
  ext : Ext B.p B.F B.H F H
  len : σ.length = δ.length
  sub : ∀ i, Same (C i) H
  out : ∀ i a o, C i a = some o → ne_p B.p a ∧ B.H a = none ∧ F a = none
  dis : ∀ i j a o, i ≠ j → C i a = some o → C j a = none
  at_ : ∀ (i : Nat) (d : D), δ[i]? = some (some d) → ∃ v, σ[i]? = some (some v) ∧ SlotIs (O.getD i .fz) B.p F (C i) v d
theorem Ext.back {p : Pf} {F H F' H' : Hp} (x : Ext p F H F' H') {a : Addr} (e : H' a = none) : H a = none := by
  cases q : H a with
  | none => rfl
  | some o =>
    have := x.hh a o q (x.fr.ne_none e)
    rw [e] at this; cases this
theorem SR.fr {O : Os} {B : Bs} {C : Nat → Hp} {F : Hp} {σ : St} {H : Hp} {δ : DS} (s : SR O B C F σ H δ) : Fr B.p F H := s.ext.fr
theorem SlotIs.mono {κ : Kd} {p : Pf} {F F' Ci : Hp} {v : V} {d : D} (h : Same F F') (r : SlotIs κ p F Ci v d) : SlotIs κ p F' Ci v d := by
  cases κ with
  | fz => exact Rp.mono h r
  | nw =>
    obtain ⟨c, o, e, z, u, q⟩ := r
    exact ⟨c, o, e, z, u, q.mono h⟩
  | tp => exact r
  | vw => exact r
  | dp n => exact Un.mono h (Same.refl _) r
theorem SR.step {O : Os} {B : Bs} {C : Nat → Hp} {F F' : Hp} {σ : St} {H H' : Hp} {δ : DS} (s : SR O B C F σ H δ) (x : Ext B.p F H F' H') : SR O B C F' σ H' δ :=
  ⟨s.f0, s.ext.trans s.f0 x, s.len, fun i a o e => x.hh a o (s.sub i a o e) (s.out i a o e).1, fun i a o e => ⟨(s.out i a o e).1, (s.out i a o e).2.1, x.nw a o (s.sub i a o e) (s.out i a o e).2.2⟩, s.dis,
    fun i d e => let ⟨v, h1, h2⟩ := s.at_ i d e; ⟨v, h1, h2.mono x.ff⟩⟩
/-- which slots may be read as what -/
def canRd : Kd → Kd → Bool
  | .fz, .fz => true | .fz, .tp => true | .fz, .vw => true | .nw, .tp => true | .nw, .vw => true | .dp _, .vw => true | _, _ => false
theorem un_vw {n : Nat} {p : Pf} {F H G : Hp} {v : V} {d : D} (f : Fr p F H) (sub : Same G H) (out : ∀ a o, G a = some o → ne_p p a ∧ F a = none) (r : Un p F G n v d) : Vw p H v d :=
  ⟨join F G, join_in f.fh sub, fun a o e => by
    unfold join at e
    cases q : F a with
    | some u => exact f.ne q
    | none => rw [q] at e; exact (out a o e).1, r.rp fun a o e => (out a o e).2⟩
theorem SlotIs.rv {k κ : Kd} {p : Pf} {H0 F H Ci : Hp} {v : V} {d : D} (f : Fr p F H) (sub : Same Ci H) (out : ∀ a o, Ci a = some o → ne_p p a ∧ F a = none) (r : SlotIs k p F Ci v d) (h : canRd k κ = true) : Rv κ p H0 F H v d := by
  cases k <;> cases κ <;> first | (cases h; done) | skip
  · exact r
  · exact .inl r
  · exact Rp.vw f r
  · obtain ⟨c, o, rfl, z, u, q⟩ := r
    exact .inr ⟨c, o, rfl, sub c o z, (out c o z).1, q⟩
  · obtain ⟨c, o, rfl, z, u, q⟩ := r
    exact Top.vw f (.inr ⟨c, o, rfl, sub c o z, (out c o z).1, q⟩)
  · exact un_vw f sub out r

/-! ### 5. judgements -/
abbrev ED := DS → (D → Prop) → Prop
abbrev TD := DS → (Bool → Prop) → Prop
abbrev AD := DS → (List D → Prop) → Prop
structure En where
  nx : DS → Prop
  rt : D → Prop
  bk : DS → Prop := fun _ => False
  ct : DS → Prop := fun _ => False
abbrev SD := En → DS → Prop
def MonoE (t : ED) : Prop := ∀ δ (Q Q' : D → Prop), (∀ d, Q d → Q' d) → t δ Q → t δ Q'
def MonoT (t : TD) : Prop := ∀ δ (Q Q' : Bool → Prop), (∀ d, Q d → Q' d) → t δ Q → t δ Q'
def MonoA (t : AD) : Prop := ∀ δ (Q Q' : List D → Prop), (∀ d, Q d → Q' d) → t δ Q → t δ Q'
structure En.Le (E E' : En) : Prop where
  nx : ∀ δ, E.nx δ → E'.nx δ
  rt : ∀ d, E.rt d → E'.rt d
  bk : ∀ δ, E.bk δ → E'.bk δ
  ct : ∀ δ, E.ct δ → E'.ct δ
def MonoS (t : SD) : Prop := ∀ (E E' : En) δ, E.Le E' → t E δ → t E' δ
def RvL (κ : Kd) (p : Pf) (H0 F H : Hp) (vs : List V) (ds : List D) : Prop := Paired (fun v d => Rv κ p H0 F H v d) vs ds
theorem RvL.step {κ : Kd} {p : Pf} {H0 F H F' H' : Hp} {vs : List V} {ds : List D} (x : Ext p F H F' H') (r : RvL κ p H0 F H vs ds) : RvL κ p H0 F' H' vs ds := Paired.mapP r fun _ _ z => z.step x
theorem RvL.since {κ : Kd} {p : Pf} {H0 H1 F H : Hp} {vs : List V} {ds : List D} (s : ∀ a, H1 a = none → H0 a = none) (r : RvL κ p H1 F H vs ds) : RvL κ p H0 F H vs ds := Paired.mapP r fun _ _ z => z.since s
theorem RvL.rp {p : Pf} {H0 F H : Hp} : ∀ {vs : List V} {ds : List D}, RvL .fz p H0 F H vs ds → RpL p F vs ds
  | _, _, .nil => .nil
  | _, _, .cons r t => .cons r (RvL.rp t)
def liftE (O : Os) (κ : Kd) (t : ED) : TE := fun σ H Q => ∃ B C F δ, SR O B C F σ H δ ∧ t δ fun d => ∀ F' H' v, Ext B.p F H F' H' → Rv κ B.p H F' H' v d → Q v H'
def liftT (O : Os) (t : TD) : TT := fun σ H Q => ∃ B C F δ, SR O B C F σ H δ ∧ t δ fun b => ∀ F' H', Ext B.p F H F' H' → Q b H'
def liftA (O : Os) (κ : Kd) (t : AD) : TA := fun σ H Q => ∃ B C F δ, SR O B C F σ H δ ∧ t δ fun ds => ∀ F' H' vs, Ext B.p F H F' H' → RvL κ B.p H F' H' vs ds → Q vs H'
/-- what follows a statement, seen from below -/
def lowEn (O' Oc : Os) (κr : Kd) (B : Bs) (F : Hp) (D : Ends) : En where
  nx := fun δ' => ∀ C' F' σ' H', SR O' B C' F' σ' H' δ' → Same F F' → D.nx σ' H'
  rt := fun d => ∀ F' H' v, Ext B.p B.F B.H F' H' → Rv κr B.p B.H F' H' v d → D.rt v H'
  bk := fun δ' => ∀ C' F' σ' H', SR Oc B C' F' σ' H' δ' → Same F F' → D.bk σ' H'
  ct := fun δ' => ∀ C' F' σ' H', SR Oc B C' F' σ' H' δ' → Same F F' → D.ct σ' H'
def liftS (κr : Kd) (Oc O O' : Os) (t : SD) : TS := fun D σ H => ∃ B C F δ, SR O B C F σ H δ ∧ t (lowEn O' Oc κr B F D) δ
structure DE (X : Cx) (O : Os) (κ : Kd) (e : Expr) (t : ED) : Prop where
  pe : PE X e (liftE O κ t)
  mono : MonoE t
structure DT (X : Cx) (O : Os) (e : Expr) (t : TD) : Prop where
  pt : PT X e (liftT O t)
  mono : MonoT t
structure DW (X : Cx) (O : Os) (e : Expr) (t : TD) : Prop where
  pw : PW X e (liftT O t)
  mono : MonoT t
structure DA (X : Cx) (O : Os) (κ : Kd) (es : List Expr) (t : AD) : Prop where
  pa : PA X es (liftA O κ t)
  mono : MonoA t
  len : ∀ δ (Q : List D → Prop), t δ Q → t δ fun ds => ds.length = es.length ∧ Q ds
structure DSt (X : Cx) (κr : Kd) (Oc O O' : Os) (st : Stmt) (t : SD) : Prop where
  ps : PS X st (liftS κr Oc O O' t)
  mono : MonoS t
structure DSs (X : Cx) (κr : Kd) (Oc O O' : Os) (st : List Stmt) (t : SD) : Prop where
  ps : PSs X st (liftS κr Oc O O' t)
  mono : MonoS t
section
variable {X : Cx}
theorem pe_imp {e : Expr} {t t' : TE} (h : PE X e t) (i : ∀ σ H Q, t' σ H Q → t σ H Q) : PE X e t' := ⟨fun pins s σ H Q I w => h.run pins s σ H Q I (i σ H Q w)⟩
theorem pt_imp {e : Expr} {t t' : TT} (h : PT X e t) (i : ∀ σ H Q, t' σ H Q → t σ H Q) : PT X e t' := ⟨fun pins s σ H Q I w => h.run pins s σ H Q I (i σ H Q w)⟩
theorem pw_imp {e : Expr} {t t' : TT} (h : PW X e t) (i : ∀ σ H Q, t' σ H Q → t σ H Q) : PW X e t' := ⟨fun wh pins s σ H Q I w => h.run wh pins s σ H Q I (i σ H Q w)⟩
theorem pa_imp {e : List Expr} {t t' : TA} (h : PA X e t) (i : ∀ σ H Q, t' σ H Q → t σ H Q) : PA X e t' := ⟨fun pos pins s σ H Q I w => h.run pos pins s σ H Q I (i σ H Q w)⟩
theorem ps_imp {e : Stmt} {t t' : TS} (h : PS X e t) (i : ∀ D σ H, t' D σ H → t D σ H) : PS X e t' := ⟨fun pins s σ H Q I w => h.run pins s σ H Q I (i Q σ H w)⟩
theorem pss_imp {e : List Stmt} {t t' : TS} (h : PSs X e t) (i : ∀ D σ H, t' D σ H → t D σ H) : PSs X e t' := ⟨fun pins s σ H Q I w => h.run pins s σ H Q I (i Q σ H w)⟩
theorem pi_imp {tg e : Expr} {t t' : TI} (h : PI X tg e t) (i : ∀ σ H Q, t' σ H Q → t σ H Q) : PI X tg e t' := ⟨fun pins s σ H Q I w => h.run pins s σ H Q I (i σ H Q w)⟩
theorem pg_imp {tg : Expr} {t t' : TG} (h : PG X tg t) (i : ∀ v σ H Q, t' v σ H Q → t v σ H Q) : PG X tg t' := ⟨fun pins s σ H v u Q I r w => h.run pins s σ H v u Q I r (i v σ H Q w)⟩
end
/-! ### going up -/
theorem New.dp1 {p : Pf} {H0 F H : Hp} {v : V} {d : D} (r : New p H0 F H v d) : Dpn 1 p H0 F H v d := by
  obtain ⟨a, o, rfl, h0, f, h, n, r⟩ := r
  have hG : ∀ b u, one_ a o b = some u → ne_p p b ∧ H0 b = none ∧ F b = none := fun b u e => by
    obtain ⟨rfl, _⟩ := one_only e
    exact ⟨n, h0, f⟩
  refine ⟨one_ a o, fun b u e => by obtain ⟨rfl, rfl⟩ := one_only e; exact h, hG, ?_⟩
  cases o <;> cases d <;> first | exact r.elim | skip
  · exact .lst one_at r.len fun i v d a b => .zero (r.at_ i v d a b)
  · exact .tup one_at r.len fun i v d a b => .zero (r.at_ i v d a b)
  · exact .dct one_at r.keys fun i q z a b => .zero (r.at_ i q z a b)
def kUp : Kd → Kd → Bool
  | .fz, .fz => true | .fz, .tp => true | .fz, .vw => true | .nw, .nw => true | .nw, .fz => true | .nw, .tp => true | .nw, .vw => true | .tp, .tp => true | .tp, .vw => true | .vw, .vw => true | .dp n, .dp m => n == m | .nw, .dp n => n == 1 | .dp _, .fz => true | .dp _, .tp => true | .dp _, .vw => true | _, _ => false
theorem Dpn.fz {n : Nat} {p : Pf} {F H F' H' : Hp} {v : V} {d : D} {R : Prop} (x : Ext p F H F' H') (r : Dpn n p H F' H' v d) (h : ∀ F', Ext p F H F' H' → Rp p F' v d → R) : R := by
  obtain ⟨G, s, ng, r⟩ := r
  have gf : ∀ a o, G a = some o → F' a = none := fun a o e => (ng a o e).2.2
  refine h (join F' G) ⟨x.ff.trans join_l, x.hh, fun b u e1 e2 => ?_, ⟨join_in x.fr.fh s, fun a b e => ?_⟩⟩ (r.rp gf)
  · unfold join
    rw [x.nw b u e1 e2]
    cases q : G b with
    | none => rfl
    | some w =>
      have := (ng b w q).2.1
      rw [e1] at this; cases this
  · obtain ⟨out, ns, i, c, q, h1, h2, h3⟩ := x.fr.fd a b e
    refine ⟨?_, ns, i, c, q, h1, join_l _ _ h2, h3⟩
    unfold join
    rw [out]
    cases q : G a with
    | none => rfl
    | some w => exact absurd e ((ng a w q).1 b)
theorem Rv.up {κ κ' : Kd} {p : Pf} {F H F' H' : Hp} {v : V} {d : D} {R : Prop} (hk : kUp κ κ' = true) (x : Ext p F H F' H') (r : Rv κ p H F' H' v d) (h : ∀ F', Ext p F H F' H' → Rv κ' p H F' H' v d → R) : R := by
  cases κ <;> cases κ' <;> first | (cases hk; done) | skip
  · exact h F' x r
  · exact h F' x (.inl r)
  · exact h F' x (Rp.vw x.fr r)
  · obtain ⟨a, o, rfl, h0, f, e, n, r⟩ := r
    refine h (upd F' a o) ⟨x.ff.trans (same_new f), x.hh, fun b u e1 e2 => ?_, x.fr.freeze e f n⟩ ((r.mono (same_new f)).rp upd_same)
    rw [upd_ne (ne_of_none e1 h0)]
    exact x.nw b u e1 e2
  · exact h F' x r
  · exact h F' x (New.top r)
  · exact h F' x (Top.vw x.fr (New.top r))
  · rename_i n
    obtain rfl : n = 1 := by simpa [kUp] using hk
    exact h F' x (New.dp1 r)
  · exact h F' x r
  · exact h F' x (Top.vw x.fr r)
  · exact h F' x r
  · exact Dpn.fz x r h
  · exact Dpn.fz x r fun F2 x2 r2 => h F2 x2 (.inl r2)
  · obtain ⟨G, s, n, r⟩ := r
    exact h F' x (un_vw x.fr s (fun a o e => ⟨(n a o e).1, (n a o e).2.2⟩) r)
  · rename_i n m
    obtain rfl : n = m := by simpa [kUp] using hk
    exact h F' x r
section
variable {X : Cx} {O : Os}
theorem DE.up {κ κ' : Kd} {e : Expr} {t : ED} (h : DE X O κ e t) (hk : kUp κ κ' = true := by rfl) : DE X O κ' e t := by
  refine ⟨pe_imp h.pe fun σ H Q ⟨B, C, F, δ, s, w⟩ => ⟨B, C, F, δ, s, h.mono _ _ _ (fun d q F' H' v x r => ?_) w⟩, h.mono⟩
  exact r.up hk x fun F2 x2 r2 => q F2 H' v x2 r2
/-! ### names, constants -/
def eVar (i : Nat) : ED := fun δ Q => ∃ d, δ[i]? = some (some d) ∧ Q d
def eC (d : D) : ED := fun _ Q => Q d
theorem de_var {i : Nat} {x : Str} {pos : Pos} {κ : Kd} (hk : canRd (O.getD i .fz) κ = true := by rfl) (h : PE X (.Name x pos) (tVar i)) : DE X O κ (.Name x pos) (eVar i) := by
  refine ⟨pe_imp h fun σ H Q ⟨B, C, F, δ, s, d, e, w⟩ => ?_, fun δ Q Q' h ⟨d, e, w⟩ => ⟨d, e, h d w⟩⟩
  obtain ⟨v, hv, r⟩ := s.at_ i d e
  exact ⟨v, hv, w F H v (.refl s.fr) (r.rv s.fr (s.sub i) (fun a o e => ⟨(s.out i a o e).1, (s.out i a o e).2.2⟩) hk)⟩
theorem de_const {κ : Kd} {e : Expr} {v : V} {d : D} (h : PE X e (tC v)) (r : Rp none (fun _ => none) v d) (f : d.flat) (hk : κ ≠ .nw := by decide) : DE X O κ e (eC d) :=
  ⟨pe_imp h fun σ H Q ⟨B, C, F, δ, s, w⟩ => w F H v (.refl s.fr) (flat_rv r f hk s.fr), fun δ Q Q' h w => h d w⟩
theorem de_int {κ : Kd} {i j pos} (hk : κ ≠ .nw := by decide) : DE X O κ (.Constant (.int i) j pos) (eC (.int i)) := de_const pe_int (.int i) trivial hk
theorem de_bl {κ : Kd} {i j pos} (hk : κ ≠ .nw := by decide) : DE X O κ (.Constant (.bool i) j pos) (eC (.bl i)) := de_const pe_bl (.bl i) trivial hk
theorem de_non {κ : Kd} {j pos} (hk : κ ≠ .nw := by decide) : DE X O κ (.Constant .none j pos) (eC .non) := de_const pe_non .non trivial hk
theorem de_str {κ : Kd} {i j pos} (hk : κ ≠ .nw := by decide) : DE X O κ (.Constant (.str i) j pos) (eC (.str i)) := de_const pe_str (.str i) trivial hk
theorem de_globI {κ : Kd} {x : Str} {i : Int} {t : Tok} {pos : Pos} (hg : Gl X x) (hm : X.mg x = some (.int i t)) (hd : (x == ("__debug__" : Str)) = false := by decide) (hk : κ ≠ .nw := by decide) : DE X O κ (.Name x pos) (eC (.int i)) :=
  de_const (pe_glob (v := .int i) hg hm ⟨t, rfl⟩ hd) (.int i) trivial hk

/-! ### operators -/
structure OpD (κa κb κ : Kd) (r : R2) (g : D → D → (D → Prop) → Prop) : Prop where
  step : ∀ p H0 F H x y dx dy Q, Fr p F H → Rv κa p H0 F H x dx → Rv κb p H0 F H y dy → g dx dy (fun d => ∀ F' H' v, Ext p F H F' H' → Rv κ p H F' H' v d → Q v H') → r x y H Q
  mono : ∀ dx dy (Q Q' : D → Prop), (∀ d, Q d → Q' d) → g dx dy Q → g dx dy Q'
structure UnD (κa κ : Kd) (r : V → Hp → VK → Prop) (g : D → (D → Prop) → Prop) : Prop where
  step : ∀ p H0 F H x dx Q, Fr p F H → Rv κa p H0 F H x dx → g dx (fun d => ∀ F' H' v, Ext p F H F' H' → Rv κ p H F' H' v d → Q v H') → r x H Q
  mono : ∀ dx (Q Q' : D → Prop), (∀ d, Q d → Q' d) → g dx Q → g dx Q'
structure ArD (κa κ : Kd) (r : List V → Hp → VK → Prop) (g : List D → (D → Prop) → Prop) : Prop where
  step : ∀ p H0 F H xs ds Q, Fr p F H → RvL κa p H0 F H xs ds → g ds (fun d => ∀ F' H' v, Ext p F H F' H' → Rv κ p H F' H' v d → Q v H') → r xs H Q
  mono : ∀ ds (Q Q' : D → Prop), (∀ d, Q d → Q' d) → g ds Q → g ds Q'
def e2 (g : D → D → (D → Prop) → Prop) (ta tb : ED) : ED := fun δ Q => ta δ fun x => tb δ fun y => g x y Q
def e1 (g : D → (D → Prop) → Prop) (ta : ED) : ED := fun δ Q => ta δ fun x => g x Q
def eA (g : List D → (D → Prop) → Prop) (ta : AD) : ED := fun δ Q => ta δ fun xs => g xs Q
theorem back_since {p : Pf} {F H F' H' : Hp} (x : Ext p F H F' H') : ∀ a, H' a = none → H a = none := fun a e => x.back e
/-- two in a row -/
theorem bin_low {κa κb κ : Kd} {a b : Expr} {ta tb : ED} {r : R2} {g : D → D → (D → Prop) → Prop} (hg : OpD κa κb κ r g) (ha : DE X O κa a ta) (hb : DE X O κb b tb) {σ : St} {H : Hp} {Q : VK} (h : liftE O κ (e2 g ta tb) σ H Q) :
    tOp r (liftE O κa ta) (liftE O κb tb) σ H Q := by
  obtain ⟨B, C, F, δ, s, w⟩ := h
  refine ⟨B, C, F, δ, s, ha.mono _ _ _ (fun x w F1 H1 v x1 r1 => ?_) w⟩
  refine ⟨B, C, F1, δ, s.step x1, hb.mono _ _ _ (fun y w F2 H2 u x2 r2 => ?_) w⟩
  refine hg.step B.p H F2 H2 v u x y Q x2.fr (r1.step x2) (r2.since (back_since x1)) (hg.mono _ _ _ _ (fun d q F' H' z x' r' => ?_) w)
  have x12 := x1.trans s.fr x2
  exact q F' H' z (x12.trans s.fr x') (r'.since (back_since x12))
theorem e2_mono {g : D → D → (D → Prop) → Prop} {ta tb : ED} (ma : MonoE ta) (mb : MonoE tb) (mg : ∀ dx dy (Q Q' : D → Prop), (∀ d, Q d → Q' d) → g dx dy Q → g dx dy Q') : MonoE (e2 g ta tb) :=
  fun δ Q Q' h w => ma _ _ _ (fun x w => mb _ _ _ (fun y w => mg _ _ _ _ h w) w) w
theorem de_bin {κa κb κ : Kd} {op : Operator} {a b : Expr} {pos : Pos} {ta tb : ED} {r : R2} {g : D → D → (D → Prop) → Prop} (ho : OpR X (binaryOp op) r) (hg : OpD κa κb κ r g) (ha : DE X O κa a ta) (hb : DE X O κb b tb) : DE X O κ (.BinOp a op b pos) (e2 g ta tb) :=
  ⟨pe_imp (pe_op ho ha.pe hb.pe) fun σ H Q h => bin_low hg ha hb h, e2_mono ha.mono hb.mono hg.mono⟩
theorem de_cmp {κa κb κ : Kd} {op : CmpOp} {a b : Expr} {pos : Pos} {ta tb : ED} {r : R2} {g : D → D → (D → Prop) → Prop} (ho : OpR X (compareOp op) r) (hg : OpD κa κb κ r g) (ha : DE X O κa a ta) (hb : DE X O κb b tb) (hm : behindInMarks op b = false) : DE X O κ (.Compare a [op] [b] pos) (e2 g ta tb) :=
  ⟨pe_imp (pe_cmpR ho ha.pe hb.pe hm) fun σ H Q h => bin_low hg ha hb h, e2_mono ha.mono hb.mono hg.mono⟩
theorem de_ix {κa κb κ : Kd} {a b : Expr} {pos : Pos} {ta tb : ED} {r : R2} {g : D → D → (D → Prop) → Prop} (ho : IxR X r) (hg : OpD κa κb κ r g) (ha : DE X O κa a ta) (hb : DE X O κb b tb) (hs : PlainIx b) : DE X O κ (.Subscript a b pos) (e2 g ta tb) :=
  ⟨pe_imp (pe_ix ho ha.pe hb.pe hs) fun σ H Q h => bin_low hg ha hb h, e2_mono ha.mono hb.mono hg.mono⟩
theorem e1_mono {g : D → (D → Prop) → Prop} {ta : ED} (ma : MonoE ta) (mg : ∀ dx (Q Q' : D → Prop), (∀ d, Q d → Q' d) → g dx Q → g dx Q') : MonoE (e1 g ta) :=
  fun δ Q Q' h w => ma _ _ _ (fun x w => mg _ _ _ h w) w
theorem un_low {κa κ : Kd} {a : Expr} {ta : ED} {r : V → Hp → VK → Prop} {g : D → (D → Prop) → Prop} (hg : UnD κa κ r g) (ha : DE X O κa a ta) {σ : St} {H : Hp} {Q : VK} (h : liftE O κ (e1 g ta) σ H Q) : liftE O κa ta σ H (fun x H1 => r x H1 Q) := by
  obtain ⟨B, C, F, δ, s, w⟩ := h
  refine ⟨B, C, F, δ, s, ha.mono _ _ _ (fun x w F1 H1 v x1 r1 => ?_) w⟩
  refine hg.step B.p H F1 H1 v x Q x1.fr r1 (hg.mono _ _ _ (fun d q F' H' z x' r' => ?_) w)
  exact q F' H' z (x1.trans s.fr x') (r'.since (back_since x1))
theorem de_un {κa κ : Kd} {op : UnaryOp} {a : Expr} {pos : Pos} {ta : ED} {r : V → Hp → VK → Prop} {g : D → (D → Prop) → Prop} (ho : UnR X (unaryOp op) r) (hg : UnD κa κ r g) (ha : DE X O κa a ta) : DE X O κ (.UnaryOp op a pos) (e1 g ta) :=
  ⟨pe_imp (pe_un ho ha.pe) fun σ H Q h => un_low hg ha h, e1_mono ha.mono hg.mono⟩
/-! ### argument lists -/
def aNil : AD := fun _ Q => Q []
def aCons (ta : ED) (tr : AD) : AD := fun δ Q => ta δ fun x => tr δ fun xs => Q (x :: xs)
theorem da_nil {κ : Kd} : DA X O κ [] aNil := ⟨pa_imp pa_nil fun σ H Q ⟨B, C, F, δ, s, w⟩ => w F H [] (.refl s.fr) .nil, fun δ Q Q' h w => h _ w, fun δ Q w => ⟨rfl, w⟩⟩
theorem da_cons {κ : Kd} {e : Expr} {es : List Expr} {te : ED} {t : AD} (ha : DE X O κ e te) (hr : DA X O κ es t) (hs : starEach (e :: es) X.env = (false, eval e X.env) :: starEach es X.env := by rfl) : DA X O κ (e :: es) (aCons te t) := by
  refine ⟨pa_imp (pa_cons ha.pe hr.pa hs) fun σ H Q ⟨B, C, F, δ, s, w⟩ => ?_, fun δ Q Q' h w => ha.mono _ _ _ (fun x w => hr.mono _ _ _ (fun xs w => h _ w) w) w, fun δ Q w => ha.mono _ _ _ (fun x w => hr.mono _ _ _ (fun xs ⟨l, q⟩ => ⟨by simp [l], q⟩) (hr.len _ _ w)) w⟩
  refine ⟨B, C, F, δ, s, ha.mono _ _ _ (fun x w F1 H1 v x1 r1 => ?_) w⟩
  refine ⟨B, C, F1, δ, s.step x1, hr.mono _ _ _ (fun xs w F2 H2 vs x2 r2 => ?_) w⟩
  exact w F2 H2 (v :: vs) (x1.trans s.fr x2) (.cons (r1.step x2) (r2.since (back_since x1)))
theorem eA_mono {g : List D → (D → Prop) → Prop} {ta : AD} (ma : MonoA ta) (mg : ∀ ds (Q Q' : D → Prop), (∀ d, Q d → Q' d) → g ds Q → g ds Q') : MonoE (eA g ta) := fun δ Q Q' h w => ma _ _ _ (fun x w => mg _ _ _ h w) w
theorem ar_low {κa κ : Kd} {es : List Expr} {ta : AD} {r : List V → Hp → VK → Prop} {g : List D → (D → Prop) → Prop} (hg : ArD κa κ r g) (ha : DA X O κa es ta) {σ : St} {H : Hp} {Q : VK} (h : liftE O κ (eA g ta) σ H Q) : liftA O κa ta σ H (fun xs H1 => r xs H1 Q) := by
  obtain ⟨B, C, F, δ, s, w⟩ := h
  refine ⟨B, C, F, δ, s, ha.mono _ _ _ (fun x w F1 H1 v x1 r1 => ?_) w⟩
  refine hg.step B.p H F1 H1 v x Q x1.fr r1 (hg.mono _ _ _ (fun d q F' H' z x' r' => ?_) w)
  exact q F' H' z (x1.trans s.fr x') (r'.since (back_since x1))
theorem de_callB {κa κ : Kd} {x : Str} {p pos : Pos} {e : Expr} {es : List Expr} {id : String} {ta : AD} {r : List V → Hp → VK → Prop} {g : List D → (D → Prop) → Prop} (hc : CallR X (.builtin id) r) (hg : ArD κa κ r g) (gl : Gl X x) (hm : X.mg x = none) (hv : bootBuiltins x = some (.builtin id)) (ha : DA X O κa (e :: es) ta)
    (hn : x ≠ "__name__" := by decide) (hdb : (x == ("__debug__" : Str)) = false := by decide)
    (he : starEach (e :: es) X.env = (false, eval e X.env) :: starEach es X.env := by rfl) (hpl : (backTo pos (starEach es X.env)).any (·.1) = false := by rfl) : DE X O κ (.Call (.Name x p) (e :: es) [] pos) (eA g ta) :=
  ⟨pe_imp (pe_callB hc gl hm hv ha.pa hn hdb he hpl) fun σ H Q h => ar_low hg ha h, eA_mono ha.mono hg.mono⟩
theorem de_callTy {κa κ : Kd} {x : Str} {p pos : Pos} {e : Expr} {es : List Expr} {id : String} {ta : AD} {r : List V → Hp → VK → Prop} {g : List D → (D → Prop) → Prop} (hc : CallR X (.type id) r) (hg : ArD κa κ r g) (gl : Gl X x) (hm : X.mg x = none) (hv : bootBuiltins x = some (.type id)) (ha : DA X O κa (e :: es) ta)
    (hn : x ≠ "__name__" := by decide) (hdb : (x == ("__debug__" : Str)) = false := by decide)
    (he : starEach (e :: es) X.env = (false, eval e X.env) :: starEach es X.env := by rfl) (hpl : (backTo pos (starEach es X.env)).any (·.1) = false := by rfl) : DE X O κ (.Call (.Name x p) (e :: es) [] pos) (eA g ta) :=
  ⟨pe_imp (pe_callTy hc gl hm hv ha.pa hn hdb he hpl) fun σ H Q h => ar_low hg ha h, eA_mono ha.mono hg.mono⟩
/-- a written list, a written tuple -/
def gMkL : List D → (D → Prop) → Prop := fun ds Q => ds.length ≤ sizeLine ∧ Q (.lst ds)
def gMkT : List D → (D → Prop) → Prop := fun ds Q => ds.length ≤ sizeLine ∧ Q (.tup ds)
theorem de_lst {es : List Expr} {t : AD} {pos : Pos} (h : DA X O .fz es t) : DE X O .nw (.List es pos) (eA gMkL t) := by
  refine ⟨pe_imp (pe_lst h.pa) fun σ H Q ⟨B, C, F, δ, s, w⟩ => ?_, eA_mono h.mono fun ds Q Q' i w => ⟨w.1, i _ w.2⟩⟩
  refine ⟨B, C, F, δ, s, h.mono _ _ _ (fun xs w F1 H1 vs x1 r1 => ?_) w⟩
  have r1 := r1.rp
  refine ⟨by rw [r1.len]; exact w.1, fun a na => ?_⟩
  exact w.2 F1 _ _ (x1.trans s.fr (Ext.lay x1.fr na)) ⟨a, _, rfl, x1.back na, x1.fr.fh.free na, upd_same, x1.fr.ne_none na, r1⟩
theorem de_tup {es : List Expr} {t : AD} {pos : Pos} {x1} (h : DA X O .fz es t) : DE X O .nw (.Tuple es x1 pos) (eA gMkT t) := by
  refine ⟨pe_imp (pe_tup h.pa) fun σ H Q ⟨B, C, F, δ, s, w⟩ => ?_, eA_mono h.mono fun ds Q Q' i w => ⟨w.1, i _ w.2⟩⟩
  refine ⟨B, C, F, δ, s, h.mono _ _ _ (fun xs w F1 H1 vs x1 r1 => ?_) w⟩
  have r1 := r1.rp
  refine ⟨by rw [r1.len]; exact w.1, fun a na => ?_⟩
  exact w.2 F1 _ _ (x1.trans s.fr (Ext.lay x1.fr na)) ⟨a, _, rfl, x1.back na, x1.fr.fh.free na, upd_same, x1.fr.ne_none na, r1⟩
end
end DL
end

/-! part: DL3 -/
section
set_option Elab.async false
set_option linter.all false
set_option maxRecDepth 100000
set_option maxHeartbeats 2000000
namespace DL
open PySem PySem.Spec L2
open PyProof.Rows hiding St
/-! ### 6. tests -/
def tBd (t : ED) : TD := fun δ Q => t δ fun x => ∃ b, x = .bl b ∧ Q b
def truD : D → Option Bool
  | .non => some false | .bl b => some b | .int i => some (i != 0) | .str x => if x.length ≤ sizeLine then some ((x.length : Int) != 0) else none | .lst l => some (!l.isEmpty) | .tup l => some (!l.isEmpty) | _ => none
def tTru (t : ED) : TD := fun δ Q => t δ fun x => ∃ b, truD x = some b ∧ Q b
section
variable {X : Cx} {O : Os}
theorem tBd_mono {t : ED} (m : MonoE t) : MonoT (tBd t) := fun δ Q Q' h w => m _ _ _ (fun x ⟨b, e, q⟩ => ⟨b, e, h b q⟩) w
theorem tBd_low {t : ED} {κ : Kd} (hk : κ ≠ .nw) (m : MonoE t) {σ : St} {H : Hp} {Q : Bool → Hp → Prop} (h : liftT O (tBd t) σ H Q) : liftE O κ t σ H (fun x H' => ∃ k, x = .bl k ∧ Q k H') := by
  obtain ⟨B, C, F, δ, s, w⟩ := h
  refine ⟨B, C, F, δ, s, m _ _ _ (fun x ⟨b, e, q⟩ F' H' v x' r => ?_) w⟩
  subst e
  have hv : v = .bl b := by
    cases κ with
    | fz => exact Rp.bl_inv r
    | nw => exact absurd rfl hk
    | tp =>
      rcases r with r | ⟨a, o, rfl, _, _, r⟩
      · exact Rp.bl_inv r
      · cases o <;> exact r.elim
    | vw =>
      obtain ⟨_, _, _, r⟩ := r
      exact Rp.bl_inv r
    | dp n =>
      obtain ⟨_, _, _, r⟩ := r
      exact Un.bl_inv r
  exact ⟨b, hv, q F' H' x'⟩
theorem dt_val {e : Expr} {t : ED} (h : DE X O .fz e t) (he : ∀ whole, isTrue e X.env whole = (do let v ← whole; standAt e.pos; holding [v] (truthy v)) := by intro _; rfl) : DT X O e (tBd t) :=
  ⟨pt_imp (pt_val h.pe he) fun σ H Q w => tBd_low (by decide) h.mono w, tBd_mono h.mono⟩
theorem dt_cmp {κa κb : Kd} {op : CmpOp} {a b : Expr} {pos : Pos} {ta tb : ED} {r : R2} {g : D → D → (D → Prop) → Prop} (ho : OpR X (compareOp op) r) (hg : OpD κa κb .fz r g) (ha : DE X O κa a ta) (hb : DE X O κb b tb) (hm : behindInMarks op b = false) : DT X O (.Compare a [op] [b] pos) (tBd (e2 g ta tb)) :=
  ⟨pt_imp (pt_cmpR ho ha.pe hb.pe hm) fun σ H Q w => bin_low hg ha hb (tBd_low (κ := .fz) (by decide) (e2_mono ha.mono hb.mono hg.mono) w), tBd_mono (e2_mono ha.mono hb.mono hg.mono)⟩
/-- a view's own truth -/
theorem vw_tru {K : PySem.W.Frag} {p : Pf} {H : Hp} {v : V} {d : D} {b : Bool} (r : Vw p H v d) (e : truD d = some b) : TruV K v H b := by
  obtain ⟨G, s, n, r⟩ := r
  cases r with
  | non => exact (Option.some.inj e).symm
  | bl c => exact (Option.some.inj e).symm
  | int i => exact (Option.some.inj e).symm
  | str x =>
    have e' : (if x.length ≤ sizeLine then some ((x.length : Int) != 0) else none) = some b := e
    by_cases h : x.length ≤ sizeLine
    · rw [if_pos h] at e'
      exact ⟨h, (Option.some.inj e').symm⟩
    · rw [if_neg h] at e'
      cases e'
  | fd a c q => cases e
  | lst a vs ds q l f =>
    refine .inl ⟨vs, .inl (.inl (s _ _ q)), ?_⟩
    have := Option.some.inj e
    rw [← this]
    cases vs <;> cases ds <;> simp_all
  | tup a vs ds q l f =>
    refine .inr (.inl ⟨vs, .inl (.inl (s _ _ q)), ?_⟩)
    have := Option.some.inj e
    rw [← this]
    cases vs <;> cases ds <;> simp_all
  | dct a kvs l q k f => cases e
  | ob a dd fl x q => cases e
theorem tTru_mono {t : ED} (m : MonoE t) : MonoT (tTru t) := fun δ Q Q' h w => m _ _ _ (fun x ⟨b, e, q⟩ => ⟨b, e, h b q⟩) w
theorem dt_tru {e : Expr} {t : ED} (h : DE X O .vw e t) (he : ∀ whole, isTrue e X.env whole = (do let v ← whole; standAt e.pos; holding [v] (truthy v)) := by intro _; rfl) : DT X O e (tTru t) := by
  refine ⟨pt_imp (pt_truth h.pe he) fun σ H Q ⟨B, C, F, δ, s, w⟩ => ?_, tTru_mono h.mono⟩
  exact ⟨B, C, F, δ, s, h.mono _ _ _ (fun x ⟨b, e, q⟩ F' H' v x' r => ⟨b, vw_tru r e, q F' H' x'⟩) w⟩
def tAndD (t u : TD) : TD := fun δ Q => t δ fun c => if c = true then u δ Q else Q false
def tOrD (t u : TD) : TD := fun δ Q => t δ fun c => if c = true then Q true else u δ Q
def tNotD (t : TD) : TD := fun δ Q => t δ fun c => Q (!c)
variable {a b c : Expr} {rest : List Expr} {pos : Pos} {tA tB : TD}
theorem DW.dt {e : Expr} (h : DW X O e tA) : DT X O e tA := ⟨h.pw.pt, h.mono⟩
theorem dw_and1 (ha : DT X O a tA) : DW X O (.BoolOp .And [a] pos) tA := ⟨pw_and1 ha.pt, ha.mono⟩
theorem dw_or1 (ha : DT X O a tA) : DW X O (.BoolOp .Or [a] pos) tA := ⟨pw_or1 ha.pt, ha.mono⟩
theorem lift_tAnd (ma : MonoT tA) (mb : MonoT tB) {σ : St} {H : Hp} {Q : Bool → Hp → Prop} (h : liftT O (tAndD tA tB) σ H Q) : tAnd (liftT O tA) (liftT O tB) σ H Q := by
  obtain ⟨B, C, F, δ, s, w⟩ := h
  refine ⟨B, C, F, δ, s, ma _ _ _ (fun c w F1 H1 x1 => ?_) w⟩
  cases c with
  | true => exact iteT ⟨B, C, F1, δ, s.step x1, mb _ _ _ (fun c q F2 H2 x2 => q F2 H2 (x1.trans s.fr x2)) w⟩
  | false => exact iteF (w F1 H1 x1)
theorem lift_tOr (ma : MonoT tA) (mb : MonoT tB) {σ : St} {H : Hp} {Q : Bool → Hp → Prop} (h : liftT O (tOrD tA tB) σ H Q) : tOr (liftT O tA) (liftT O tB) σ H Q := by
  obtain ⟨B, C, F, δ, s, w⟩ := h
  refine ⟨B, C, F, δ, s, ma _ _ _ (fun c w F1 H1 x1 => ?_) w⟩
  cases c with
  | false => exact iteF ⟨B, C, F1, δ, s.step x1, mb _ _ _ (fun c q F2 H2 x2 => q F2 H2 (x1.trans s.fr x2)) w⟩
  | true => exact iteT (w F1 H1 x1)
theorem tAnd_mono (ma : MonoT tA) (mb : MonoT tB) : MonoT (tAndD tA tB) := fun δ Q Q' h w => ma _ _ _ (fun c w => by
  cases c with
  | true => exact mb _ _ _ h w
  | false => exact h _ w) w
theorem tOr_mono (ma : MonoT tA) (mb : MonoT tB) : MonoT (tOrD tA tB) := fun δ Q Q' h w => ma _ _ _ (fun c w => by
  cases c with
  | false => exact mb _ _ _ h w
  | true => exact h _ w) w
theorem dw_and (ha : DT X O a tA) (hb : DW X O (.BoolOp .And (b :: rest) pos) tB) : DW X O (.BoolOp .And (a :: b :: rest) pos) (tAndD tA tB) :=
  ⟨pw_imp (pw_and ha.pt hb.pw) fun σ H Q w => lift_tAnd ha.mono hb.mono w, tAnd_mono ha.mono hb.mono⟩
theorem dw_or (ha : DT X O a tA) (hb : DW X O (.BoolOp .Or (b :: rest) pos) tB) : DW X O (.BoolOp .Or (a :: b :: rest) pos) (tOrD tA tB) :=
  ⟨pw_imp (pw_or ha.pt hb.pw) fun σ H Q w => lift_tOr ha.mono hb.mono w, tOr_mono ha.mono hb.mono⟩
theorem dt_not (ha : DT X O a tA) : DT X O (.UnaryOp .Not a pos) (tNotD tA) :=
  ⟨pt_imp (pt_not ha.pt) fun σ H Q ⟨B, C, F, δ, s, w⟩ => ⟨B, C, F, δ, s, w⟩, fun δ Q Q' h w => ha.mono _ _ _ (fun c w => h _ w) w⟩
/-! ### and, or, not as values (bools) -/
def eAndD (ta tb : ED) : ED := fun δ Q => ta δ fun x => ∃ c, x = .bl c ∧ if c = true then tb δ Q else Q (.bl false)
def eOrD (ta tb : ED) : ED := fun δ Q => ta δ fun x => ∃ c, x = .bl c ∧ if c = true then Q (.bl true) else tb δ Q
variable {ta tb : ED}
theorem de_one {κ : Kd} {op} {t : ED} (h : DE X O κ a t) : DE X O κ (.BoolOp op [a] pos) t := ⟨pe_one h.pe, h.mono⟩
theorem eAnd_mono (ma : MonoE ta) (mb : MonoE tb) : MonoE (eAndD ta tb) := fun δ Q Q' h w => ma _ _ _ (fun x ⟨c, e, w⟩ => ⟨c, e, by
  cases c with
  | true => exact mb _ _ _ h w
  | false => exact h _ w⟩) w
theorem eOr_mono (ma : MonoE ta) (mb : MonoE tb) : MonoE (eOrD ta tb) := fun δ Q Q' h w => ma _ _ _ (fun x ⟨c, e, w⟩ => ⟨c, e, by
  cases c with
  | false => exact mb _ _ _ h w
  | true => exact h _ w⟩) w
theorem de_and {κ : Kd} (hk : κ ≠ .nw) (ha : DE X O .fz a ta) (hb : DE X O κ (.BoolOp .And (b :: rest) pos) tb) : DE X O κ (.BoolOp .And (a :: b :: rest) pos) (eAndD ta tb) := by
  refine ⟨pe_imp (pe_and ha.pe hb.pe) fun σ H Q ⟨B, C, F, δ, s, w⟩ => ?_, eAnd_mono ha.mono hb.mono⟩
  refine ⟨B, C, F, δ, s, ha.mono _ _ _ (fun x ⟨c, e, w⟩ F1 H1 v x1 r1 => ?_) w⟩
  subst e
  refine ⟨c, Rp.bl_inv r1, ?_⟩
  cases c with
  | true => exact iteT ⟨B, C, F1, δ, s.step x1, hb.mono _ _ _ (fun d q F2 H2 v x2 r => q F2 H2 v (x1.trans s.fr x2) (r.since (back_since x1))) w⟩
  | false => exact iteF (w F1 H1 _ x1 (flat_rv (p := B.p) (.bl (p := B.p) (F := F1) false) trivial hk x1.fr))
theorem de_or {κ : Kd} (hk : κ ≠ .nw) (ha : DE X O .fz a ta) (hb : DE X O κ (.BoolOp .Or (b :: rest) pos) tb) : DE X O κ (.BoolOp .Or (a :: b :: rest) pos) (eOrD ta tb) := by
  refine ⟨pe_imp (pe_or ha.pe hb.pe) fun σ H Q ⟨B, C, F, δ, s, w⟩ => ?_, eOr_mono ha.mono hb.mono⟩
  refine ⟨B, C, F, δ, s, ha.mono _ _ _ (fun x ⟨c, e, w⟩ F1 H1 v x1 r1 => ?_) w⟩
  subst e
  refine ⟨c, Rp.bl_inv r1, ?_⟩
  cases c with
  | false => exact iteF ⟨B, C, F1, δ, s.step x1, hb.mono _ _ _ (fun d q F2 H2 v x2 r => q F2 H2 v (x1.trans s.fr x2) (r.since (back_since x1))) w⟩
  | true => exact iteT (w F1 H1 _ x1 (flat_rv (p := B.p) (.bl (p := B.p) (F := F1) true) trivial hk x1.fr))
def eNotD (ta : ED) : ED := fun δ Q => ta δ fun x => ∃ c, truD x = some c ∧ Q (.bl (!c))
theorem de_not {κ : Kd} (hk : κ ≠ .nw) (ha : DE X O .vw a ta) : DE X O κ (.UnaryOp .Not a pos) (eNotD ta) := by
  refine ⟨pe_imp (pe_notT ha.pe) fun σ H Q ⟨B, C, F, δ, s, w⟩ => ?_, fun δ Q Q' h w => ha.mono _ _ _ (fun x ⟨c, e, w⟩ => ⟨c, e, h _ w⟩) w⟩
  exact ⟨B, C, F, δ, s, ha.mono _ _ _ (fun x ⟨c, e, w⟩ F1 H1 v x1 r1 => ⟨c, vw_tru r1 e, w F1 H1 _ x1 (flat_rv (p := B.p) (.bl (p := B.p) (F := F1) (!c)) trivial hk x1.fr)⟩) w⟩
/-- a op1 b op2 c -/
def eChain (g g' : D → D → (D → Prop) → Prop) (ta tb tc : ED) : ED := fun δ Q => ta δ fun x => tb δ fun y => g x y fun z => ∃ k, z = .bl k ∧ if k = true then tc δ fun w => g' y w Q else Q (.bl false)
end

/-! ### 7. blocks and small statements -/
def setC (C : Nat → Hp) (i : Nat) (G : Hp) : Nat → Hp := fun j => if j = i then G else C j
theorem setC_same {C : Nat → Hp} {i : Nat} {G : Hp} : setC C i G i = G := by unfold setC; rw [if_pos rfl]
theorem setC_ne {C : Nat → Hp} {i j : Nat} {G : Hp} (h : j ≠ i) : setC C i G j = C j := by unfold setC; rw [if_neg h]
theorem getD_set_same {O : Os} {i : Nat} {k : Kd} (h : i < O.length) : (O.set i k).getD i .fz = k := by
  rw [List.getD_eq_getElem?_getD, List.getElem?_set_self h]; rfl
theorem getD_set_ne {O : Os} {i j : Nat} {k : Kd} (h : i ≠ j) : (O.set i k).getD j .fz = O.getD j .fz := by
  rw [List.getD_eq_getElem?_getD, List.getElem?_set_ne h, ← List.getD_eq_getElem?_getD]
theorem getD_set_fz {O : Os} {i : Nat} : (O.set i .fz).getD i .fz = .fz := by
  by_cases h : i < O.length
  · exact getD_set_same h
  · rw [List.getD_eq_getElem?_getD, List.getElem?_eq_none (by simpa using h)]; rfl
section
variable {O : Os} {B : Bs} {C : Nat → Hp} {F : Hp} {σ : St} {H : Hp} {δ : DS}
theorem SR.lenO (s : SR O B C F σ H δ) {i : Nat} : i < σ.length ↔ i < δ.length := by rw [s.len]
/-- a slot gets a frozen value -/
theorem SR.set (s : SR O B C F σ H δ) (i : Nat) {v : V} {d : D} (r : Rp B.p F v d) : SR (O.set i .fz) B (setC C i emp) F (σ.set i (some v)) H (δ.set i (some d)) := by
  refine ⟨s.f0, s.ext, by simp [s.len], fun j => ?_, fun j a o e => ?_, fun j k a o ne e => ?_, fun j e h => ?_⟩
  · by_cases hj : j = i
    · subst hj; rw [setC_same]; exact fun _ _ z => nomatch z
    · rw [setC_ne hj]; exact s.sub j
  · by_cases hj : j = i
    · subst hj; rw [setC_same] at e; cases e
    · rw [setC_ne hj] at e; exact s.out j a o e
  · by_cases hj : j = i
    · subst hj; rw [setC_same] at e; cases e
    · rw [setC_ne hj] at e
      by_cases hk : k = i
      · subst hk; rw [setC_same]; rfl
      · rw [setC_ne hk]; exact s.dis j k a o ne e
  · by_cases hj : i = j
    · subst hj
      have hi : i < δ.length := by
        have := (List.getElem?_eq_some_iff.mp h).1
        simpa using this
      rw [List.getElem?_set_self hi] at h
      cases h
      refine ⟨v, by rw [List.getElem?_set_self (by rw [s.len]; exact hi)], ?_⟩
      rw [getD_set_fz]
      exact r
    · rw [List.getElem?_set_ne hj] at h
      obtain ⟨w, h1, h2⟩ := s.at_ j e h
      refine ⟨w, by rw [List.getElem?_set_ne hj]; exact h1, ?_⟩
      rw [getD_set_ne hj, setC_ne (Ne.symm hj)]
      exact h2
/-- a slot gets an object of its own -/
theorem SR.setN (s : SR O B C F σ H δ) (i : Nat) (hi : i < O.length) {v : V} {d : D} (r : New B.p B.H F H v d) (nc : ∀ a, v = .ref a → ∀ j, j ≠ i → C j a = none) :
    ∃ c o, v = .ref c ∧ H c = some o ∧ SR (O.set i .nw) B (setC C i (one_ c o)) F (σ.set i (some v)) H (δ.set i (some d)) := by
  obtain ⟨c, o, rfl, h0, hf, h, np, r⟩ := r
  refine ⟨c, o, rfl, h, s.f0, s.ext, by simp [s.len], fun j => ?_, fun j a u e => ?_, fun j k a u ne e => ?_, fun j e h' => ?_⟩
  · by_cases hj : j = i
    · subst hj; rw [setC_same]; intro a u e
      obtain ⟨rfl, rfl⟩ := one_only e
      exact h
    · rw [setC_ne hj]; exact s.sub j
  · by_cases hj : j = i
    · subst hj; rw [setC_same] at e
      obtain ⟨rfl, rfl⟩ := one_only e
      exact ⟨np, h0, hf⟩
    · rw [setC_ne hj] at e; exact s.out j a u e
  · by_cases hj : j = i
    · subst hj; rw [setC_same] at e
      obtain ⟨rfl, rfl⟩ := one_only e
      rw [setC_ne (Ne.symm ne)]
      exact nc _ rfl k (Ne.symm ne)
    · rw [setC_ne hj] at e
      by_cases hk : k = i
      · subst hk; rw [setC_same]
        cases q : one_ c o a with
        | none => rfl
        | some w =>
          obtain ⟨rfl, _⟩ := one_only q
          rw [nc _ rfl j hj] at e; cases e
      · rw [setC_ne hk]; exact s.dis j k a u ne e
  · by_cases hj : i = j
    · subst hj
      have hi' : i < δ.length := by
        have := (List.getElem?_eq_some_iff.mp h').1
        simpa using this
      rw [List.getElem?_set_self hi'] at h'
      cases h'
      refine ⟨_, by rw [List.getElem?_set_self (by rw [s.len]; exact hi')], ?_⟩
      rw [getD_set_same hi, setC_same]
      exact ⟨c, o, rfl, one_at, fun a u z => (one_only z).1, r⟩
    · rw [List.getElem?_set_ne hj] at h'
      obtain ⟨w, h1, h2⟩ := s.at_ j e h'
      refine ⟨w, by rw [List.getElem?_set_ne hj]; exact h1, ?_⟩
      rw [getD_set_ne hj, setC_ne (Ne.symm hj)]
      exact h2
/-- a slot gets a region of its own -/
theorem SR.setR (s : SR O B C F σ H δ) (i : Nat) (hi : i < O.length) {v : V} {d : D} {G : Hp} {m : Nat} (sg : Same G H) (ng : ∀ a o, G a = some o → ne_p B.p a ∧ B.H a = none ∧ F a = none) (r : Un B.p F G m v d) (nc : ∀ a o, G a = some o → ∀ j, j ≠ i → C j a = none) :
    SR (O.set i (.dp m)) B (setC C i G) F (σ.set i (some v)) H (δ.set i (some d)) := by
  refine ⟨s.f0, s.ext, by simp [s.len], fun j => ?_, fun j a u e => ?_, fun j k a u ne e => ?_, fun j e h' => ?_⟩
  · by_cases hj : j = i
    · subst hj; rw [setC_same]; exact sg
    · rw [setC_ne hj]; exact s.sub j
  · by_cases hj : j = i
    · subst hj; rw [setC_same] at e; exact ng a u e
    · rw [setC_ne hj] at e; exact s.out j a u e
  · by_cases hj : j = i
    · subst hj; rw [setC_same] at e
      rw [setC_ne (Ne.symm ne)]
      exact nc a u e k (Ne.symm ne)
    · rw [setC_ne hj] at e
      by_cases hk : k = i
      · subst hk; rw [setC_same]
        cases q : G a with
        | none => rfl
        | some w =>
          rw [nc a w q j hj] at e; cases e
      · rw [setC_ne hk]; exact s.dis j k a u ne e
  · by_cases hj : i = j
    · subst hj
      have hi' : i < δ.length := by
        have := (List.getElem?_eq_some_iff.mp h').1
        simpa using this
      rw [List.getElem?_set_self hi'] at h'
      cases h'
      refine ⟨_, by rw [List.getElem?_set_self (by rw [s.len]; exact hi')], ?_⟩
      rw [getD_set_same hi, setC_same]
      exact r
    · rw [List.getElem?_set_ne hj] at h'
      obtain ⟨w, h1, h2⟩ := s.at_ j e h'
      refine ⟨w, by rw [List.getElem?_set_ne hj]; exact h1, ?_⟩
      rw [getD_set_ne hj, setC_ne (Ne.symm hj)]
      exact h2
/-- slots forgotten -/
theorem SR.forget (s : SR O B C F σ H δ) {δ' : DS} (hl : δ'.length = δ.length) (h : ∀ (i : Nat) (d : D), δ'[i]? = some (some d) → δ[i]? = some (some d)) : SR O B C F σ H δ' :=
  ⟨s.f0, s.ext, s.len.trans hl.symm, s.sub, s.out, s.dis, fun i d e => s.at_ i d (h i d e)⟩
/-- an own object is frozen -/
theorem SR.frz (s : SR O B C F σ H δ) (i : Nat) : ∃ C' F', SR (O.set i .fz) B C' F' σ H δ ∧ Same F F' := by
  by_cases hi : ∃ d, δ[i]? = some (some d)
  · obtain ⟨d, hd⟩ := hi
    obtain ⟨v, hv, q⟩ := s.at_ i d hd
    cases hk : O.getD i .fz with
    | nw =>
      rw [hk] at q
      obtain ⟨c, o, rfl, hc, un, r⟩ := q
      obtain ⟨np, h0, hf⟩ := s.out i c o hc
      have hH := s.sub i c o hc
      have x : Ext B.p B.F B.H (upd F c o) H := ⟨s.ext.ff.trans (same_new hf), s.ext.hh, fun b u e1 e2 => by
        rw [upd_ne (ne_of_none e1 h0)]; exact s.ext.nw b u e1 e2, s.fr.freeze hH hf np⟩
      refine ⟨setC C i emp, upd F c o, ⟨s.f0, x, s.len, fun j => ?_, fun j a u e => ?_, fun j k a u ne e => ?_, fun j e h' => ?_⟩, same_new hf⟩
      · by_cases hj : j = i
        · subst hj; rw [setC_same]; exact fun _ _ z => nomatch z
        · rw [setC_ne hj]; exact s.sub j
      · by_cases hj : j = i
        · subst hj; rw [setC_same] at e; cases e
        · rw [setC_ne hj] at e
          obtain ⟨z1, z2, z3⟩ := s.out j a u e
          have : a ≠ c := fun z => by
            subst z
            have := s.dis j i a u hj e
            rw [hc] at this; cases this
          exact ⟨z1, z2, by rw [upd_ne this]; exact z3⟩
      · by_cases hj : j = i
        · subst hj; rw [setC_same] at e; cases e
        · rw [setC_ne hj] at e
          by_cases hk : k = i
          · subst hk; rw [setC_same]; rfl
          · rw [setC_ne hk]; exact s.dis j k a u ne e
      · by_cases hj : i = j
        · subst hj
          rw [hd] at h'; cases h'
          refine ⟨_, hv, ?_⟩
          rw [getD_set_fz]
          exact (r.mono (same_new hf)).rp upd_same
        · obtain ⟨w, h1, h2⟩ := s.at_ j e h'
          refine ⟨w, h1, ?_⟩
          rw [getD_set_ne hj, setC_ne (Ne.symm hj)]
          exact h2.mono (same_new hf)
    | fz =>
      refine ⟨C, F, ⟨s.f0, s.ext, s.len, s.sub, s.out, s.dis, fun j e h' => ?_⟩, Same.refl _⟩
      by_cases hj : i = j
      · subst hj
        obtain ⟨w, h1, h2⟩ := s.at_ i e h'
        rw [hk] at h2
        exact ⟨w, h1, by rw [getD_set_fz]; exact h2⟩
      · obtain ⟨w, h1, h2⟩ := s.at_ j e h'
        exact ⟨w, h1, by rw [getD_set_ne hj]; exact h2⟩
    | tp => rw [hk] at q; exact q.elim
    | vw => rw [hk] at q; exact q.elim
    | dp n =>
      rw [hk] at q
      have hG := q
      -- the whole region is frozen
      let F' : Hp := fun a => match C i a with | some o => some o | none => F a
      have e1 : ∀ a o, C i a = some o → F' a = some o := fun a o e => by show (match C i a with | some o => some o | none => F a) = some o; rw [e]
      have e2 : ∀ a, C i a = none → F' a = F a := fun a e => by show (match C i a with | some o => some o | none => F a) = F a; rw [e]
      have ff : Same F F' := fun a o e => by
        cases z : C i a with
        | none => rw [e2 a z]; exact e
        | some u =>
          have := (s.out i a u z).2.2
          rw [e] at this; cases this
      have gf : Same (C i) F' := fun a o e => e1 a o e
      have fh : Same F' H := fun a o e => by
        cases z : C i a with
        | none => rw [e2 a z] at e; exact s.fr.fh a o e
        | some u => rw [e1 a u z] at e; cases e; exact s.sub i a _ z
      have fr : Fr B.p F' H := ⟨fh, fun a b e => by
        obtain ⟨out, ns, k, c, r, h', q1, q2⟩ := s.fr.fd a b e
        refine ⟨?_, ns, k, c, r, h', ff _ _ q1, q2⟩
        cases z : C i a with
        | none => rw [e2 a z]; exact out
        | some u => exact absurd e ((s.out i a u z).1 b)⟩
      have x : Ext B.p B.F B.H F' H := ⟨s.ext.ff.trans ff, s.ext.hh, (fun b u h1 h2 => by
        cases z : C i b with
        | none => rw [e2 b z]; exact s.ext.nw b u h1 h2
        | some w =>
          rw [(s.out i b w z).2.1] at h1
          cases h1), fr⟩
      refine ⟨setC C i emp, F', ⟨s.f0, x, s.len, fun j => ?_, fun j a u e => ?_, fun j k a u ne e => ?_, fun j e h' => ?_⟩, ff⟩
      · by_cases hj : j = i
        · subst hj; rw [setC_same]; exact fun _ _ z => nomatch z
        · rw [setC_ne hj]; exact s.sub j
      · by_cases hj : j = i
        · subst hj; rw [setC_same] at e; cases e
        · rw [setC_ne hj] at e
          obtain ⟨z1, z2, z3⟩ := s.out j a u e
          exact ⟨z1, z2, by rw [e2 a (s.dis j i a u hj e)]; exact z3⟩
      · by_cases hj : j = i
        · subst hj; rw [setC_same] at e; cases e
        · rw [setC_ne hj] at e
          by_cases hk : k = i
          · subst hk; rw [setC_same]; rfl
          · rw [setC_ne hk]; exact s.dis j k a u ne e
      · by_cases hj : i = j
        · subst hj
          rw [hd] at h'; cases h'
          refine ⟨_, hv, ?_⟩
          rw [getD_set_fz]
          exact Un.rp2 ff gf hG
        · obtain ⟨w, h1, h2⟩ := s.at_ j e h'
          refine ⟨w, h1, ?_⟩
          rw [getD_set_ne hj, setC_ne (Ne.symm hj)]
          exact h2.mono ff
  · refine ⟨C, F, ⟨s.f0, s.ext, s.len, s.sub, s.out, s.dis, fun j e h' => ?_⟩, Same.refl _⟩
    have hj : i ≠ j := fun z => hi ⟨e, z ▸ h'⟩
    obtain ⟨w, h1, h2⟩ := s.at_ j e h'
    exact ⟨w, h1, by rw [getD_set_ne hj]; exact h2⟩
end
end DL
end

/-! part: DL4 -/
section
set_option Elab.async false
set_option linter.all false
set_option maxRecDepth 100000
set_option maxHeartbeats 2000000
namespace DL
open PySem PySem.Spec L2
open PyProof.Rows hiding St
/-! ### 8. statements -/
def sNext : SD := fun E δ => E.nx δ
def sSeq (t u : SD) : SD := fun E δ => t { E with nx := fun δ' => u E δ' } δ
def sSet (i : Nat) (t : ED) : SD := fun E δ => t δ fun d => E.nx (δ.set i (some d))
def sDrop (t : ED) : SD := fun E δ => t δ fun _ => E.nx δ
def sRet (t : ED) : SD := fun E δ => t δ E.rt
def sRetN : SD := fun E _ => E.rt .non
def sIf (c : TD) (t u : SD) : SD := fun E δ => c δ fun b => if b = true then t E δ else u E δ
def sBreak : SD := fun E δ => E.bk δ
def sCont : SD := fun E δ => E.ct δ
def sNever : SD := fun _ _ => False
theorem MonoS.app {t : SD} (m : MonoS t) {E E' : En} {δ : DS} (w : t E δ) (h : E.Le E') : t E' δ := m E E' δ h w
theorem En.Le.refl (E : En) : E.Le E := ⟨fun _ h => h, fun _ h => h, fun _ h => h, fun _ h => h⟩
theorem En.Le.seq {E E' : En} {n n' : DS → Prop} (h : E.Le E') (hn : ∀ δ, n δ → n' δ) : En.Le { E with nx := n } { E' with nx := n' } := ⟨hn, h.rt, h.bk, h.ct⟩
theorem lowEn_le {O' Oc : Os} {κr : Kd} {B : Bs} {F F1 : Hp} {D : Ends} (ff : Same F F1) : (lowEn O' Oc κr B F D).Le (lowEn O' Oc κr B F1 D) :=
  ⟨fun δ w C2 F2 σ2 H2 s2 f2 => w C2 F2 σ2 H2 s2 (ff.trans f2), fun _ w => w, fun δ w C2 F2 σ2 H2 s2 f2 => w C2 F2 σ2 H2 s2 (ff.trans f2), fun δ w C2 F2 σ2 H2 s2 f2 => w C2 F2 σ2 H2 s2 (ff.trans f2)⟩
section
variable {X : Cx} {κr : Kd} {Oc O O1 O2 : Os} {st : Stmt} {rest : List Stmt} {t u : SD} {e : Expr} {te : ED} {pos : Pos}
theorem dss_nil : DSs X κr Oc O O [] sNext :=
  ⟨pss_imp pss_nil fun D σ H ⟨B, C, F, δ, s, w⟩ => w C F σ H s (Same.refl _), fun E E' δ h w => h.nx _ w⟩
theorem sSeq_mono (mt : MonoS t) (mu : MonoS u) : MonoS (sSeq t u) := fun E E' δ h w => mt _ _ _ (h.seq fun δ w => mu _ _ _ h w) w
theorem dss_cons (h1 : DSt X κr Oc O O1 st t) (h2 : DSs X κr Oc O1 O2 rest u) : DSs X κr Oc O O2 (st :: rest) (sSeq t u) := by
  refine ⟨pss_imp (pss_cons h1.ps h2.ps) fun D σ H ⟨B, C, F, δ, s, w⟩ => ?_, sSeq_mono h1.mono h2.mono⟩
  refine ⟨B, C, F, δ, s, h1.mono.app (show t { (lowEn O2 Oc κr B F D) with nx := fun δ' => u (lowEn O2 Oc κr B F D) δ' } δ from w) ⟨fun δ' w C1 F1 σ1 H1 s1 f1 => ?_, fun _ w => w, fun _ w => w, fun _ w => w⟩⟩
  exact ⟨B, C1, F1, δ', s1, h2.mono.app w (lowEn_le f1)⟩
theorem dss_one (h1 : DSt X κr Oc O O1 st t) : DSs X κr Oc O O1 [st] t := ⟨pss_imp (pss_one h1.ps) fun D σ H w => w, h1.mono⟩
/-- an own slot is frozen ahead of a block, behind a block -/
theorem dss_fz (i : Nat) (h : DSs X κr Oc (O.set i .fz) O2 rest u) : DSs X κr Oc O O2 rest u := by
  refine ⟨pss_imp h.ps fun D σ H ⟨B, C, F, δ, s, w⟩ => ?_, h.mono⟩
  obtain ⟨C', F', s', ff⟩ := s.frz i
  exact ⟨B, C', F', δ, s', h.mono.app w (lowEn_le ff)⟩
theorem dss_fzE (i : Nat) (h : DSs X κr Oc O O1 rest u) : DSs X κr Oc O (O1.set i .fz) rest u := by
  refine ⟨pss_imp h.ps fun D σ H ⟨B, C, F, δ, s, w⟩ => ?_, h.mono⟩
  refine ⟨B, C, F, δ, s, h.mono.app w ⟨fun δ2 w C2 F2 σ2 H2 s2 f2 => ?_, fun _ w => w, fun _ w => w, fun _ w => w⟩⟩
  obtain ⟨C', F', s', ff⟩ := s2.frz i
  exact w C' F' σ2 H2 s' (f2.trans ff)
/-- .. ahead of break, continue -/
theorem dss_fzC (i : Nat) {Oc' : Os} (e : Oc = Oc'.set i .fz) (h : DSs X κr Oc' O O1 rest u) : DSs X κr Oc O O1 rest u := by
  subst e
  refine ⟨pss_imp h.ps fun D σ H ⟨B, C, F, δ, s, w⟩ => ?_, h.mono⟩
  refine ⟨B, C, F, δ, s, h.mono.app w ⟨fun _ w => w, fun _ w => w, fun δ2 w C2 F2 σ2 H2 s2 f2 => ?_, fun δ2 w C2 F2 σ2 H2 s2 f2 => ?_⟩⟩
  · obtain ⟨C', F', s', ff⟩ := s2.frz i
    exact w C' F' σ2 H2 s' (f2.trans ff)
  · obtain ⟨C', F', s', ff⟩ := s2.frz i
    exact w C' F' σ2 H2 s' (f2.trans ff)
theorem dst_pass : DSt X κr Oc O O (.Pass pos) sNext := ⟨ps_imp ps_pass fun D σ H ⟨B, C, F, δ, s, w⟩ => w C F σ H s (Same.refl _), fun E E' δ h w => h.nx _ w⟩
theorem dst_break : DSt X κr O O O2 (.Break pos) sBreak := ⟨ps_imp ps_break fun D σ H ⟨B, C, F, δ, s, w⟩ => w C F σ H s (Same.refl _), fun E E' δ h w => h.bk _ w⟩
theorem dst_continue : DSt X κr O O O2 (.Continue pos) sCont := ⟨ps_imp ps_continue fun D σ H ⟨B, C, F, δ, s, w⟩ => w C F σ H s (Same.refl _), fun E E' δ h w => h.ct _ w⟩
theorem dst_never : DSt X κr Oc O O2 st sNever := ⟨ps_imp ps_never fun D σ H ⟨B, C, F, δ, s, w⟩ => w, fun E E' δ h w => w⟩
theorem sIf_mono {c : TD} (mc : MonoT c) (mt : MonoS t) (mu : MonoS u) : MonoS (sIf c t u) := fun E E' δ h w => mc _ _ _ (fun b w => by
  cases b with
  | true => exact mt _ _ _ h w
  | false => exact mu _ _ _ h w) w
theorem dst_if {c : Expr} {a b : List Stmt} {tc : TD} (hc : DT X O c tc) (ha : DSs X κr Oc O O1 a t) (hb : DSs X κr Oc O O1 b u) : DSt X κr Oc O O1 (.If c a b pos) (sIf tc t u) := by
  refine ⟨ps_imp (ps_if hc.pt ha.ps hb.ps) fun D σ H ⟨B, C, F, δ, s, w⟩ => ?_, sIf_mono hc.mono ha.mono hb.mono⟩
  refine ⟨B, C, F, δ, s, hc.mono _ _ _ (fun b w F1 H1 x1 => ?_) w⟩
  have go : ∀ {v : SD}, MonoS v → v (lowEn O1 Oc κr B F D) δ → liftS κr Oc O O1 v D σ H1 := fun {v} mv w => ⟨B, C, F1, δ, s.step x1, mv.app w (lowEn_le x1.ff)⟩
  cases b with
  | true => exact iteT (go ha.mono w)
  | false => exact iteF (go hb.mono w)
/-- a branch that never comes to its end (return, raise, break): any O behind it -/
theorem dss_any (h : DSs X κr Oc O O1 rest u) (hn : ∀ E δ, u E δ → u { E with nx := fun _ => False } δ) : DSs X κr Oc O O2 rest u := by
  refine ⟨pss_imp h.ps fun D σ H ⟨B, C, F, δ, s, w⟩ => ⟨B, C, F, δ, s, h.mono.app (hn _ _ w) ⟨fun _ w => (show False from w).elim, fun _ w => w, fun _ w => w, fun _ w => w⟩⟩, h.mono⟩
theorem dst_expr (he : DE X O .vw e te) (hs : swapsWith e none pos.line X.env = pure false := by rfl) : DSt X κr Oc O O (.Expr e pos) (sDrop te) := by
  refine ⟨ps_imp (ps_expr he.pe hs) fun D σ H ⟨B, C, F, δ, s, w⟩ => ?_, fun E E' δ h w => he.mono _ _ _ (fun _ w => h.nx _ w) w⟩
  exact ⟨B, C, F, δ, s, he.mono _ _ _ (fun d w F1 H1 v x1 r1 => w C F1 σ H1 (s.step x1) x1.ff) w⟩
theorem dst_ret (he : DE X O κr e te) : DSt X κr Oc O O2 (.Return (some e) pos) (sRet te) := by
  refine ⟨ps_imp (ps_ret he.pe) fun D σ H ⟨B, C, F, δ, s, w⟩ => ?_, fun E E' δ h w => he.mono _ _ _ (fun _ w => h.rt _ w) w⟩
  exact ⟨B, C, F, δ, s, he.mono _ _ _ (fun d w F1 H1 v x1 r1 => w F1 H1 v (s.ext.trans s.f0 x1) (r1.since (back_since s.ext))) w⟩
theorem dst_retN (hk : κr ≠ .nw := by decide) : DSt X κr Oc O O2 (.Return none pos) sRetN := by
  refine ⟨ps_imp ps_retN fun D σ H ⟨B, C, F, δ, s, w⟩ => ?_, fun E E' δ h w => h.rt _ w⟩
  exact w F H _ s.ext (flat_rv (p := B.p) (.non (p := B.p) (F := F)) trivial hk s.fr)
/-- return x, x an own slot -/
theorem dst_retO {i : Nat} {x : Str} {p : Pos} (hv : PE X (.Name x p) (tVar i)) (hO : O.getD i .fz = .nw := by rfl) : DSt X .nw Oc O O2 (.Return (some (.Name x p)) pos) (sRet (eVar i)) := by
  refine ⟨ps_imp (ps_ret hv) fun D σ H ⟨B, C, F, δ, s, d, e, w⟩ => ?_, fun E E' δ h ⟨d, e, w⟩ => ⟨d, e, h.rt _ w⟩⟩
  obtain ⟨v, h1, h2⟩ := s.at_ i d e
  rw [hO] at h2
  obtain ⟨c, o, rfl, hc, _, r⟩ := h2
  obtain ⟨np, h0, hf⟩ := s.out i c o hc
  exact ⟨_, h1, w F H _ s.ext ⟨c, o, rfl, h0, hf, s.sub i c o hc, np, r⟩⟩
/-- return x, x a region -/
theorem dst_retR {i : Nat} {x : Str} {p : Pos} (hv : PE X (.Name x p) (tVar i)) {m : Nat} (hO : O.getD i .fz = .dp m := by rfl) : DSt X (.dp m) Oc O O2 (.Return (some (.Name x p)) pos) (sRet (eVar i)) := by
  refine ⟨ps_imp (ps_ret hv) fun D σ H ⟨B, C, F, δ, s, d, e, w⟩ => ?_, fun E E' δ h ⟨d, e, w⟩ => ⟨d, e, h.rt _ w⟩⟩
  obtain ⟨v, h1, h2⟩ := s.at_ i d e
  rw [hO] at h2
  exact ⟨v, h1, w F H _ s.ext ⟨C i, s.sub i, fun a o z => ⟨(s.out i a o z).1, (s.out i a o z).2.1, (s.out i a o z).2.2⟩, h2⟩⟩
/-- name = value -/
theorem dst_set {i : Nat} {x : Str} {pos' : Pos} (hN : X.N.Nodup) (hi : X.N[i]? = some x) (hx : Loc X.env.scope x) (he : DE X O .fz e te) (hs : swapsWith e (some (.Name x pos')) pos.line X.env = pure false := by rfl) (hf : X.fn x = true ∨ X.env.scope.names.lookup x = some .local := by first | exact .inl rfl | exact .inr rfl | assumption) :
    DSt X κr Oc O (O.set i .fz) (.Assign [.Name x pos'] e pos) (sSet i te) := by
  refine ⟨ps_imp (ps_set hN hi hx he.pe hs hf) fun D σ H ⟨B, C, F, δ, s, w⟩ => ?_, fun E E' δ h w => he.mono _ _ _ (fun _ w => h.nx _ w) w⟩
  exact ⟨B, C, F, δ, s, he.mono _ _ _ (fun d w F1 H1 v x1 r1 => w _ F1 _ H1 ((s.step x1).set i r1) x1.ff) w⟩
theorem new_nc {B : Bs} {C : Nat → Hp} {F F1 : Hp} {σ : St} {H H1 : Hp} {δ : DS} {v : V} {d : D} (s : SR O B C F σ H δ) (r : New B.p H F1 H1 v d) : ∀ a, v = .ref a → ∀ (j : Nat), C j a = none := fun a e j => by
  obtain ⟨c, o, e', h0, _⟩ := r
  rw [e] at e'; cases e'
  cases q : C j a with
  | none => rfl
  | some u =>
    have := s.sub j a u q
    rw [h0] at this; cases this
/-- name = value, the name's own from now on -/
theorem dst_setO {i : Nat} {x : Str} {pos' : Pos} (hN : X.N.Nodup) (hi : X.N[i]? = some x) (hx : Loc X.env.scope x) (he : DE X O .nw e te) (hl : i < O.length := by decide) (hs : swapsWith e (some (.Name x pos')) pos.line X.env = pure false := by rfl) (hf : X.fn x = true ∨ X.env.scope.names.lookup x = some .local := by first | exact .inl rfl | exact .inr rfl | assumption) :
    DSt X κr Oc O (O.set i .nw) (.Assign [.Name x pos'] e pos) (sSet i te) := by
  refine ⟨ps_imp (ps_set hN hi hx he.pe hs hf) fun D σ H ⟨B, C, F, δ, s, w⟩ => ?_, fun E E' δ h w => he.mono _ _ _ (fun _ w => h.nx _ w) w⟩
  refine ⟨B, C, F, δ, s, he.mono _ _ _ (fun d w F1 H1 v x1 r1 => ?_) w⟩
  obtain ⟨c, o, _, _, s'⟩ := (s.step x1).setN i hl (Rv.since (κ := .nw) (back_since s.ext) r1) fun a e j _ => new_nc s r1 a e j
  exact w _ F1 _ H1 s' x1.ff
/-- name = value, a region of its own -/
theorem dst_setR {i : Nat} {x : Str} {pos' : Pos} (hN : X.N.Nodup) (hi : X.N[i]? = some x) (hx : Loc X.env.scope x) {m : Nat} (he : DE X O (.dp m) e te) (hl : i < O.length := by decide) (hs : swapsWith e (some (.Name x pos')) pos.line X.env = pure false := by rfl) (hf : X.fn x = true ∨ X.env.scope.names.lookup x = some .local := by first | exact .inl rfl | exact .inr rfl | assumption) :
    DSt X κr Oc O (O.set i (.dp m)) (.Assign [.Name x pos'] e pos) (sSet i te) := by
  refine ⟨ps_imp (ps_set hN hi hx he.pe hs hf) fun D σ H ⟨B, C, F, δ, s, w⟩ => ?_, fun E E' δ h w => he.mono _ _ _ (fun _ w => h.nx _ w) w⟩
  refine ⟨B, C, F, δ, s, he.mono _ _ _ (fun d w F1 H1 v x1 r1 => ?_) w⟩
  obtain ⟨G, sg, ng, r⟩ := r1
  refine w _ F1 _ H1 ((s.step x1).setR i hl sg (fun a o e => ⟨(ng a o e).1, back_since s.ext a (ng a o e).2.1, (ng a o e).2.2⟩) r fun a o e j _ => ?_) x1.ff
  cases q : C j a with
  | none => rfl
  | some u =>
    have := s.sub j a u q
    rw [(ng a o e).2.1] at this; cases this
end

/-! ### targets -/
inductive Tg | one (i : Nat) | many (is : List Nat)
def Tg.is : Tg → List Nat
  | .one i => [i]
  | .many is => is
def gNs : List Nat → TGs
  | [] => gNil
  | i :: is => gCons (gName i) (gNs is)
def gOf (K : PySem.W.Frag) : Tg → TG
  | .one i => gName i
  | .many is => gTup K is.length (gNs is)
def setAll (δ : DS) : List Nat → List D → DS
  | i :: is, d :: ds => setAll (δ.set i (some d)) is ds
  | _, _ => δ
def gd : Tg → D → DS → (DS → Prop) → Prop
  | .one i, d, δ, Q => Q (δ.set i (some d))
  | .many is, d, δ, Q => ∃ ds, d = .tup ds ∧ ds.length = is.length ∧ Q (setAll δ is ds)
def fzAll (O : Os) : List Nat → Os
  | [] => O
  | i :: is => fzAll (O.set i .fz) is
theorem gd_mono (T : Tg) (d : D) (δ : DS) (Q Q' : DS → Prop) (h : ∀ δ, Q δ → Q' δ) (w : gd T d δ Q) : gd T d δ Q' := by
  cases T with
  | one i => exact h _ w
  | many is =>
    obtain ⟨ds, e, l, w⟩ := w
    exact ⟨ds, e, l, h _ w⟩
theorem wipe_set {σ : St} {i : Nat} {v : Option V} : ∀ {vs : List Nat}, i ∈ vs → wipe (σ.set i v) vs = wipe σ vs
  | [], h => by simp at h
  | j :: vs, h => by
    unfold wipe
    by_cases hi : i ∈ vs
    · rw [wipe_set hi]
    · have e : j = i := by
        rcases List.mem_cons.mp h with z | z
        · exact z.symm
        · exact absurd z hi
      subst e
      apply List.ext_getElem?
      intro k
      by_cases hk : j = k
      · subst hk
        by_cases hl : j < σ.length
        · rw [List.getElem?_set_self (by rw [wipe_length]; simpa using hl), List.getElem?_set_self (by rw [wipe_length]; exact hl)]
        · rw [List.getElem?_eq_none (by simp [wipe_length]; omega), List.getElem?_eq_none (by simp [wipe_length]; omega)]
      · rw [List.getElem?_set_ne hk, List.getElem?_set_ne hk]
        -- away from j
        have : ∀ (vs : List Nat) (σ : St), (wipe (σ.set j v) vs)[k]? = (wipe σ vs)[k]? := by
          intro vs
          induction vs with
          | nil => intro σ; exact List.getElem?_set_ne hk
          | cons a vs ih =>
            intro σ
            unfold wipe
            by_cases ha : a = k
            · subst ha
              by_cases hl : a < σ.length
              · rw [List.getElem?_set_self (by rw [wipe_length]; simpa using hl), List.getElem?_set_self (by rw [wipe_length]; exact hl)]
              · rw [List.getElem?_eq_none (by simp [wipe_length]; omega), List.getElem?_eq_none (by simp [wipe_length]; omega)]
            · rw [List.getElem?_set_ne ha, List.getElem?_set_ne ha]
              exact ih σ
        exact this vs σ
section
variable {B : Bs} {F H : Hp}
theorem gNs_ok {Q : St → Hp → Prop} : ∀ {is : List Nat} {O : Os} {C : Nat → Hp} {σ : St} {δ : DS} {vs : List V} {ds : List D}, SR O B C F σ H δ → RpL B.p F vs ds → ds.length = is.length →
    (∀ C' σ', SR (fzAll O is) B C' F σ' H (setAll δ is ds) → (∀ ws : List Nat, (∀ i ∈ is, i ∈ ws) → wipe σ' ws = wipe σ ws) → Q σ' H) → gNs is vs σ H Q
  | [], O, C, σ, δ, vs, ds, s, r, l, q => by
    have e : ds = [] := List.eq_nil_of_length_eq_zero l
    subst e
    exact ⟨r.nil_l, q C σ s fun _ _ => rfl⟩
  | i :: is, O, C, σ, δ, vs, ds, s, r, l, q => by
    cases ds with
    | nil => cases l
    | cons d ds =>
      obtain ⟨v, vs', rfl, r1, r2⟩ := r.uncons
      refine ⟨v, vs', rfl, ?_⟩
      refine gNs_ok (s.set i r1) r2 (by simpa using l) fun C' σ' s' h' => q C' σ' s' fun ws hw => ?_
      rw [h' ws fun j hj => hw j (List.mem_cons_of_mem _ hj)]
      exact wipe_set (hw i List.mem_cons_self)
theorem gOf_ok {K : PySem.W.Frag} {Q : St → Hp → Prop} {T : Tg} {O : Os} {C : Nat → Hp} {σ : St} {δ : DS} {v : V} {d : D} {Qd : DS → Prop} (s : SR O B C F σ H δ) (r : Rp B.p F v d) (w : gd T d δ Qd)
    (q : ∀ C' σ' δ', SR (fzAll O T.is) B C' F σ' H δ' → (∀ ws : List Nat, (∀ i ∈ T.is, i ∈ ws) → wipe σ' ws = wipe σ ws) → Qd δ' → Q σ' H) : gOf K T v σ H Q := by
  cases T with
  | one i => exact q _ _ _ (s.set i r) (fun ws h => wipe_set (h i (by simp [Tg.is]))) w
  | many is =>
    obtain ⟨ds, e, l, w⟩ := w
    subst e
    obtain ⟨a, vs, rfl, ha, rl⟩ := r.tup_inv
    refine ⟨a, vs, rfl, SqT.of (s.fr.fh _ _ ha), by rw [rl.len]; exact l, ?_⟩
    exact gNs_ok s rl l fun C' σ' s' h' => q C' σ' _ s' h' w
end
/-- a, b = value -/
def sAsg (T : Tg) (t : ED) : SD := fun E δ => t δ fun d => gd T d δ E.nx
section
variable {X : Cx} {κr : Kd} {Oc O : Os} {e tg : Expr} {te : ED} {pos : Pos}
theorem dst_asg {T : Tg} (he : DE X O .fz e te) (hg : PG X tg (gOf X.K T)) (hs : swapsWithSole [tg] e pos.line X.env = pure false := by rfl) (hw : swappedStores [tg] e X.env = pure none := by rfl)
    (h1 : (assignEach [tg] X.env).map (·.2) = [assign tg X.env] := by rfl) : DSt X κr Oc O (fzAll O T.is) (.Assign [tg] e pos) (sAsg T te) := by
  refine ⟨ps_imp (ps_asg he.pe hg hs hw h1) fun D σ H ⟨B, C, F, δ, s, w⟩ => ?_, fun E E' δ h w => he.mono _ _ _ (fun _ w => gd_mono _ _ _ _ _ (fun _ w => h.nx _ w) w) w⟩
  exact ⟨B, C, F, δ, s, he.mono _ _ _ (fun d w F1 H1 v x1 r1 => gOf_ok (s.step x1) r1 w fun C' σ' δ' s' _ q => q C' F1 σ' H1 s' x1.ff) w⟩
/-- a, b = x, y -/
def sPar (i j : Nat) (t : AD) : SD := fun E δ => t δ fun ds => ∃ d e, ds = [d, e] ∧ E.nx ((δ.set i (some d)).set j (some e))
theorem dst_par {i j : Nat} {x y : Str} {a b : Expr} {ta : AD} {px py pt : Pos} {kt k2 pt2} (hc : X.calm = true) (hN : X.N.Nodup) (hi : X.N[i]? = some x) (hj : X.N[j]? = some y) (hij : i ≠ j)
    (hx : X.env.scope.names.lookup x = some .local) (hy : X.env.scope.names.lookup y = some .local) (ha : DA X O .fz [a, b] ta)
    (hw : swappedStores [.Tuple [.Name x px, .Name y py] kt pt] (.Tuple [a, b] k2 pt2) X.env = pure (some [x, y]))
    (hs : swapsWithSole [.Tuple [.Name x px, .Name y py] kt pt] (.Tuple [a, b] k2 pt2) pos.line X.env = pure false := by rfl) :
    DSt X κr Oc O ((O.set i .fz).set j .fz) (.Assign [.Tuple [.Name x px, .Name y py] kt pt] (.Tuple [a, b] k2 pt2) pos) (sPar i j ta) := by
  refine ⟨ps_imp (ps_par hc hN hi hj hij hx hy ha.pa hw hs) fun D σ H ⟨B, C, F, δ, s, w⟩ => ?_, fun E E' δ h w => ha.mono _ _ _ (fun _ ⟨d, e, z, w⟩ => ⟨d, e, z, h.nx _ w⟩) w⟩
  refine ⟨B, C, F, δ, s, ha.mono _ _ _ (fun ds ⟨d, e, z, w⟩ F1 H1 vs x1 r1 => ?_) w⟩
  subst z
  obtain ⟨v, r, rfl, q1, q2⟩ := r1.rp.uncons
  obtain ⟨v2, r', rfl, q3, q4⟩ := q2.uncons
  have := q4.nil_l
  subst this
  exact ⟨v, v2, rfl, w _ F1 _ H1 (((s.step x1).set i q1).set j q3) x1.ff⟩
end

/-! ### 9. loops -/
/-- the iterator J yields the items, as long as F stays frozen -/
structure ItD (p : Pf) (F : Hp) (items : List D) (J : It) : Prop where
  go : ∀ i F2 H2, Same F F2 → Fr p F2 H2 → i < items.length → J.go i H2
  yld : ∀ i F2 H2 x H3, Same F F2 → Fr p F2 H2 → J.yld i H2 x H3 → i < items.length → ∃ F3 d, items[i]? = some d ∧ Ext p F2 H2 F3 H3 ∧ Rp p F3 x d
  stop : ∀ i F2 H2, Same F F2 → Fr p F2 H2 → items.length ≤ i → J.stop i H2
def liftI (O : Os) (t : AD) : TI := fun σ H R => ∃ B C F δ, SR O B C F σ H δ ∧ t δ fun items => ∀ F' H' J, Ext B.p F H F' H' → ItD B.p F' items J → R J H'
structure DI (X : Cx) (O : Os) (tg iter : Expr) (t : AD) : Prop where
  pi : PI X tg iter (liftI O t)
  mono : MonoA t
def forRun (T : Tg) (tb : SD) (E : En) : List D → DS → Prop
  | [], δ => E.nx δ
  | x :: xs, δ => gd T x δ fun δ1 => tb { nx := forRun T tb E xs, rt := E.rt, bk := E.nx, ct := forRun T tb E xs } δ1
def sFor (w : AD) (T : Tg) (tb : SD) : SD := fun E δ => w δ fun items => forRun T tb E items δ
theorem forRun_mono {T : Tg} {tb : SD} (m : MonoS tb) {E E' : En} (h : E.Le E') : ∀ (xs : List D) (δ : DS), forRun T tb E xs δ → forRun T tb E' xs δ
  | [], δ, w => h.nx _ w
  | x :: xs, δ, w => gd_mono _ _ _ _ _ (fun δ1 w => m.app (show tb { nx := forRun T tb E xs, rt := E.rt, bk := E.nx, ct := forRun T tb E xs } δ1 from w) ⟨forRun_mono m h xs, h.rt, h.nx, forRun_mono m h xs⟩) w
theorem sFor_mono {w : AD} {T : Tg} {tb : SD} (mw : MonoA w) (m : MonoS tb) : MonoS (sFor w T tb) := fun E E' δ h q => mw _ _ _ (fun xs q => forRun_mono m h xs δ q) q
section
variable {X : Cx} {κr : Kd} {Oc O O1 : Os} {tg iter : Expr} {body : List Stmt} {w : AD} {T : Tg} {tb : SD} {pos : Pos}
theorem dst_for (hp : PassesOwn (model X.prog X.w) X.A X.env X.xe) (hc : X.calm = true) (hi : DI X O tg iter w) (hg : PG X tg (gOf X.K T)) (hb : DSs X κr O (fzAll O T.is) O body tb)
    (hs : ∀ x, foldedSetIterable iter X.env x = pure x := by intro _; rfl) : DSt X κr Oc O O (.For tg iter body [] pos) (sFor w T tb) := by
  refine ⟨ps_imp (ps_for hp hc hi.pi hg hb.ps hs) fun D σ H ⟨B, C, F, δ, s, q⟩ => ?_, sFor_mono hi.mono hb.mono⟩
  refine ⟨B, C, F, δ, s, hi.mono _ _ _ (fun items q F1 H1 J x1 it => ?_) q⟩
  have lowE : En := lowEn O Oc κr B F D
  let inv : Nat → St → Hp → Prop := fun i σ' H' => ∃ C' F' δ', SR O B C' F' σ' H' δ' ∧ Same F1 F' ∧ forRun T tb (lowEn O Oc κr B F D) (items.drop i) δ'
  refine ⟨fun i m σ' H' => m = items.length - i ∧ i ≤ items.length ∧ inv i σ' H', ⟨items.length, by simp, Nat.zero_le _, C, F1, δ, s.step x1, Same.refl _, by simpa using q⟩, ?_⟩
  rintro i m σ' H' ⟨rfl, hi', C', F', δ', s', f', q'⟩
  by_cases hlt : i < items.length
  · refine .inr ⟨it.go i F' H' f' s'.fr hlt, fun σ2 H2 => inv (i + 1) σ2 H2, fun σ2 H2 z => ⟨items.length - (i + 1), by omega, rfl, hlt, z⟩, fun x H3 y => ?_⟩
    obtain ⟨F3, d, hd, x3, r3⟩ := it.yld i F' H' x H3 f' s'.fr y hlt
    have e : items.drop i = d :: items.drop (i + 1) := by
      rw [List.drop_eq_getElem_cons hlt]
      congr 1
      rw [List.getElem?_eq_getElem hlt] at hd
      exact Option.some.inj hd
    rw [e] at q'
    refine gOf_ok (s'.step x3) r3 q' fun C4 σ4 δ4 s4 _ q4 => ?_
    refine ⟨B, C4, F3, δ4, s4, hb.mono.app q4 ⟨fun δ5 q5 C5 F5 σ5 H5 s5 f5 => ?_, fun _ z => z, fun δ5 q5 C5 F5 σ5 H5 s5 f5 => ?_, fun δ5 q5 C5 F5 σ5 H5 s5 f5 => ?_⟩⟩
    · exact ⟨C5, F5, δ5, s5, (f'.trans x3.ff).trans f5, q5⟩
    · exact q5 C5 F5 σ5 H5 s5 ((x1.ff.trans f').trans (x3.ff.trans f5))
    · exact ⟨C5, F5, δ5, s5, (f'.trans x3.ff).trans f5, q5⟩
  · have e : i = items.length := by omega
    subst e
    rw [List.drop_length] at q'
    exact .inl ⟨it.stop _ F' H' f' s'.fr (Nat.le_refl _), q' C' F' σ' H' s' (x1.ff.trans f')⟩
/-! ### what is walked -/
def wL (t : ED) : AD := fun δ Q => t δ fun d => ∃ ds, d = .lst ds ∧ Q ds
def wT (t : ED) : AD := fun δ Q => t δ fun d => ∃ ds, d = .tup ds ∧ Q ds
def rgD (lo : Int) (n : Nat) : List D := (List.range n).map fun k => D.int (lo + (k : Nat))
def rgS (lo c : Int) (n : Nat) : List D := (List.range n).map fun k => D.int (lo + (k : Nat) * c)
def wR1 (t : AD) : AD := fun δ Q => t δ fun ds => ∃ j : Int, ds = [.int j] ∧ -(2 ^ 62) ≤ j ∧ j < 2 ^ 62 ∧ Q (rgD 0 j.toNat)
def wR2 (t : AD) : AD := fun δ Q => t δ fun ds => ∃ i j : Int, ds = [.int i, .int j] ∧ (-(2 ^ 62) ≤ i ∧ i < 2 ^ 62 ∧ -(2 ^ 62) ≤ j ∧ j < 2 ^ 62) ∧ Q (rgD i (j - i).toNat)
def wR3 (t : AD) : AD := fun δ Q => t δ fun ds => ∃ (i j c : Int) (n : Nat), ds = [.int i, .int j, .int c] ∧ RgC i j c n ∧ Q (rgS i c n)
def enumD (k : Nat) : List D → List D
  | [] => []
  | d :: ds => .tup [.int k, d] :: enumD (k + 1) ds
def zipD : List D → List D → List D
  | d :: ds, e :: es => .tup [d, e] :: zipD ds es
  | _, _ => []
def wE (t : AD) : AD := fun δ Q => t δ fun ds => ∃ xs, ds = [.lst xs] ∧ Q (enumD 0 xs)
def wZ (t : AD) : AD := fun δ Q => t δ fun ds => ∃ xs ys, ds = [.lst xs, .lst ys] ∧ Q (zipD xs ys)
def wV (t : AD) : AD := fun δ Q => t δ fun ds => ∃ xs, ds = [.lst xs] ∧ Q xs.reverse
theorem it_list {K : PySem.W.Frag} {p : Pf} {F : Hp} {a : Addr} {vs : List V} {ds : List D} (h : F a = some (.lst vs)) (r : RpL p F vs ds) : ItD p F ds (Itl K a) where
  go := fun i F2 H2 f fr hi => by
    obtain ⟨v, hv, _⟩ := r.get (List.getElem?_eq_getElem hi)
    exact ⟨vs, v, SqL.of (fr.fh _ _ (f _ _ h)), hv⟩
  yld := fun i F2 H2 x H3 f fr y hi => by
    obtain ⟨e, y⟩ := y
    subst e
    have hx := y vs (SqL.of (fr.fh _ _ (f _ _ h)))
    obtain ⟨d, hd, rd⟩ := r.getV hx
    exact ⟨F2, d, hd, .refl fr, rd.mono f⟩
  stop := fun i F2 H2 f fr hi => ⟨vs, SqL.of (fr.fh _ _ (f _ _ h)), by rw [r.len]; exact hi⟩
theorem it_tup {K : PySem.W.Frag} {p : Pf} {F : Hp} {a : Addr} {vs : List V} {ds : List D} (h : F a = some (.tup vs)) (r : RpL p F vs ds) : ItD p F ds (Itt K a) where
  go := fun i F2 H2 f fr hi => by
    obtain ⟨v, hv, _⟩ := r.get (List.getElem?_eq_getElem hi)
    exact ⟨vs, v, SqT.of (fr.fh _ _ (f _ _ h)), hv⟩
  yld := fun i F2 H2 x H3 f fr y hi => by
    obtain ⟨e, y⟩ := y
    subst e
    have hx := y vs (SqT.of (fr.fh _ _ (f _ _ h)))
    obtain ⟨d, hd, rd⟩ := r.getV hx
    exact ⟨F2, d, hd, .refl fr, rd.mono f⟩
  stop := fun i F2 H2 f fr hi => ⟨vs, SqT.of (fr.fh _ _ (f _ _ h)), by rw [r.len]; exact hi⟩
theorem it_rev {K : PySem.W.Frag} {p : Pf} {F : Hp} {a : Addr} {vs : List V} {ds : List D} (h : F a = some (.lst vs)) (r : RpL p F vs ds) : ItD p F ds.reverse (Itv K a vs.length) where
  go := fun i F2 H2 f fr hi => by
    have hi' : i < vs.length := by rw [r.len]; simpa using hi
    exact ⟨hi', vs, vs[vs.length - 1 - i]'(by omega), SqL.of (fr.fh _ _ (f _ _ h)), List.getElem?_eq_getElem (by omega)⟩
  yld := fun i F2 H2 x H3 f fr y hi => by
    obtain ⟨e, y⟩ := y
    subst e
    have hx := y vs (SqL.of (fr.fh _ _ (f _ _ h)))
    obtain ⟨d, hd, rd⟩ := r.getV hx
    refine ⟨F2, d, ?_, .refl fr, rd.mono f⟩
    rw [List.getElem?_reverse (by simpa using hi), ← r.len]
    exact hd
  stop := fun i F2 H2 f fr hi => by
    show vs.length ≤ i
    rw [r.len]
    simpa using hi
theorem it_range {p : Pf} {F : Hp} {lo : Int} {n : Nat} : ItD p F (rgD lo n) (Itr lo n) where
  go := fun i F2 H2 f fr hi => by show i < n; simpa [rgD] using hi
  yld := fun i F2 H2 x H3 f fr y hi => by
    obtain ⟨rfl, rfl⟩ := y
    have hi' : i < n := by simpa [rgD] using hi
    exact ⟨F2, .int (lo + (i : Nat)), by simp [rgD, List.getElem?_map, List.getElem?_range hi'], .refl fr, .int _⟩
  stop := fun i F2 H2 f fr hi => by show n ≤ i; simpa [rgD] using hi
theorem it_rangeS {p : Pf} {F : Hp} {lo c : Int} {n : Nat} : ItD p F (rgS lo c n) (Itc lo c n) where
  go := fun i F2 H2 f fr hi => by show i < n; simpa [rgS] using hi
  yld := fun i F2 H2 x H3 f fr y hi => by
    obtain ⟨rfl, rfl⟩ := y
    have hi' : i < n := by simpa [rgS] using hi
    exact ⟨F2, .int (lo + (i : Nat) * c), by simp [rgS, List.getElem?_map, List.getElem?_range hi'], .refl fr, .int _⟩
  stop := fun i F2 H2 f fr hi => by show n ≤ i; simpa [rgS] using hi
theorem enumD_length : ∀ (ds : List D) (k : Nat), (enumD k ds).length = ds.length
  | [], _ => rfl
  | _ :: ds, k => by unfold enumD; rw [List.length_cons, enumD_length ds, List.length_cons]
theorem enumD_get : ∀ (ds : List D) (k i : Nat), (enumD k ds)[i]? = ds[i]?.map fun d => D.tup [.int ((k + i : Nat) : Int), d]
  | [], k, i => by simp [enumD]
  | d :: ds, k, 0 => by simp [enumD]
  | d :: ds, k, i + 1 => by
    show (enumD (k + 1) ds)[i]? = _
    rw [enumD_get ds (k + 1) i, show k + 1 + i = k + (i + 1) by omega]
    simp
theorem it_enum {K : PySem.W.Frag} {p : Pf} {F : Hp} {a : Addr} {vs : List V} {ds : List D} (h : F a = some (.lst vs)) (r : RpL p F vs ds) : ItD p F (enumD 0 ds) (Ite K a) where
  go := fun i F2 H2 f fr hi => by
    rw [enumD_length] at hi
    obtain ⟨v, hv, _⟩ := r.get (List.getElem?_eq_getElem hi)
    exact ⟨vs, v, SqL.of (fr.fh _ _ (f _ _ h)), hv⟩
  yld := fun i F2 H2 x H3 f fr y hi => by
    obtain ⟨T, x', rfl, nT, rfl, y⟩ := y
    have hx := y vs (SqL.of (fr.fh _ _ (f _ _ h)))
    obtain ⟨d, hd, rd⟩ := r.getV hx
    refine ⟨upd F2 T (.tup [.int (i : Nat), x']), _, ?_, Ext.new fr nT, Rp.tup' upd_same (.cons (.int _) (.one (rd.mono (f.trans (same_new (fr.fh.free nT))))))⟩
    rw [enumD_get, hd]
    simp
  stop := fun i F2 H2 f fr hi => ⟨vs, SqL.of (fr.fh _ _ (f _ _ h)), by rw [r.len]; rw [enumD_length] at hi; exact hi⟩
theorem zipD_length : ∀ (ds es : List D), (zipD ds es).length = min ds.length es.length
  | [], _ => by simp [zipD]
  | _ :: _, [] => by simp [zipD]
  | _ :: ds, _ :: es => by
    unfold zipD
    rw [List.length_cons, zipD_length ds es, List.length_cons, List.length_cons]
    omega
theorem zipD_get : ∀ (ds es : List D) (i : Nat) (d e : D), ds[i]? = some d → es[i]? = some e → (zipD ds es)[i]? = some (.tup [d, e])
  | [], _, _, _, _, h, _ => by simp at h
  | _ :: _, [], _, _, _, _, h => by simp at h
  | _ :: ds, _ :: es, 0, d, e, h, h' => by simp at h h'; subst h; subst h'; rfl
  | _ :: ds, _ :: es, i + 1, d, e, h, h' => zipD_get ds es i d e (by simpa using h) (by simpa using h')
theorem it_zip {K : PySem.W.Frag} {p : Pf} {F : Hp} {a b : Addr} {vs ws : List V} {ds es : List D} (h : F a = some (.lst vs)) (r : RpL p F vs ds) (h' : F b = some (.lst ws)) (r' : RpL p F ws es) : ItD p F (zipD ds es) (Itz K a b) where
  go := fun i F2 H2 f fr hi => by
    rw [zipD_length] at hi
    obtain ⟨v, hv, _⟩ := r.get (List.getElem?_eq_getElem (show i < ds.length by omega))
    obtain ⟨u, hu, _⟩ := r'.get (List.getElem?_eq_getElem (show i < es.length by omega))
    exact ⟨vs, ws, v, u, SqL.of (fr.fh _ _ (f _ _ h)), SqL.of (fr.fh _ _ (f _ _ h')), hv, hu⟩
  yld := fun i F2 H2 x H3 f fr y hi => by
    obtain ⟨T, x', y', rfl, nT, rfl, y, z⟩ := y
    have hx := y vs (SqL.of (fr.fh _ _ (f _ _ h)))
    have hy := z ws (SqL.of (fr.fh _ _ (f _ _ h')))
    obtain ⟨d, hd, rd⟩ := r.getV hx
    obtain ⟨e, he, re⟩ := r'.getV hy
    have m := f.trans (same_new (o := .tup [x', y']) (fr.fh.free nT))
    exact ⟨upd F2 T (.tup [x', y']), _, zipD_get _ _ _ _ _ hd he, Ext.new fr nT, Rp.tup' upd_same (.cons (rd.mono m) (.one (re.mono m)))⟩
  stop := fun i F2 H2 f fr hi => by
    rw [zipD_length] at hi
    refine ⟨vs, ws, SqL.of (fr.fh _ _ (f _ _ h)), SqL.of (fr.fh _ _ (f _ _ h')), ?_⟩
    rw [r.len, r'.len]
    omega
theorem di_list {e : Expr} {t : ED} (h : DE X O .fz e t) : DI X O tg e (wL t) := by
  refine ⟨pi_imp (pi_list h.pe) fun σ H R ⟨B, C, F, δ, s, q⟩ => ?_, fun δ Q Q' i q => h.mono _ _ _ (fun d ⟨ds, z, q⟩ => ⟨ds, z, i _ q⟩) q⟩
  refine ⟨B, C, F, δ, s, h.mono _ _ _ (fun d ⟨ds, z, q⟩ F' H' v x r => ?_) q⟩
  subst z
  obtain ⟨a, vs, rfl, ha, rl⟩ := Rp.lst_inv r
  exact ⟨a, rfl, ⟨vs, SqL.of (x.fr.fh _ _ ha)⟩, q F' H' _ x (it_list ha rl)⟩
theorem di_tup {e : Expr} {t : ED} (h : DE X O .fz e t) : DI X O tg e (wT t) := by
  refine ⟨pi_imp (pi_tup h.pe) fun σ H R ⟨B, C, F, δ, s, q⟩ => ?_, fun δ Q Q' i q => h.mono _ _ _ (fun d ⟨ds, z, q⟩ => ⟨ds, z, i _ q⟩) q⟩
  refine ⟨B, C, F, δ, s, h.mono _ _ _ (fun d ⟨ds, z, q⟩ F' H' v x r => ?_) q⟩
  subst z
  obtain ⟨a, vs, rfl, ha, rl⟩ := Rp.tup_inv r
  exact ⟨a, rfl, ⟨vs, SqT.of (x.fr.fh _ _ ha)⟩, q F' H' _ x (it_tup ha rl)⟩
theorem RpL.inv1 {p : Pf} {F : Hp} {vs : List V} {d : D} (r : RpL p F vs [d]) : ∃ v, vs = [v] ∧ Rp p F v d := by
  obtain ⟨v, r', rfl, q, q'⟩ := r.uncons
  have := q'.nil_l; subst this
  exact ⟨v, rfl, q⟩
theorem RpL.inv2 {p : Pf} {F : Hp} {vs : List V} {d e : D} (r : RpL p F vs [d, e]) : ∃ v w, vs = [v, w] ∧ Rp p F v d ∧ Rp p F w e := by
  obtain ⟨v, r', rfl, q, q'⟩ := r.uncons
  obtain ⟨w, rfl, q2⟩ := q'.inv1
  exact ⟨v, w, rfl, q, q2⟩
theorem RpL.inv3 {p : Pf} {F : Hp} {vs : List V} {d e f : D} (r : RpL p F vs [d, e, f]) : ∃ v w u, vs = [v, w, u] ∧ Rp p F v d ∧ Rp p F w e ∧ Rp p F u f := by
  obtain ⟨v, r', rfl, q, q'⟩ := r.uncons
  obtain ⟨w, u, rfl, q2, q3⟩ := q'.inv2
  exact ⟨v, w, u, rfl, q, q2, q3⟩
theorem di_range1 {a : Expr} {ta : AD} {p : Pos} (hg : Gl X "range") (hm : X.mg "range" = none) (ha : DA X O .fz [a] ta) (hs : starEach [a] X.env = [(false, eval a X.env)] := by rfl) : DI X O tg (.Call (.Name "range" p) [a] [] pos) (wR1 ta) := by
  refine ⟨pi_imp (pi_range1 hg hm ha.pa hs) fun σ H R ⟨B, C, F, δ, s, q⟩ => ?_, fun δ Q Q' i q => ha.mono _ _ _ (fun d ⟨j, z, b1, b2, q⟩ => ⟨j, z, b1, b2, i _ q⟩) q⟩
  refine ⟨B, C, F, δ, s, ha.mono _ _ _ (fun d ⟨j, z, b1, b2, q⟩ F' H' v x r => ?_) q⟩
  subst z
  obtain ⟨v, rfl, q1⟩ := r.rp.inv1
  cases q1.int_inv
  exact ⟨j, rfl, b1, b2, q F' H' _ x it_range⟩
theorem di_range2 {a b : Expr} {ta : AD} {p : Pos} (hg : Gl X "range") (hm : X.mg "range" = none) (ha : DA X O .fz [a, b] ta) (hs : starEach [a, b] X.env = [(false, eval a X.env), (false, eval b X.env)] := by rfl) (hs2 : starEach [b] X.env = [(false, eval b X.env)] := by rfl) : DI X O tg (.Call (.Name "range" p) [a, b] [] pos) (wR2 ta) := by
  refine ⟨pi_imp (pi_range2 hg hm ha.pa hs hs2) fun σ H R ⟨B, C, F, δ, s, q⟩ => ?_, fun δ Q Q' i q => ha.mono _ _ _ (fun d ⟨k, j, z, b, q⟩ => ⟨k, j, z, b, i _ q⟩) q⟩
  refine ⟨B, C, F, δ, s, ha.mono _ _ _ (fun d ⟨k, j, z, b, q⟩ F' H' v x r => ?_) q⟩
  subst z
  obtain ⟨v, w, rfl, q1, q2⟩ := r.rp.inv2
  cases q1.int_inv
  cases q2.int_inv
  exact ⟨k, j, rfl, b, q F' H' _ x it_range⟩
theorem di_range3 {a b c : Expr} {ta : AD} {p : Pos} (hg : Gl X "range") (hm : X.mg "range" = none) (ha : DA X O .fz [a, b, c] ta) (hs : starEach [a, b, c] X.env = (false, eval a X.env) :: starEach [b, c] X.env := by rfl) (hpl : (backTo pos (starEach [b, c] X.env)).any (·.1) = false := by rfl) : DI X O tg (.Call (.Name "range" p) [a, b, c] [] pos) (wR3 ta) := by
  refine ⟨pi_imp (pi_range3 hg hm ha.pa hs hpl) fun σ H R ⟨B, C, F, δ, s, q⟩ => ?_, fun δ Q Q' i q => ha.mono _ _ _ (fun d ⟨k, j, c, n, z, b, q⟩ => ⟨k, j, c, n, z, b, i _ q⟩) q⟩
  refine ⟨B, C, F, δ, s, ha.mono _ _ _ (fun d ⟨k, j, c, n, z, b, q⟩ F' H' v x r => ?_) q⟩
  subst z
  obtain ⟨v, w, u, rfl, q1, q2, q3⟩ := r.rp.inv3
  cases q1.int_inv
  cases q2.int_inv
  cases q3.int_inv
  exact ⟨k, j, c, n, rfl, b, q F' H' _ x it_rangeS⟩
theorem di_enum {e : Expr} {ta : AD} {p tpos : Pos} {elts : List Expr} {kk : Nat} (hg : Gl X "enumerate") (hm : X.mg "enumerate" = none) (ha : DA X O .fz [e] ta) (hs : starEach [e] X.env = [(false, eval e X.env)] := by rfl) : DI X O (.Tuple elts kk tpos) (.Call (.Name "enumerate" p) [e] [] pos) (wE ta) := by
  refine ⟨pi_imp (pi_enum hg hm ha.pa hs) fun σ H R ⟨B, C, F, δ, s, q⟩ => ?_, fun δ Q Q' i q => ha.mono _ _ _ (fun d ⟨xs, z, q⟩ => ⟨xs, z, i _ q⟩) q⟩
  refine ⟨B, C, F, δ, s, ha.mono _ _ _ (fun d ⟨xs, z, q⟩ F' H' v x r => ?_) q⟩
  subst z
  obtain ⟨v, rfl, q1⟩ := r.rp.inv1
  obtain ⟨a, vs, rfl, h1, rl⟩ := q1.lst_inv
  exact ⟨a, vs, rfl, SqL.of (x.fr.fh _ _ h1), q F' H' _ x (it_enum h1 rl)⟩
theorem di_rev {e : Expr} {ta : AD} {p : Pos} (hg : Gl X "reversed") (hm : X.mg "reversed" = none) (ha : DA X O .fz [e] ta) (hs : starEach [e] X.env = [(false, eval e X.env)] := by rfl) : DI X O tg (.Call (.Name "reversed" p) [e] [] pos) (wV ta) := by
  refine ⟨pi_imp (pi_reversed hg hm ha.pa hs) fun σ H R ⟨B, C, F, δ, s, q⟩ => ?_, fun δ Q Q' i q => ha.mono _ _ _ (fun d ⟨xs, z, q⟩ => ⟨xs, z, i _ q⟩) q⟩
  refine ⟨B, C, F, δ, s, ha.mono _ _ _ (fun d ⟨xs, z, q⟩ F' H' v x r => ?_) q⟩
  subst z
  obtain ⟨v, rfl, q1⟩ := r.rp.inv1
  obtain ⟨a, vs, rfl, h1, rl⟩ := q1.lst_inv
  exact ⟨a, vs, rfl, SqL.of (x.fr.fh _ _ h1), q F' H' _ x (it_rev h1 rl)⟩
theorem di_zip {e e2 : Expr} {ta : AD} {p tpos : Pos} {elts : List Expr} {kk : Nat} (hg : Gl X "zip") (hm : X.mg "zip" = none) (ha : DA X O .fz [e, e2] ta)
    (hs : starEach [e, e2] X.env = (false, eval e X.env) :: starEach [e2] X.env := by rfl) (hpl : (backTo pos (starEach [e2] X.env)).any (·.1) = false := by rfl) : DI X O (.Tuple elts kk tpos) (.Call (.Name "zip" p) [e, e2] [] pos) (wZ ta) := by
  refine ⟨pi_imp (pi_zip hg hm ha.pa hs hpl) fun σ H R ⟨B, C, F, δ, s, q⟩ => ?_, fun δ Q Q' i q => ha.mono _ _ _ (fun d ⟨xs, ys, z, q⟩ => ⟨xs, ys, z, i _ q⟩) q⟩
  refine ⟨B, C, F, δ, s, ha.mono _ _ _ (fun d ⟨xs, ys, z, q⟩ F' H' v x r => ?_) q⟩
  subst z
  obtain ⟨v, u, rfl, q1, q2⟩ := r.rp.inv2
  obtain ⟨a, vs, rfl, h1, rl⟩ := q1.lst_inv
  obtain ⟨b, ws, rfl, h2, rl2⟩ := q2.lst_inv
  exact ⟨a, b, vs, ws, rfl, SqL.of (x.fr.fh _ _ h1), SqL.of (x.fr.fh _ _ h2), q F' H' _ x (it_zip h1 rl h2 rl2)⟩
end
end DL
end

/-! part: DL5 -/
section
set_option Elab.async false
set_option linter.all false
set_option maxRecDepth 100000
set_option maxHeartbeats 2000000
namespace DL
open PySem PySem.Spec L2
open PyProof.Rows hiding St
/-! ### 10. writing to one's own -/
theorem Fr.poke {p : Pf} {F H : Hp} (f : Fr p F H) {a : Addr} {o : HO} (n : F a = none) (np : ne_p p a) : Fr p F (upd H a o) := by
  refine ⟨fun b u e => ?_, fun x y e => ?_⟩
  · have h := f.fh b u e
    rw [upd_ne (ne_of_none e n)]; exact h
  · obtain ⟨out, ns, i, c, r, h, q⟩ := f.fd x y e
    have hx : x ≠ a := fun z => np y (z ▸ e)
    exact ⟨out, ns, i, c, r, by rw [upd_ne hx]; exact h, q⟩
section
variable {O : Os} {B : Bs} {C : Nat → Hp} {F : Hp} {σ : St} {H : Hp} {δ : DS}
/-- a thing beside all that the slots hold is written -/
theorem SR.poke (s : SR O B C F σ H δ) {a : Addr} {o : HO} (n : F a = none) (np : ne_p B.p a) (h0 : B.H a = none) (nc : ∀ i, C i a = none) : SR O B C F σ (upd H a o) δ :=
  ⟨s.f0, ⟨s.ext.ff, fun b u e np' => by rw [upd_ne (ne_of_none e h0)]; exact s.ext.hh b u e np', s.ext.nw, s.fr.poke n np⟩, s.len,
    fun i b u e => by rw [upd_ne (ne_of_none e (nc i))]; exact s.sub i b u e, s.out, s.dis, s.at_⟩
/-- an own object is written -/
theorem SR.write (s : SR O B C F σ H δ) {i : Nat} {d : D} (hd : δ[i]? = some (some d)) (hO : O.getD i .fz = .nw) : ∃ c o, σ[i]? = some (some (.ref c)) ∧ H c = some o ∧ ObD B.p F o d ∧
    ∀ o' d', ObD B.p F o' d' → ∃ C', SR O B C' F σ (upd H c o') (δ.set i (some d')) := by
  obtain ⟨v, hv, q⟩ := s.at_ i d hd
  rw [hO] at q
  obtain ⟨c, o, rfl, hc, un, r⟩ := q
  obtain ⟨np, h0, hf⟩ := s.out i c o hc
  refine ⟨c, o, hv, s.sub i c o hc, r, fun o' d' r' => ⟨setC C i (one_ c o'), s.f0, ⟨s.ext.ff, fun b u e np' => by rw [upd_ne (ne_of_none e h0)]; exact s.ext.hh b u e np', s.ext.nw, s.fr.poke hf np⟩, by simp [s.len], fun j => ?_, fun j a u e => ?_, fun j k a u ne e => ?_, fun j e h' => ?_⟩⟩
  · by_cases hj : j = i
    · subst hj; rw [setC_same]; intro a u e
      obtain ⟨rfl, rfl⟩ := one_only e
      exact upd_same
    · rw [setC_ne hj]
      intro a u e
      have : a ≠ c := fun z => by
        subst z
        have := s.dis j i a u hj e
        rw [hc] at this; cases this
      rw [upd_ne this]; exact s.sub j a u e
  · by_cases hj : j = i
    · subst hj; rw [setC_same] at e
      obtain ⟨rfl, rfl⟩ := one_only e
      exact ⟨np, h0, hf⟩
    · rw [setC_ne hj] at e; exact s.out j a u e
  · by_cases hj : j = i
    · subst hj; rw [setC_same] at e
      obtain ⟨rfl, rfl⟩ := one_only e
      rw [setC_ne (Ne.symm ne)]
      exact s.dis j k _ o ne hc
    · rw [setC_ne hj] at e
      by_cases hk : k = i
      · subst hk; rw [setC_same]
        cases q : one_ c o' a with
        | none => rfl
        | some w =>
          obtain ⟨rfl, _⟩ := one_only q
          have := s.dis j k _ u hj e
          rw [hc] at this; cases this
      · rw [setC_ne hk]; exact s.dis j k a u ne e
  · by_cases hj : i = j
    · subst hj
      have hi' : i < δ.length := (List.getElem?_eq_some_iff.mp hd).1
      rw [List.getElem?_set_self hi'] at h'
      cases h'
      refine ⟨_, hv, ?_⟩
      rw [hO, setC_same]
      exact ⟨c, o', rfl, one_at, fun a u z => (one_only z).1, r'⟩
    · rw [List.getElem?_set_ne hj] at h'
      obtain ⟨w, h1, h2⟩ := s.at_ j e h'
      exact ⟨w, h1, by rw [setC_ne (Ne.symm hj)]; exact h2⟩
end
def sApp (i : Nat) (t : ED) : SD := fun E δ => ∃ ds, δ[i]? = some (some (.lst ds)) ∧ t δ fun d => ds.length < sizeLine ∧ E.nx (δ.set i (some (.lst (ds ++ [d]))))
def sExt (i : Nat) (t : ED) : SD := fun E δ => ∃ ds, δ[i]? = some (some (.lst ds)) ∧ t δ fun d => ∃ es, d = .lst es ∧ ds.length + es.length ≤ sizeLine ∧ E.nx (δ.set i (some (.lst (ds ++ es))))
def sPop (i : Nat) : SD := fun E δ => ∃ ds d, δ[i]? = some (some (.lst ds)) ∧ ds[ds.length - 1]? = some d ∧ E.nx (δ.set i (some (.lst ds.dropLast)))
def sIns (i : Nat) (t : AD) : SD := fun E δ => ∃ ds, δ[i]? = some (some (.lst ds)) ∧ t δ fun ks => ∃ j d, ks = [.int j, d] ∧ ds.length < sizeLine ∧ 0 ≤ j ∧ j < 2 ^ 63 ∧ E.nx (δ.set i (some (.lst (ds.take j.toNat ++ [d] ++ ds.drop j.toNat))))
/-- x[k] = e -/
def sPut (i : Nat) (tk te : ED) : SD := fun E δ => ∃ ds, δ[i]? = some (some (.lst ds)) ∧ te δ fun d => tk δ fun k => ∃ k' j, k = .int k' ∧ ixN ds.length k' = some j ∧ E.nx (δ.set i (some (.lst (ds.set j d))))
/-- x[k] += e, -= -/
def sPutI (f : Int → Int → Int) (i : Nat) (tk te : ED) : SD := fun E δ => ∃ ds, δ[i]? = some (some (.lst ds)) ∧ tk δ fun k => ∃ k' a, k = .int k' ∧ 0 ≤ k' ∧ ds[k'.toNat]? = some (.int a) ∧ te δ fun d => ∃ b, d = .int b ∧ E.nx (δ.set i (some (.lst (ds.set k'.toNat (.int (f a b))))))
/-- r.append(l.pop(e)) -/
def sMove (i j : Nat) (t : ED) : SD := fun E δ => ∃ ds es, δ[i]? = some (some (.lst ds)) ∧ δ[j]? = some (some (.lst es)) ∧ t δ fun k => ∃ k' m d, k = .int k' ∧ ds.length < sizeLine ∧ -(2 ^ 63) ≤ k' ∧ k' < 2 ^ 63 ∧ seqIndex? k' es.length = some m ∧ es[m]? = some d ∧
  E.nx ((δ.set j (some (.lst (es.eraseIdx m)))).set i (some (.lst (ds ++ [d]))))
/-- name op= e, ints -/
def sAug (f : Int → Int → Int) (i : Nat) (t : ED) : SD := fun E δ => ∃ a, δ[i]? = some (some (.int a)) ∧ t δ fun d => ∃ b, d = .int b ∧ E.nx (δ.set i (some (.int (f a b))))
theorem ObD.lst_inv {p : Pf} {F : Hp} {o : HO} {ds : List D} (h : ObD p F o (.lst ds)) : ∃ vs, o = .lst vs ∧ RpL p F vs ds := by
  cases o <;> first | exact h.elim | exact ⟨_, rfl, h⟩
section
variable {O : Os} {B : Bs} {C : Nat → Hp} {F : Hp} {σ : St} {H : Hp} {δ : DS}
theorem SR.ownL (s : SR O B C F σ H δ) {i : Nat} {ds : List D} (hd : δ[i]? = some (some (.lst ds))) (hO : O.getD i .fz = .nw) : ∃ c vs, σ[i]? = some (some (.ref c)) ∧ H c = some (.lst vs) ∧ RpL B.p F vs ds ∧ ne_p B.p c ∧ F c = none ∧
    ∀ vs' ds', RpL B.p F vs' ds' → ∃ C', SR O B C' F σ (upd H c (.lst vs')) (δ.set i (some (.lst ds'))) := by
  obtain ⟨c, o, h1, h2, r, w⟩ := s.write hd hO
  obtain ⟨vs, rfl, r⟩ := r.lst_inv
  obtain ⟨v, hv, q⟩ := s.at_ i _ hd
  rw [hO] at q
  obtain ⟨c', o', rfl, hc, _, _⟩ := q
  rw [hv] at h1
  cases h1
  obtain ⟨np, _, hf⟩ := s.out i _ _ hc
  exact ⟨c, vs, hv, h2, r, np, hf, fun vs' ds' r' => w (.lst vs') (.lst ds') r'⟩
end
section
variable {X : Cx} {κr : Kd} {Oc O : Os} {i j : Nat} {e e2 : Expr} {te tu : ED} {x y : Expr} {pos p1 p2 p3 p4 : Pos}
theorem dst_append (hx : PE X x (tVar i)) (hO : O.getD i .fz = .nw) (he : DE X O .fz e te)
    (hbase : attributeBase x "append" X.env (eval x X.env) = eval x X.env := by rfl)
    (hfew : ((backTo p2 (starEach [e] X.env)).all (fun x => !x.1) && (backToKw p2 (keywordEach [] X.env)).all (fun x => x.1.isSome)
      && decide ([e].length + ([] : List Keyword).length + (if ([] : List Keyword).isEmpty then 0 else 1) < 30)) = true := by rfl)
    (hline : (p1.endLine == p2.line) = true := by rfl) (hst : starEach [e] X.env = (false, eval e X.env) :: starEach [] X.env := by rfl) (hplain : (backTo p2 (starEach [] X.env)).any (·.1) = false := by rfl)
    (hs : swapsWith (.Call (.Attribute x "append" p1) [e] [] p2) none pos.line X.env = pure false := by rfl) :
    DSt X κr Oc O O (.Expr (.Call (.Attribute x "append" p1) [e] [] p2) pos) (sApp i te) := by
  have h := pe_bm PySem.F.plainAttrs_list PySem.F.slot_list_append PySem.F.type_list_append mt_append hx (pa_cons he.pe pa_nil hst) hbase hfew hline hst hplain
  refine ⟨ps_imp (ps_expr h hs) fun D σ H ⟨B, C, F, δ, s, ds, hd, w⟩ => ?_, fun E E' δ h ⟨ds, a, w⟩ => ⟨ds, a, he.mono _ _ _ (fun d ⟨b, w⟩ => ⟨b, h.nx _ w⟩) w⟩⟩
  obtain ⟨c, vs, h1, h2, r, np, hf, _⟩ := s.ownL hd hO
  refine ⟨_, h1, .inl ⟨rfl, vs, SqL.of h2⟩, B, C, F, δ, s, he.mono _ _ _ (fun d ⟨b, w⟩ F1 H1 v x1 r1 => ?_) w⟩
  have s1 := s.step x1
  obtain ⟨c', vs', g1, g2, r', _, _, wr⟩ := s1.ownL hd hO
  rw [h1] at g1; cases g1
  obtain ⟨C2, s2⟩ := wr (vs' ++ [v]) (ds ++ [d]) (r'.append (.one r1))
  exact ⟨c, vs', v, rfl, rfl, g2, by rw [r'.len]; exact b, w _ _ _ _ s2 x1.ff⟩
theorem dst_extend (hx : PE X x (tVar i)) (hO : O.getD i .fz = .nw) (he : DE X O .fz e te)
    (hbase : attributeBase x "extend" X.env (eval x X.env) = eval x X.env := by rfl)
    (hfew : ((backTo p2 (starEach [e] X.env)).all (fun x => !x.1) && (backToKw p2 (keywordEach [] X.env)).all (fun x => x.1.isSome)
      && decide ([e].length + ([] : List Keyword).length + (if ([] : List Keyword).isEmpty then 0 else 1) < 30)) = true := by rfl)
    (hline : (p1.endLine == p2.line) = true := by rfl) (hst : starEach [e] X.env = (false, eval e X.env) :: starEach [] X.env := by rfl) (hplain : (backTo p2 (starEach [] X.env)).any (·.1) = false := by rfl)
    (hs : swapsWith (.Call (.Attribute x "extend" p1) [e] [] p2) none pos.line X.env = pure false := by rfl) :
    DSt X κr Oc O O (.Expr (.Call (.Attribute x "extend" p1) [e] [] p2) pos) (sExt i te) := by
  have h := pe_bm PySem.F.plainAttrs_list PySem.F.slot_list_extend PySem.F.type_list_extend mt_extend hx (pa_cons he.pe pa_nil hst) hbase hfew hline hst hplain
  refine ⟨ps_imp (ps_expr h hs) fun D σ H ⟨B, C, F, δ, s, ds, hd, w⟩ => ?_, fun E E' δ h ⟨ds, a, w⟩ => ⟨ds, a, he.mono _ _ _ (fun d ⟨es, b, c, w⟩ => ⟨es, b, c, h.nx _ w⟩) w⟩⟩
  obtain ⟨c, vs, h1, h2, r, np, hf, _⟩ := s.ownL hd hO
  refine ⟨_, h1, .inl ⟨rfl, vs, SqL.of h2⟩, B, C, F, δ, s, he.mono _ _ _ (fun d ⟨es, b, z, w⟩ F1 H1 v x1 r1 => ?_) w⟩
  subst b
  have s1 := s.step x1
  obtain ⟨c', vs', g1, g2, r', _, _, wr⟩ := s1.ownL hd hO
  rw [h1] at g1; cases g1
  obtain ⟨a, zs, rfl, ha, ra⟩ := Rp.lst_inv r1
  obtain ⟨C2, s2⟩ := wr (vs' ++ zs) (ds ++ es) (r'.append ra)
  exact ⟨c, a, vs', zs, rfl, rfl, g2, x1.fr.fh _ _ ha, by rw [r'.len, ra.len]; exact z, w _ _ _ _ s2 x1.ff⟩
theorem dst_pop (hx : PE X x (tVar i)) (hO : O.getD i .fz = .nw)
    (hbase : attributeBase x "pop" X.env (eval x X.env) = eval x X.env := by rfl) (hline : (p1.endLine == p2.line) = true := by rfl)
    (hs : swapsWith (.Call (.Attribute x "pop" p1) [] [] p2) none pos.line X.env = pure false := by rfl) :
    DSt X κr Oc O O (.Expr (.Call (.Attribute x "pop" p1) [] [] p2) pos) (sPop i) := by
  have h := pe_bm0 PySem.F.plainAttrs_list PySem.F.slot_list_pop PySem.F.type_list_pop mt_pop hx hbase hline
  refine ⟨ps_imp (ps_expr h hs) fun D σ H ⟨B, C, F, δ, s, ds, d, hd, hl, w⟩ => ?_, fun E E' δ h ⟨ds, d, a, b, w⟩ => ⟨ds, d, a, b, h.nx _ w⟩⟩
  obtain ⟨c, vs, h1, h2, r, np, hf, wr⟩ := s.ownL hd hO
  obtain ⟨v, hv, _⟩ := r.get hl
  obtain ⟨C2, s2⟩ := wr vs.dropLast ds.dropLast r.dropLast
  exact ⟨_, h1, .inl ⟨rfl, vs, SqL.of h2⟩, c, vs, v, rfl, rfl, h2, by rw [r.len]; exact hv, w _ _ _ _ s2 (Same.refl _)⟩
theorem dst_insert {ta : AD} (hx : PE X x (tVar i)) (hO : O.getD i .fz = .nw) (he : DA X O .fz [e, e2] ta)
    (hbase : attributeBase x "insert" X.env (eval x X.env) = eval x X.env := by rfl)
    (hfew : ((backTo p2 (starEach [e, e2] X.env)).all (fun x => !x.1) && (backToKw p2 (keywordEach [] X.env)).all (fun x => x.1.isSome)
      && decide ([e, e2].length + ([] : List Keyword).length + (if ([] : List Keyword).isEmpty then 0 else 1) < 30)) = true := by rfl)
    (hline : (p1.endLine == p2.line) = true := by rfl) (hst : starEach [e, e2] X.env = (false, eval e X.env) :: starEach [e2] X.env := by rfl) (hplain : (backTo p2 (starEach [e2] X.env)).any (·.1) = false := by rfl)
    (hs : swapsWith (.Call (.Attribute x "insert" p1) [e, e2] [] p2) none pos.line X.env = pure false := by rfl) :
    DSt X κr Oc O O (.Expr (.Call (.Attribute x "insert" p1) [e, e2] [] p2) pos) (sIns i ta) := by
  have h := pe_bm PySem.F.plainAttrs_list PySem.F.slot_list_insert PySem.F.type_list_insert mt_insert hx he.pa hbase hfew hline hst hplain
  refine ⟨ps_imp (ps_expr h hs) fun D σ H ⟨B, C, F, δ, s, ds, hd, w⟩ => ?_, fun E E' δ h ⟨ds, a, w⟩ => ⟨ds, a, he.mono _ _ _ (fun d ⟨k, d', b1, b2, b3, b4, w⟩ => ⟨k, d', b1, b2, b3, b4, h.nx _ w⟩) w⟩⟩
  obtain ⟨c, vs, h1, h2, r, np, hf, _⟩ := s.ownL hd hO
  refine ⟨_, h1, .inl ⟨rfl, vs, SqL.of h2⟩, B, C, F, δ, s, he.mono _ _ _ (fun ks ⟨k, d, b1, b2, b3, b4, w⟩ F1 H1 us x1 r1 => ?_) w⟩
  subst b1
  have s1 := s.step x1
  obtain ⟨c', vs', g1, g2, r', _, _, wr⟩ := s1.ownL hd hO
  rw [h1] at g1; cases g1
  obtain ⟨u1, u2, rfl, q1, q2⟩ := r1.rp.inv2
  cases q1.int_inv
  obtain ⟨C2, s2⟩ := wr (vs'.take k.toNat ++ [u2] ++ vs'.drop k.toNat) (ds.take k.toNat ++ [d] ++ ds.drop k.toNat) (((r'.take _).append (.one q2)).append (r'.drop _))
  exact ⟨c, vs', k, u2, rfl, rfl, g2, by rw [r'.len]; exact b2, b3, b4, w _ _ _ _ s2 x1.ff⟩
theorem dst_put {ek : Expr} {tk : ED} (hx : PE X x (tVar i)) (hO : O.getD i .fz = .nw) (hk : DE X O .fz ek tk) (he : DE X O .fz e te)
    (hsw : swapsWithSole [.Subscript x ek p1] e pos.line X.env = pure false := by rfl) (hw : swappedStores [.Subscript x ek p1] e X.env = pure none := by rfl)
    (h1 : (assignEach [.Subscript x ek p1] X.env).map (·.2) = [assign (.Subscript x ek p1) X.env] := by rfl)
    (ha : ∀ v, assign (.Subscript x ek p1) X.env v = (do
      let ov ← holding [v] (eval x X.env)
      let iv ← holding [v, ov] (eval ek X.env)
      standAt p1
      holding [v, ov, iv] (setItem ov iv v)
      release [v, ov, iv] []) := by intro _; rfl) : DSt X κr Oc O O (.Assign [.Subscript x ek p1] e pos) (sPut i tk te) := by
  refine ⟨ps_imp (ps_asg he.pe (pg_sub hx hk.pe set_list ha) hsw hw h1) fun D σ H ⟨B, C, F, δ, s, ds, hd, w⟩ => ?_, fun E E' δ h ⟨ds, a, w⟩ => ⟨ds, a, he.mono _ _ _ (fun d w => hk.mono _ _ _ (fun k ⟨k', j, b1, b2, w⟩ => ⟨k', j, b1, b2, h.nx _ w⟩) w) w⟩⟩
  refine ⟨B, C, F, δ, s, he.mono _ _ _ (fun d w F1 H1 v x1 r1 => ?_) w⟩
  obtain ⟨c, vs, g1, g2, r, np, hf, _⟩ := (s.step x1).ownL hd hO
  refine ⟨_, g1, B, C, F1, δ, s.step x1, hk.mono _ _ _ (fun k ⟨k', j, b1, b2, w⟩ F2 H2 u x2 r2 => ?_) w⟩
  subst b1
  obtain ⟨c', vs', g1', g2', r', _, _, wr⟩ := ((s.step x1).step x2).ownL hd hO
  rw [g1] at g1'; cases g1'
  cases Rp.int_inv r2
  obtain ⟨C2, s2⟩ := wr (vs'.set j v) (ds.set j d) (r'.set j (Rp.mono x2.ff r1))
  exact ⟨c, vs', k', j, rfl, rfl, g2', by rw [r'.len]; exact b2, w _ _ _ _ s2 (x1.ff.trans x2.ff)⟩
theorem dst_aug {f : Int → Int → Int} {n : Str} {op : Operator} (hN : X.N.Nodup) (hi : X.N[i]? = some n) (hx : Loc X.env.scope n) (he : DE X O .fz e te) (ho : PIp X op (ipI f)) (hf : X.fn n = true ∨ X.env.scope.names.lookup n = some .local := by first | exact .inl rfl | exact .inr rfl | assumption) :
    DSt X κr Oc O (O.set i .fz) (.AugAssign (.Name n p1) op e pos) (sAug f i te) := by
  refine ⟨ps_imp (ps_aug hN hi hx he.pe ho hf) fun D σ H ⟨B, C, F, δ, s, a, hd, w⟩ => ?_, fun E E' δ h ⟨a, z, w⟩ => ⟨a, z, he.mono _ _ _ (fun d ⟨b, q, w⟩ => ⟨b, q, h.nx _ w⟩) w⟩⟩
  obtain ⟨v, hv, q⟩ := s.at_ i _ hd
  have ev : v = .int a := by
    cases k : O.getD i .fz with
    | fz => rw [k] at q; exact Rp.int_inv q
    | nw =>
      rw [k] at q
      obtain ⟨c, o, _, _, _, r⟩ := q
      cases o <;> exact r.elim
    | tp => rw [k] at q; exact q.elim
    | vw => rw [k] at q; exact q.elim
    | dp n => rw [k] at q; exact Un.int_inv q
  subst ev
  refine ⟨_, hv, B, C, F, δ, s, he.mono _ _ _ (fun d ⟨b, q, w⟩ F1 H1 v x1 r1 => ?_) w⟩
  subst q
  cases Rp.int_inv r1
  exact ⟨a, b, rfl, rfl, w _ F1 _ H1 ((s.step x1).set i (.int _)) x1.ff⟩
def gItL (K : PySem.W.Frag) : V → V → Hp → VK → Prop := fun x y H Q => ∃ p xs i v, x = .ref p ∧ y = .int i ∧ SqL K H p xs ∧ 0 ≤ i ∧ xs[i.toNat]? = some v ∧ Q v H
theorem get_list : PGet X (gItL X.K) := by
  intro pins s σ H o iv ov iv' Q' I ro ri h
  obtain ⟨p, xs, k, v, rfl, rfl, hs, h0, hv, q⟩ := h
  cases ro
  obtain ⟨t, rfl⟩ := ri
  obtain ⟨its, r, pl, hz⟩ := I.list hs
  obtain ⟨u, hu, ru⟩ := r.get hv
  have hl := (List.getElem?_eq_some_iff.mp hv).1
  have hn := line63
  exact getItem_listL pl.isList h0 (by omega) hu ⟨v, H, I, ru, q⟩
theorem dst_putI {f : Int → Int → Int} {op : Operator} {ek : Expr} {tk : ED} (hx : PE X x (tVar i)) (hO : O.getD i .fz = .nw) (hk : DE X O .fz ek tk) (he : DE X O .fz e te) (ho : PIp X op (ipI f))
    (ha : ∀ ov iv new, augStore ek ov iv new = (do holding [new, ov, iv] (setItem ov iv new); release [new, ov, iv] []; pure .next) := by intros; rfl) :
    DSt X κr Oc O O (.AugAssign (.Subscript x ek p1) op e pos) (sPutI f i tk te) := by
  refine ⟨ps_imp (ps_augS hx hk.pe get_list he.pe ho set_list ha) fun D σ H ⟨B, C, F, δ, s, ds, hd, w⟩ => ?_, fun E E' δ h ⟨ds, a, w⟩ => ⟨ds, a, hk.mono _ _ _ (fun k ⟨k', a, b1, b2, b3, w⟩ => ⟨k', a, b1, b2, b3, he.mono _ _ _ (fun d ⟨b, q, w⟩ => ⟨b, q, h.nx _ w⟩) w⟩) w⟩⟩
  obtain ⟨c, vs, g1, g2, r, np, hf, _⟩ := s.ownL hd hO
  refine ⟨_, g1, B, C, F, δ, s, hk.mono _ _ _ (fun k ⟨k', a, b1, b2, b3, w⟩ F1 H1 u x1 r1 => ?_) w⟩
  subst b1
  cases Rp.int_inv r1
  obtain ⟨c', vs', g1', g2', r', _, _, _⟩ := (s.step x1).ownL hd hO
  rw [g1] at g1'; cases g1'
  obtain ⟨v, hv, rv⟩ := r'.get b3
  cases rv.int_inv
  refine ⟨c, vs', k', _, rfl, rfl, SqL.of g2', b2, hv, B, C, F1, δ, s.step x1, he.mono _ _ _ (fun d ⟨b, q, w⟩ F2 H2 u x2 r2 => ?_) w⟩
  subst q
  cases Rp.int_inv r2
  obtain ⟨c'', vs'', g1'', g2'', r'', _, _, wr⟩ := ((s.step x1).step x2).ownL hd hO
  rw [g1] at g1''; cases g1''
  obtain ⟨C2, s2⟩ := wr (vs''.set k'.toNat (.int (f a b))) (ds.set k'.toNat (.int (f a b))) (r''.set _ (.int _))
  have hl := (List.getElem?_eq_some_iff.mp b3).1
  refine ⟨a, b, rfl, rfl, c, vs'', k', k'.toNat, rfl, rfl, g2'', ?_, w _ _ _ _ s2 (x1.ff.trans x2.ff)⟩
  unfold ixN
  rw [if_pos b2, if_pos (by rw [r''.len]; omega)]
theorem dst_move {x y : Expr} (hx : PE X x (tVar i)) (hy : PE X y (tVar j)) (hij : i ≠ j) (hO : O.getD i .fz = .nw) (hO2 : O.getD j .fz = .nw) (he : DE X O .fz e te)
    (hbase : attributeBase x "append" X.env (eval x X.env) = eval x X.env := by rfl)
    (hfew : ((backTo p2 (starEach [.Call (.Attribute y "pop" p3) [e] [] p4] X.env)).all (fun x => !x.1) && (backToKw p2 (keywordEach [] X.env)).all (fun x => x.1.isSome)
      && decide (([.Call (.Attribute y "pop" p3) [e] [] p4] : List Expr).length + ([] : List Keyword).length + (if ([] : List Keyword).isEmpty then 0 else 1) < 30)) = true := by rfl)
    (hline : (p1.endLine == p2.line) = true := by rfl) (hst : starEach [.Call (.Attribute y "pop" p3) [e] [] p4] X.env = (false, eval (.Call (.Attribute y "pop" p3) [e] [] p4) X.env) :: starEach [] X.env := by rfl) (hplain : (backTo p2 (starEach [] X.env)).any (·.1) = false := by rfl)
    (hbase2 : attributeBase y "pop" X.env (eval y X.env) = eval y X.env := by rfl)
    (hfew2 : ((backTo p4 (starEach [e] X.env)).all (fun x => !x.1) && (backToKw p4 (keywordEach [] X.env)).all (fun x => x.1.isSome)
      && decide ([e].length + ([] : List Keyword).length + (if ([] : List Keyword).isEmpty then 0 else 1) < 30)) = true := by rfl)
    (hline2 : (p3.endLine == p4.line) = true := by rfl) (hst2 : starEach [e] X.env = (false, eval e X.env) :: starEach [] X.env := by rfl) (hplain2 : (backTo p4 (starEach [] X.env)).any (·.1) = false := by rfl)
    (hs : swapsWith (.Call (.Attribute x "append" p1) [.Call (.Attribute y "pop" p3) [e] [] p4] [] p2) none pos.line X.env = pure false := by rfl) :
    DSt X κr Oc O O (.Expr (.Call (.Attribute x "append" p1) [.Call (.Attribute y "pop" p3) [e] [] p4] [] p2) pos) (sMove i j te) := by
  have hp := pe_bm PySem.F.plainAttrs_list PySem.F.slot_list_pop PySem.F.type_list_pop mt_popAt hy (pa_cons he.pe pa_nil hst2) hbase2 hfew2 hline2 hst2 hplain2
  have h := pe_bm PySem.F.plainAttrs_list PySem.F.slot_list_append PySem.F.type_list_append mt_append hx (pa_cons hp pa_nil hst) hbase hfew hline hst hplain
  refine ⟨ps_imp (ps_expr h hs) fun D σ H ⟨B, C, F, δ, s, ds, es, hd, hd2, w⟩ => ?_, fun E E' δ h ⟨ds, es, a, a2, w⟩ => ⟨ds, es, a, a2, he.mono _ _ _ (fun d ⟨k, m, d', b1, b2, b3, b4, b5, b6, w⟩ => ⟨k, m, d', b1, b2, b3, b4, b5, b6, h.nx _ w⟩) w⟩⟩
  obtain ⟨c, vs, h1, h2, r, np, hf, _⟩ := s.ownL hd hO
  obtain ⟨c2, ws, k1, k2, r2, np2, hf2, _⟩ := s.ownL hd2 hO2
  refine ⟨_, h1, .inl ⟨rfl, vs, SqL.of h2⟩, _, k1, .inl ⟨rfl, ws, SqL.of k2⟩, B, C, F, δ, s, he.mono _ _ _ (fun d ⟨k, m, d', b1, b2, b3, b4, b5, b6, w⟩ F1 H1 v x1 r1 => ?_) w⟩
  subst b1
  cases Rp.int_inv r1
  have s1 := s.step x1
  obtain ⟨c2', ws', g1, g2, r2', _, _, wr2⟩ := s1.ownL hd2 hO2
  rw [k1] at g1; cases g1
  obtain ⟨z, hz, rz⟩ := r2'.get b6
  obtain ⟨C2, s2⟩ := wr2 (ws'.eraseIdx m) (es.eraseIdx m) (r2'.eraseIdx m)
  refine ⟨c2, ws', k, m, z, rfl, rfl, g2, b3, b4, by rw [r2'.len]; exact b5, hz, ?_⟩
  have hd' : (δ.set j (some (.lst (es.eraseIdx m))))[i]? = some (some (.lst ds)) := by rw [List.getElem?_set_ne (Ne.symm hij)]; exact hd
  obtain ⟨c', vs', g1', g2', r', _, _, wr⟩ := s2.ownL hd' hO
  rw [h1] at g1'; cases g1'
  obtain ⟨C3, s3⟩ := wr (vs' ++ [z]) (ds ++ [d']) (r'.append (.one rz))
  exact ⟨c, vs', z, rfl, rfl, g2', by rw [r'.len]; exact b2, w _ _ _ _ s3 x1.ff⟩
end
end DL
end

/-! part: DL6 -/
section
set_option Elab.async false
set_option linter.all false
set_option maxRecDepth 100000
set_option maxHeartbeats 2000000
namespace DL
open PySem PySem.Spec L2
open PyProof.Rows hiding St
/-! ### 11. list comprehensions -/
def lcRun (T : Tg) (c : TD) (elt : ED) (δ : DS) (Q : List D → Prop) : List D → List D → Prop
  | [], acc => Q acc
  | x :: xs, acc => gd T x δ fun δ1 => c δ1 fun b => if b = true then elt δ1 fun y => acc.length < sizeLine ∧ lcRun T c elt δ Q xs (acc ++ [y]) else lcRun T c elt δ Q xs acc
def wipeD (δ : DS) : List Nat → DS
  | [] => δ
  | v :: vs => (wipeD δ vs).set v none
def eLc (w : AD) (T : Tg) (c : TD) (elt : ED) (vs : List Nat) : ED := fun δ Q => w δ fun items => lcRun T c elt (wipeD δ vs) (fun ds => Q (.lst ds)) items []
theorem lcRun_mono {T : Tg} {c : TD} {elt : ED} (mc : MonoT c) (me : MonoE elt) {δ : DS} {Q Q' : List D → Prop} (h : ∀ ds, Q ds → Q' ds) : ∀ xs acc, lcRun T c elt δ Q xs acc → lcRun T c elt δ Q' xs acc
  | [], acc, w => h _ w
  | x :: xs, acc, w => gd_mono _ _ _ _ _ (fun δ1 w => mc _ _ _ (fun b w => by
      cases b with
      | true => exact me _ _ _ (fun y w => ⟨w.1, lcRun_mono mc me h xs _ w.2⟩) w
      | false => exact lcRun_mono mc me h xs _ w) w) w
theorem wipeD_length (δ : DS) : ∀ vs : List Nat, (wipeD δ vs).length = δ.length
  | [] => rfl
  | v :: vs => by unfold wipeD; rw [List.length_set, wipeD_length δ vs]
theorem wipeD_some {δ : DS} {i : Nat} {x : D} : ∀ {vs : List Nat}, (wipeD δ vs)[i]? = some (some x) → δ[i]? = some (some x) ∧ i ∉ vs
  | [], h => ⟨h, by simp⟩
  | v :: vs, h => by
    unfold wipeD at h
    by_cases hi : v = i
    · subst hi
      by_cases hv : v < (wipeD δ vs).length
      · rw [List.getElem?_set_self hv] at h; cases h
      · rw [List.getElem?_eq_none (by simpa using hv)] at h; cases h
    · rw [List.getElem?_set_ne hi] at h
      obtain ⟨h1, h2⟩ := wipeD_some h
      exact ⟨h1, by simp only [List.mem_cons, not_or]; exact ⟨fun e => hi e.symm, h2⟩⟩
theorem SR.wiped {O : Os} {B : Bs} {C : Nat → Hp} {F : Hp} {σ : St} {H : Hp} {δ : DS} (s : SR O B C F σ H δ) (vs : List Nat) : SR O B C F (wipe σ vs) H (wipeD δ vs) :=
  ⟨s.f0, s.ext, by rw [wipe_length, wipeD_length]; exact s.len, s.sub, s.out, s.dis, fun i d e => by
    obtain ⟨h1, h2⟩ := wipeD_some e
    obtain ⟨v, hv, q⟩ := s.at_ i d h1
    exact ⟨v, (wipe_out h2).trans hv, q⟩⟩
structure DTs (X : Cx) (O : Os) (ifs : List Expr) (t : TD) : Prop where
  pt : PTs X ifs (liftT O t)
  mono : MonoT t
def tYesD : TD := fun _ Q => Q true
theorem dts_nil {X : Cx} {O : Os} : DTs X O [] tYesD := ⟨⟨fun pins s σ H Q I ⟨B, C, F, δ, sr, w⟩ => pts_nil.run pins s σ H Q I (w F H (.refl sr.fr))⟩, fun δ Q Q' h w => h _ w⟩
theorem dts_one {X : Cx} {O : Os} {c : Expr} {t : TD} (h : DT X O c t) : DTs X O [c] t := ⟨pts_one h.pt, h.mono⟩
section
variable {X : Cx} {κr : Kd} {Oc O : Os} {tg iter elt : Expr} {ifs : List Expr} {scope : Scope} {own : List (Str × Nat)} {pos spos py : Pos} {w : AD} {T : Tg} {c : TD} {t : ED}
theorem eLc_mono (mw : MonoA w) (mc : MonoT c) (mt : MonoE t) (vs : List Nat) : MonoE (eLc w T c t vs) := fun δ Q Q' h q => mw _ _ _ (fun items q => lcRun_mono mc mt (fun ds q => h _ q) items [] q) q
theorem lc_low {K : PySem.W.Frag} (mw : MonoA w) (mc : MonoT c) (mt : MonoE t) {vs : List Nat} (hv : ∀ i ∈ T.is, i ∈ vs) {σ : St} {H : Hp} {Q : VK} (h : liftE O .nw (eLc w T c t vs) σ H Q) :
    tLc (liftI O w) (gOf K T) (liftT (fzAll O T.is) c) (liftE (fzAll O T.is) .fz t) vs σ H Q := by
  obtain ⟨B, C, F, δ, s, q⟩ := h
  refine ⟨B, C, F, δ, s, mw _ _ _ (fun items q F1 H1 J x1 it Dn hD => ?_) q⟩
  let Qf : List D → Prop := fun ds => ∀ F' H' v, Ext B.p F H F' H' → Rv .nw B.p H F' H' v (.lst ds) → Q v H'
  let inv : Nat → Hp → Prop := fun i H' => ∃ F' acc vs', SR O B C F' (wipe σ vs) H' (wipeD δ vs) ∧ Same F1 F' ∧ Ext B.p F H F' H' ∧ H' Dn = some (.lst vs') ∧ F' Dn = none ∧ RpL B.p F' vs' acc ∧ lcRun T c t (wipeD δ vs) Qf (items.drop i) acc
  have hD0 : H Dn = none := x1.back hD
  have np : ne_p B.p Dn := x1.fr.ne_none hD
  have hB : B.H Dn = none := back_since s.ext _ hD0
  have nc : ∀ i, C i Dn = none := fun i => by
    cases q : C i Dn with
    | none => rfl
    | some u =>
      have := s.sub i Dn u q
      rw [hD0] at this; cases this
  refine ⟨fun i m H' => m = items.length - i ∧ i ≤ items.length ∧ inv i H', ⟨items.length, by simp, Nat.zero_le _, F1, [], [], ((s.step x1).wiped vs).poke (x1.fr.fh.free hD) np hB nc, Same.refl _, x1.trans s.fr (Ext.lay x1.fr hD), upd_same, x1.fr.fh.free hD, .nil, by simpa using q⟩, ?_⟩
  rintro i m H' ⟨rfl, hi', F', acc, vs', s', f', xx, hH, hF, ra, q'⟩
  by_cases hlt : i < items.length
  · refine .inr ⟨it.go i F' H' f' s'.fr hlt, fun H2 => inv (i + 1) H2, fun H2 z => ⟨items.length - (i + 1), by omega, rfl, hlt, z⟩, fun x H3 y => ?_⟩
    obtain ⟨F3, d, hd, x3, r3⟩ := it.yld i F' H' x H3 f' s'.fr y hlt
    have e : items.drop i = d :: items.drop (i + 1) := by
      rw [List.drop_eq_getElem_cons hlt]
      congr 1
      rw [List.getElem?_eq_getElem hlt] at hd
      exact Option.some.inj hd
    rw [e] at q'
    have hD3 : H3 Dn = some (.lst vs') := x3.hh _ _ hH np
    have hF3 : F3 Dn = none := x3.nw _ _ hH hF
    refine gOf_ok (s'.step x3) r3 q' fun C4 σ4 δ4 s4 wp q4 => ⟨?_, ?_⟩
    · have h1 := wp vs hv
      rw [h1]
      have ww : ∀ (vs : List Nat) (ws : List Nat), (∀ i ∈ vs, i ∈ ws) → ∀ σ : St, wipe (wipe σ ws) vs = wipe σ ws := by
        intro vs ws
        induction vs with
        | nil => intro _ σ; rfl
        | cons a vs ih =>
          intro hs σ
          have e1 : wipe (wipe σ ws) (a :: vs) = (wipe (wipe σ ws) vs).set a none := rfl
          rw [e1, ih (fun i hi => hs i (List.mem_cons_of_mem _ hi)) σ]
          -- setting a wiped slot to none changes nothing
          apply List.ext_getElem?
          intro k
          by_cases hk : a = k
          · subst hk
            by_cases hl : a < (wipe σ ws).length
            · rw [List.getElem?_set_self hl]
              cases z : (wipe σ ws)[a]? with
              | none => rw [List.getElem?_eq_none_iff] at z; omega
              | some o =>
                cases o with
                | none => rfl
                | some v => exact absurd (hs a List.mem_cons_self) (wipe_some z).2
            · rw [List.getElem?_eq_none (by simpa using hl), List.getElem?_eq_none (by omega)]
          · rw [List.getElem?_set_ne hk]
      rw [ww vs vs (fun i hi => hi) σ]
    · refine ⟨B, C4, F3, δ4, s4, mc _ _ _ (fun b q4 F5 H5 x5 => ?_) q4⟩
      have hD5 : H5 Dn = some (.lst vs') := x5.hh _ _ hD3 np
      have hF5 : F5 Dn = none := x5.nw _ _ hD3 hF3
      cases b with
      | true =>
        refine iteT ⟨B, C4, F5, δ4, s4.step x5, mt _ _ _ (fun y ⟨hl, q5⟩ F6 H6 v x6 r6 => ?_) q4⟩
        have hD6 : H6 Dn = some (.lst vs') := x6.hh _ _ hD5 np
        have hF6 : F6 Dn = none := x6.nw _ _ hD5 hF5
        have x36 := (x3.trans s'.fr x5).trans s'.fr x6
        have r' : RpL B.p F6 vs' acc := ra.mono x36.ff
        have s6 := (s'.step x36)
        refine ⟨vs', hD6, by rw [r'.len]; exact hl, F6, acc ++ [y], vs' ++ [v], s6.poke hF6 np hB nc, f'.trans x36.ff, ?_, upd_same, hF6, r'.append (.one r6), q5⟩
        have x06 := xx.trans s.fr x36
        exact ⟨x06.ff, fun b u e np' => by rw [upd_ne (ne_of_none e hD0)]; exact x06.hh b u e np', x06.nw, x06.fr.poke hF6 np⟩
      | false =>
        have x35 := x3.trans s'.fr x5
        exact iteF ⟨F5, acc, vs', s'.step x35, f'.trans x35.ff, xx.trans s.fr x35, hD5, hF5, ra.mono x35.ff, q4⟩
  · have e : i = items.length := by omega
    subst e
    rw [List.drop_length] at q'
    exact .inl ⟨it.stop _ F' H' f' s'.fr (Nat.le_refl _), q' F' H' _ xx ⟨Dn, _, rfl, hD0, hF, hH, np, ra⟩⟩
theorem de_lc (hc : X.calm = true) (hN : X.N.Nodup) (hi : DI X O tg iter w) (ok : BlkOk X.N X.env.scope scope own) (hv : ∀ i ∈ T.is, i ∈ own.map (·.2))
    (hg : ∀ (s : Shared) (H : Hp) (C : Addr) (cl : List (Str × Addr)) (fp : List Addr), PG (X.blk s H scope (compEnvC scope cl C X.env) fp) tg (gOf X.K T))
    (ht : ∀ (s : Shared) (H : Hp) (C : Addr) (cl : List (Str × Addr)) (fp : List Addr), DTs (X.blk s H scope (compEnvC scope cl C X.env) fp) (fzAll O T.is) ifs c)
    (he : ∀ (s : Shared) (H : Hp) (C : Addr) (cl : List (Str × Addr)) (fp : List Addr), DE (X.blk s H scope (compEnvC scope cl C X.env) fp) (fzAll O T.is) .fz elt t)
    (hs : ∀ x, foldedSetIterable iter X.env x = pure x := by intro _; rfl) :
    DE X O .nw (.ListComp elt [⟨tg, iter, ifs, 0⟩] scope pos) (eLc w T c t (own.map (·.2))) :=
  ⟨pe_imp (pe_lc hc hN hi.pi ok hg (fun s H C cl fp => (ht s H C cl fp).pt) (fun s H C cl fp => (he s H C cl fp).pe) hs) fun σ H Q h => lc_low hi.mono (ht X.s_0 X.H_0 0 [] []).mono (he X.s_0 X.H_0 0 [] []).mono hv h, eLc_mono hi.mono (ht X.s_0 X.H_0 0 [] []).mono (he X.s_0 X.H_0 0 [] []).mono _⟩
theorem dst_setOf {st : Stmt} {i : Nat} {te : TE} {κ : Kd} (hp : PS X st (tAsg te (gName i))) (hk : kUp κ .fz = true) (hl : ∀ σ H Q, liftE O κ t σ H Q → te σ H Q) (m : MonoE t) : DSt X κr Oc O (O.set i .fz) st (sSet i t) := by
  refine ⟨ps_imp hp fun D σ H ⟨B, C, F, δ, s, w⟩ => ?_, fun E E' δ h w => m _ _ _ (fun _ w => h.nx _ w) w⟩
  refine hl σ H _ ⟨B, C, F, δ, s, m _ _ _ (fun d w F1 H1 v x1 r1 => ?_) w⟩
  refine r1.up hk x1 fun F2 x2 r2 => ?_
  exact w _ F2 _ H1 ((s.step x2).set i r2) x2.ff
theorem dst_setOfO {st : Stmt} {i : Nat} {te : TE} (hp : PS X st (tAsg te (gName i))) (hi : i < O.length) (hl : ∀ σ H Q, liftE O .nw t σ H Q → te σ H Q) (m : MonoE t) : DSt X κr Oc O (O.set i .nw) st (sSet i t) := by
  refine ⟨ps_imp hp fun D σ H ⟨B, C, F, δ, s, w⟩ => ?_, fun E E' δ h w => m _ _ _ (fun _ w => h.nx _ w) w⟩
  refine hl σ H _ ⟨B, C, F, δ, s, m _ _ _ (fun d w F1 H1 v x1 r1 => ?_) w⟩
  obtain ⟨c, o, _, _, s'⟩ := (s.step x1).setN i hi (Rv.since (κ := .nw) (back_since s.ext) r1) fun a e j _ => new_nc s r1 a e j
  exact w _ F1 _ H1 s' x1.ff
/-- name = [..] -/
theorem dst_setLc {i : Nat} {y : Str} (hc : X.calm = true) (hN : X.N.Nodup) (hy : X.N[i]? = some y) (hyl : X.env.scope.names.lookup y = some .local)
    (hsw : swapsWith (.ListComp elt [⟨tg, iter, ifs, 0⟩] scope pos) (some (.Name y py)) spos.line X.env = pure true) (hi : DI X O tg iter w) (ok : BlkOk X.N X.env.scope scope own) (hv : ∀ i ∈ T.is, i ∈ own.map (·.2))
    (hg : ∀ (s : Shared) (H : Hp) (C : Addr) (cl : List (Str × Addr)) (fp : List Addr), PG (X.blk s H scope (compEnvC scope cl C X.env) fp) tg (gOf X.K T))
    (ht : ∀ (s : Shared) (H : Hp) (C : Addr) (cl : List (Str × Addr)) (fp : List Addr), DTs (X.blk s H scope (compEnvC scope cl C X.env) fp) (fzAll O T.is) ifs c)
    (he : ∀ (s : Shared) (H : Hp) (C : Addr) (cl : List (Str × Addr)) (fp : List Addr), DE (X.blk s H scope (compEnvC scope cl C X.env) fp) (fzAll O T.is) .fz elt t)
    (hs : ∀ x, foldedSetIterable iter X.env x = pure x := by intro _; rfl) :
    DSt X κr Oc O (O.set i .fz) (.Assign [.Name y py] (.ListComp elt [⟨tg, iter, ifs, 0⟩] scope pos) spos) (sSet i (eLc w T c t (own.map (·.2)))) :=
  dst_setOf (ps_setLc hc hN hy hyl hsw hi.pi ok hg (fun s H C cl fp => (ht s H C cl fp).pt) (fun s H C cl fp => (he s H C cl fp).pe) hs) (κ := .nw) rfl (fun σ H Q h => lc_low hi.mono (ht X.s_0 X.H_0 0 [] []).mono (he X.s_0 X.H_0 0 [] []).mono hv h) (eLc_mono hi.mono (ht X.s_0 X.H_0 0 [] []).mono (he X.s_0 X.H_0 0 [] []).mono _)
theorem dst_setLcO {i : Nat} {y : Str} (hl : i < O.length) (hc : X.calm = true) (hN : X.N.Nodup) (hy : X.N[i]? = some y) (hyl : X.env.scope.names.lookup y = some .local)
    (hsw : swapsWith (.ListComp elt [⟨tg, iter, ifs, 0⟩] scope pos) (some (.Name y py)) spos.line X.env = pure true) (hi : DI X O tg iter w) (ok : BlkOk X.N X.env.scope scope own) (hv : ∀ i ∈ T.is, i ∈ own.map (·.2))
    (hg : ∀ (s : Shared) (H : Hp) (C : Addr) (cl : List (Str × Addr)) (fp : List Addr), PG (X.blk s H scope (compEnvC scope cl C X.env) fp) tg (gOf X.K T))
    (ht : ∀ (s : Shared) (H : Hp) (C : Addr) (cl : List (Str × Addr)) (fp : List Addr), DTs (X.blk s H scope (compEnvC scope cl C X.env) fp) (fzAll O T.is) ifs c)
    (he : ∀ (s : Shared) (H : Hp) (C : Addr) (cl : List (Str × Addr)) (fp : List Addr), DE (X.blk s H scope (compEnvC scope cl C X.env) fp) (fzAll O T.is) .fz elt t)
    (hs : ∀ x, foldedSetIterable iter X.env x = pure x := by intro _; rfl) :
    DSt X κr Oc O (O.set i .nw) (.Assign [.Name y py] (.ListComp elt [⟨tg, iter, ifs, 0⟩] scope pos) spos) (sSet i (eLc w T c t (own.map (·.2)))) :=
  dst_setOfO (ps_setLc hc hN hy hyl hsw hi.pi ok hg (fun s H C cl fp => (ht s H C cl fp).pt) (fun s H C cl fp => (he s H C cl fp).pe) hs) hl (fun σ H Q h => lc_low hi.mono (ht X.s_0 X.H_0 0 [] []).mono (he X.s_0 X.H_0 0 [] []).mono hv h) (eLc_mono hi.mono (ht X.s_0 X.H_0 0 [] []).mono (he X.s_0 X.H_0 0 [] []).mono _)
end

/-! ### 12. defs -/
abbrev Fn := List D → (D → Prop) → Prop
def MonoF (f : Fn) : Prop := ∀ ds (Q Q' : D → Prop), (∀ d, Q d → Q' d) → f ds Q → f ds Q'
def spD (κr : Kd) (n : Nat) (f : Fn) : Sp := fun vs H Q _ => ∃ p F ds, Fr p F H ∧ RpL p F vs ds ∧ ds.length = n ∧ f ds fun d => ∀ F' H' v, Ext p F H F' H' → Rv κr p H F' H' v d → Q v H'
def startD (N : List Str) (ds : List D) : DS := ds.map some ++ List.replicate (N.length - ds.length) none
def fzs (N : List Str) : Os := N.map fun _ => .fz
theorem fzs_get {N : List Str} {i : Nat} : (fzs N).getD i .fz = .fz := by
  unfold fzs
  rw [List.getD_eq_getElem?_getD, List.getElem?_map]
  cases N[i]? <;> rfl
theorem sr_start {p : Pf} {F H : Hp} {N : List Str} {vs : List V} {ds : List D} (f : Fr p F H) (r : RpL p F vs ds) : SR (fzs N) ⟨p, F, H⟩ (fun _ => emp) F (L2.start N vs) H (startD N ds) := by
  refine ⟨f, .refl f, ?_, (fun i a o e => nomatch e), (fun i a o e => nomatch e), (fun i j a o _ e => nomatch e), fun i d e => ?_⟩
  · unfold L2.start startD
    simp [r.len]
  · have hi : i < ds.length := by
      unfold startD at e
      by_cases hi : i < ds.length
      · exact hi
      · rw [List.getElem?_append_right (by simpa using hi), List.getElem?_replicate] at e
        split at e <;> cases e
    unfold startD at e
    rw [List.getElem?_append_left (by simpa using hi), List.getElem?_map, List.getElem?_eq_getElem hi] at e
    obtain ⟨v, hv, q⟩ := r.get (List.getElem?_eq_getElem hi)
    refine ⟨v, ?_, ?_⟩
    · unfold L2.start
      rw [List.getElem?_append_left (by rw [List.length_map, r.len]; exact hi), List.getElem?_map, hv]
      rfl
    · rw [fzs_get]
      cases e
      exact q
section
variable {P : Program} {w : World} {K : PySem.W.Frag} {mg : Str → Option Value} {base : Heap}
/-- THE RULE: a def by its body, no exception leaves -/
theorem fn_ok {x qual : Str} {st : Stmt} {f : Addr} {fd : FuncData} {N ps : List Str} {k : Nat} {κr : Kd} {fn : Fn} {Oe : Os} {b : SD} (F : Fun K x qual st f fd) (S : FnScope N ps (defScope st))
    (body : ∀ (cdv : Value) (A : Around) (outer : List Env) (s : Shared) (H : Hp) (E : XK), Room k (A.deeper (envOfC qual (defScope st) s.heap.objs.size f cdv)) →
      DSs (cxOf CX0 P w K mg base N qual (defScope st) f cdv A outer s H E).nox κr [] (fzs N) Oe (defBody st) b)
    (sem : ∀ ds (Q : D → Prop), ds.length = ps.length → fn ds Q → b { nx := fun _ => κr ≠ .nw ∧ Q .non, rt := Q } (startD N ds)) : FnOk P w K mg base CX0 (k + 1) f fd ps (spD κr ps.length fn) := by
  refine F.ok S (fun vs H Q E ⟨p, F, ds, h1, h2, h3, _⟩ => h2.len.trans h3) fun cdv A outer s H vs Q E hr ⟨p, F0, ds, h1, h2, h3, h4⟩ => ?_
  have B := body cdv A outer s H E hr
  refine ⟨_, B.ps, ⟨p, F0, H⟩, fun _ => emp, F0, startD N ds, sr_start h1 h2, B.mono.app (sem ds _ h3 h4) ⟨fun δ ⟨hk, q⟩ C' F' σ' H' s' f' => ?_, fun d q F' H' v x r => q F' H' v x r, fun _ z => (show False from z).elim, fun _ z => (show False from z).elim⟩⟩
  exact q F' H' _ s'.ext (flat_rv (p := p) (.non (p := p) (F := F')) trivial hk s'.fr)
end
section
variable {X : Cx} {O : Os} {k n : Nat} {f : Addr} {fd : FuncData} {ps : List Str} {κ : Kd} {fn : Fn} {x : Str} {p pos : Pos} {e : Expr} {es : List Expr} {ta : AD}
theorem de_call (F : FnOk X.prog X.w X.K X.mg X.base CX0 k f fd ps (spD κ n fn)) (mf : MonoF fn) (hr : Room k X.A) (hg : Gl X x) (hm : X.mg x = some (.ref f)) (hk : PySem.W.keepIn X.K (.ref f) = true) (hb : Binds X.K fd ps [])
    (ha : DA X O .fz (e :: es) ta) (hn : (e :: es).length = n) (hdb : (x == ("__debug__" : Str)) = false := by decide) (he : starEach (e :: es) X.env = (false, eval e X.env) :: starEach es X.env := by rfl) (hpl : (backTo pos (starEach es X.env)).any (·.1) = false := by rfl) :
    DE X O κ (.Call (.Name x p) (e :: es) [] pos) (eA fn ta) := by
  refine ⟨pe_imp (pe_call F hr hg hm hk hb .nil pass0 ha.pa hdb he hpl) fun σ H Q ⟨B, C, F0, δ, s, w⟩ => ?_, eA_mono ha.mono mf⟩
  refine ⟨B, C, F0, δ, s, ha.mono _ _ _ (fun ds ⟨hn', w⟩ F1 H1 vs x1 r1 => ?_) (ha.len _ _ w)⟩
  refine ⟨B.p, F1, ds, x1.fr, by rw [List.append_nil]; exact r1.rp, hn'.trans hn, mf _ _ _ (fun d q F' H' v x' r' => ?_) w⟩
  exact q F' H' v (x1.trans s.fr x') (r'.since (back_since x1))
/-- all that may be read, frozen -/
def allF (p : Pf) (H : Hp) : Hp := fun a => match p with
  | none => H a
  | some (b, _) => if a = b then none else H a
theorem allF_of {p : Pf} {H : Hp} {a : Addr} (n : ne_p p a) : allF p H a = H a := by
  cases p with
  | none => rfl
  | some q =>
    obtain ⟨b, c⟩ := q
    show (if a = b then none else H a) = H a
    rw [if_neg]
    rintro rfl
    exact n c rfl
theorem allF_sub {p : Pf} {H : Hp} : Same (allF p H) H := fun a o e => by
  cases p with
  | none => exact e
  | some q =>
    obtain ⟨b, c⟩ := q
    have e' : (if a = b then none else H a) = some o := e
    split at e'
    · cases e'
    · exact e'
theorem fr_allF {p : Pf} {F H : Hp} (f : Fr p F H) : Fr p (allF p H) H ∧ Same F (allF p H) := by
  have sf : Same F (allF p H) := fun a o e => by rw [allF_of (f.ne e)]; exact f.fh _ _ e
  refine ⟨⟨allF_sub, fun a b e => ?_⟩, sf⟩
  obtain ⟨out, ns, i, c, r, h, q, q'⟩ := f.fd a b e
  refine ⟨?_, ns, i, c, r, h, sf _ _ q, q'⟩
  subst e
  show (if a = a then none else H a) = none
  rw [if_pos rfl]
/-- a call that gives a flat value may be handed what is but to be read -/
theorem de_callV (F : FnOk X.prog X.w X.K X.mg X.base CX0 k f fd ps (spD .fz n fn)) (mf : MonoF fn) (ff : ∀ ds (Q : D → Prop), fn ds Q → fn ds fun d => d.flat ∧ Q d) (hr : Room k X.A) (hg : Gl X x) (hm : X.mg x = some (.ref f)) (hk : PySem.W.keepIn X.K (.ref f) = true) (hb : Binds X.K fd ps [])
    (ha : DA X O .vw (e :: es) ta) (hn : (e :: es).length = n) (hκ : κ ≠ .nw) (hdb : (x == ("__debug__" : Str)) = false := by decide) (he : starEach (e :: es) X.env = (false, eval e X.env) :: starEach es X.env := by rfl) (hpl : (backTo pos (starEach es X.env)).any (·.1) = false := by rfl) :
    DE X O κ (.Call (.Name x p) (e :: es) [] pos) (eA fn ta) := by
  refine ⟨pe_imp (pe_call F hr hg hm hk hb .nil pass0 ha.pa hdb he hpl) fun σ H Q ⟨B, C, F0, δ, s, w⟩ => ?_, eA_mono ha.mono mf⟩
  refine ⟨B, C, F0, δ, s, ha.mono _ _ _ (fun ds ⟨hn', w⟩ F1 H1 vs x1 r1 => ?_) (ha.len _ _ w)⟩
  obtain ⟨fa, sa⟩ := fr_allF x1.fr
  have ra : ∀ {vs : List V} {ds : List D}, RvL .vw B.p H F1 H1 vs ds → RpL B.p (allF B.p H1) vs ds := by
    intro vs ds r
    induction r with
    | nil => exact .nil
    | cons r t ih =>
      obtain ⟨G, sg, ng, r⟩ := r
      exact .cons (r.mono fun a o e => by rw [allF_of (ng a o e)]; exact sg a o e) ih
  refine ⟨B.p, allF B.p H1, ds, fa, by rw [List.append_nil]; exact ra r1, hn'.trans hn, mf _ _ _ (fun d ⟨fl, q⟩ F' H' v x' r' => ?_) (ff _ _ w)⟩
  have fr' : Fr B.p F1 H' := by
    refine ⟨fun a o e => x'.hh a o (x1.fr.fh a o e) (x1.fr.ne e), fun a b e => ?_⟩
    obtain ⟨out, ns, i, c, r, h, q, q'⟩ := x'.fr.fd a b e
    obtain ⟨out1, ns1, i1, c1, r1, h1, q1, q1'⟩ := x1.fr.fd a b e
    have : ns.map V.int = ns1.map V.int := by
      have z := x'.ff b _ (sa _ _ q1)
      rw [q] at z
      exact HO.lst.inj (Option.some.inj z)
    exact ⟨out1, ns, i, c, r, h, by rw [this]; exact q1, q'⟩
  have x2 : Ext B.p F1 H1 F1 H' := ⟨Same.refl _, x'.hh, fun _ _ _ e => e, fr'⟩
  exact q F1 H' v (x1.trans s.fr x2) (flat_rv (p := B.p) r' fl hκ fr')
end
end DL
end

/-! part: DL7 -/
section
set_option Elab.async false
set_option linter.all false
set_option maxRecDepth 100000
set_option maxHeartbeats 2000000
namespace DL
open PySem PySem.Spec L2
open PyProof.Rows hiding St
/-! ### 13. operators by the tree -/
theorem RpL.ints {p : Pf} {F : Hp} : ∀ {vs : List V} {ns : List Int}, RpL p F vs (ns.map D.int) → vs = ns.map V.int
  | vs, [], r => r.nil_l
  | vs, n :: ns, r => by
    obtain ⟨v, r', rfl, q, t⟩ := RpL.uncons r
    rw [RpL.ints t, q.int_inv]; rfl
theorem RpL.of_ints {p : Pf} {F : Hp} : ∀ {ns : List Int}, RpL p F (ns.map V.int) (ns.map D.int)
  | [] => .nil
  | n :: ns => .cons (.int n) RpL.of_ints
theorem RpL.bls {p : Pf} {F : Hp} : ∀ {vs : List V} {ns : List Bool}, RpL p F vs (ns.map D.bl) → vs = ns.map V.bl
  | vs, [], r => r.nil_l
  | vs, n :: ns, r => by
    obtain ⟨v, r', rfl, q, t⟩ := RpL.uncons r
    rw [RpL.bls t, q.bl_inv]; rfl
/-- a scalar -/
theorem Rv.int {κ : Kd} {p : Pf} {H0 F H : Hp} {v : V} {i : Int} (h : Rv κ p H0 F H v (.int i)) : v = .int i := by
  cases κ with
  | fz => exact Rp.int_inv h
  | nw =>
    obtain ⟨a, o, _, _, _, _, _, r⟩ := h
    cases o <;> exact r.elim
  | tp =>
    rcases h with h | ⟨a, o, _, _, _, r⟩
    · exact h.int_inv
    · cases o <;> exact r.elim
  | vw =>
    obtain ⟨_, _, _, r⟩ := h
    exact r.int_inv
  | dp n =>
    obtain ⟨_, _, _, r⟩ := h
    exact r.int_inv
theorem Rv.bl {κ : Kd} {p : Pf} {H0 F H : Hp} {v : V} {i : Bool} (h : Rv κ p H0 F H v (.bl i)) : v = .bl i := by
  cases κ with
  | fz => exact Rp.bl_inv h
  | nw =>
    obtain ⟨a, o, _, _, _, _, _, r⟩ := h
    cases o <;> exact r.elim
  | tp =>
    rcases h with h | ⟨a, o, _, _, _, r⟩
    · exact h.bl_inv
    · cases o <;> exact r.elim
  | vw =>
    obtain ⟨_, _, _, r⟩ := h
    exact r.bl_inv
  | dp n =>
    obtain ⟨_, _, _, r⟩ := h
    exact r.bl_inv
theorem Rv.str {κ : Kd} {p : Pf} {H0 F H : Hp} {v : V} {i : Str} (h : Rv κ p H0 F H v (.str i)) : v = .str i := by
  cases κ with
  | fz => exact Rp.str_inv h
  | nw =>
    obtain ⟨a, o, _, _, _, _, _, r⟩ := h
    cases o <;> exact r.elim
  | tp =>
    rcases h with h | ⟨a, o, _, _, _, r⟩
    · exact h.str_inv
    · cases o <;> exact r.elim
  | vw =>
    obtain ⟨_, _, _, r⟩ := h
    exact r.str_inv
  | dp n =>
    obtain ⟨_, _, _, r⟩ := h
    exact r.str_inv
theorem Top.lst {p : Pf} {F H : Hp} {v : V} {ds : List D} (f : Fr p F H) (h : Top p F H v (.lst ds)) : ∃ a vs, v = .ref a ∧ H a = some (.lst vs) ∧ RpL p F vs ds := by
  rcases h with h | ⟨a, o, rfl, h, _, r⟩
  · obtain ⟨a, vs, rfl, e, r⟩ := h.lst_inv
    exact ⟨a, vs, rfl, f.fh _ _ e, r⟩
  · obtain ⟨vs, rfl, r⟩ := r.lst_inv
    exact ⟨a, vs, rfl, h, r⟩
theorem Top.tup {p : Pf} {F H : Hp} {v : V} {ds : List D} (f : Fr p F H) (h : Top p F H v (.tup ds)) : ∃ a vs, v = .ref a ∧ H a = some (.tup vs) ∧ RpL p F vs ds := by
  rcases h with h | ⟨a, o, rfl, h, _, r⟩
  · obtain ⟨a, vs, rfl, e, r⟩ := h.tup_inv
    exact ⟨a, vs, rfl, f.fh _ _ e, r⟩
  · cases o <;> first | exact r.elim | exact ⟨a, _, rfl, h, r⟩
theorem Vw.lst {p : Pf} {H : Hp} {v : V} {ds : List D} (h : Vw p H v (.lst ds)) : ∃ a vs, v = .ref a ∧ H a = some (.lst vs) ∧ (∃ G, Same G H ∧ (∀ a o, G a = some o → ne_p p a) ∧ RpL p G vs ds) := by
  obtain ⟨G, s, n, r⟩ := h
  obtain ⟨a, vs, rfl, e, r⟩ := r.lst_inv
  exact ⟨a, vs, rfl, s _ _ e, G, s, n, r⟩
theorem Vw.tup {p : Pf} {H : Hp} {v : V} {ds : List D} (h : Vw p H v (.tup ds)) : ∃ a vs, v = .ref a ∧ H a = some (.tup vs) ∧ (∃ G, Same G H ∧ (∀ a o, G a = some o → ne_p p a) ∧ RpL p G vs ds) := by
  obtain ⟨G, s, n, r⟩ := h
  obtain ⟨a, vs, rfl, e, r⟩ := r.tup_inv
  exact ⟨a, vs, rfl, s _ _ e, G, s, n, r⟩
/-- the answer: a scalar -/
theorem fin_flat {κ : Kd} {p : Pf} {F H : Hp} {v : V} {d : D} {Q : VK} (hk : κ ≠ .nw) (f : Fr p F H) (r : Rp none emp v d) (fl : d.flat) (q : ∀ F' H' v, Ext p F H F' H' → Rv κ p H F' H' v d → Q v H') : Q v H :=
  q F H v (.refl f) (flat_rv r fl hk f)
/-- the answer: a new object -/
theorem fin_new {p : Pf} {F H : Hp} {a : Addr} {o : HO} {d : D} {Q : VK} (f : Fr p F H) (n : H a = none) (r : ObD p F o d) (q : ∀ F' H' v, Ext p F H F' H' → Rv .nw p H F' H' v d → Q v H') : Q (.ref a) (upd H a o) :=
  q F (upd H a o) _ (Ext.lay f n) ⟨a, o, rfl, n, f.fh.free n, upd_same, f.ne_none n, r⟩

theorem fin_newL {p : Pf} {F H : Hp} {a : Addr} {vs : List V} {ds : List D} {Q : VK} (f : Fr p F H) (n : H a = none) (r : RpL p F vs ds) (q : ∀ F' H' v, Ext p F H F' H' → Rv .nw p H F' H' v (.lst ds) → Q v H') : Q (.ref a) (upd H a (.lst vs)) :=
  fin_new (d := .lst ds) f n r q
/-! ints -/
def gI (C : Int → Int → Prop) (g : Int → Int → D) : D → D → (D → Prop) → Prop := fun x y Q => ∃ i j, x = .int i ∧ y = .int j ∧ C i j ∧ Q (g i j)
theorem opd_I {κ : Kd} (hk : κ ≠ .nw) {C : Int → Int → Prop} {g : Int → Int → D} {h : Int → Int → V} (e : ∀ i j, Rp none emp (h i j) (g i j)) (fl : ∀ i j, (g i j).flat) : OpD .fz .fz κ (rI C h) (gI C g) where
  step := fun p H0 F H x y dx dy Q f rx ry ⟨i, j, ex, ey, c, q⟩ => by
    subst ex ey
    exact ⟨i, j, Rp.int_inv rx, Rp.int_inv ry, c, fin_flat hk f (e i j) (fl i j) q⟩
  mono := fun dx dy Q Q' h ⟨i, j, ex, ey, c, q⟩ => ⟨i, j, ex, ey, c, h _ q⟩
def gI0 (g : Int → Int → D) : D → D → (D → Prop) → Prop := fun x y Q => ∃ i j, x = .int i ∧ y = .int j ∧ Q (g i j)
theorem opd_I0 {κ : Kd} (hk : κ ≠ .nw) {g : Int → Int → D} {h : Int → Int → V} (e : ∀ i j, Rp none emp (h i j) (g i j)) (fl : ∀ i j, (g i j).flat) : OpD .fz .fz κ (rI0 h) (gI0 g) where
  step := fun p H0 F H x y dx dy Q f rx ry ⟨i, j, ex, ey, q⟩ => by
    subst ex ey
    exact ⟨i, j, Rp.int_inv rx, Rp.int_inv ry, fin_flat hk f (e i j) (fl i j) q⟩
  mono := fun dx dy Q Q' h ⟨i, j, ex, ey, q⟩ => ⟨i, j, ex, ey, h _ q⟩
abbrev gAdd := gI0 fun i j => .int (i + j)
abbrev gSub := gI0 fun i j => .int (i - j)
abbrev gMul := gI CMul fun i j => .int (i * j)
abbrev gFdiv := gI CDivN fun i j => .int (i.fdiv j)
abbrev gMod := gI (fun _ j => j ≠ 0) fun i j => .int (i.fmod j)
abbrev gPow := gI CPow fun i j => .int (i ^ j.toNat)
abbrev gLt := gI0 fun i j => .bl (decide (i < j))
abbrev gLe := gI0 fun i j => .bl (decide (i ≤ j))
abbrev gGt := gI0 fun i j => .bl (decide (j < i))
abbrev gGe := gI0 fun i j => .bl (decide (j ≤ i))
section
variable {X : Cx} {O : Os} {κ : Kd} {a b : Expr} {pos : Pos} {ta tb : ED}
theorem de_add (hk : κ ≠ .nw) (ha : DE X O .fz a ta) (hb : DE X O .fz b tb) : DE X O κ (.BinOp a .Add b pos) (e2 gAdd ta tb) := de_bin op_add (opd_I0 hk (fun _ _ => .int _) fun _ _ => trivial) ha hb
theorem de_sub (hk : κ ≠ .nw) (ha : DE X O .fz a ta) (hb : DE X O .fz b tb) : DE X O κ (.BinOp a .Sub b pos) (e2 gSub ta tb) := de_bin op_sub (opd_I0 hk (fun _ _ => .int _) fun _ _ => trivial) ha hb
theorem de_mul (hk : κ ≠ .nw) (ha : DE X O .fz a ta) (hb : DE X O .fz b tb) : DE X O κ (.BinOp a .Mult b pos) (e2 gMul ta tb) := de_bin op_mul (opd_I hk (fun _ _ => .int _) fun _ _ => trivial) ha hb
theorem de_fdiv (hk : κ ≠ .nw) (ha : DE X O .fz a ta) (hb : DE X O .fz b tb) : DE X O κ (.BinOp a .FloorDiv b pos) (e2 gFdiv ta tb) := de_bin op_fdivN (opd_I hk (fun _ _ => .int _) fun _ _ => trivial) ha hb
theorem de_mod (hk : κ ≠ .nw) (ha : DE X O .fz a ta) (hb : DE X O .fz b tb) : DE X O κ (.BinOp a .Mod b pos) (e2 gMod ta tb) := de_bin op_modN (opd_I hk (fun _ _ => .int _) fun _ _ => trivial) ha hb
theorem de_pow (hk : κ ≠ .nw) (ha : DE X O .fz a ta) (hb : DE X O .fz b tb) : DE X O κ (.BinOp a .Pow b pos) (e2 gPow ta tb) := de_bin op_pow (opd_I hk (fun _ _ => .int _) fun _ _ => trivial) ha hb
theorem opd_lt (hk : κ ≠ .nw) : OpD .fz .fz κ (rI0 fun i j => .bl (decide (i < j))) gLt := opd_I0 hk (fun _ _ => .bl _) fun _ _ => trivial
theorem opd_le (hk : κ ≠ .nw) : OpD .fz .fz κ (rI0 fun i j => .bl (decide (i ≤ j))) gLe := opd_I0 hk (fun _ _ => .bl _) fun _ _ => trivial
theorem opd_gt (hk : κ ≠ .nw) : OpD .fz .fz κ (rI0 fun i j => .bl (decide (j < i))) gGt := opd_I0 hk (fun _ _ => .bl _) fun _ _ => trivial
theorem opd_ge (hk : κ ≠ .nw) : OpD .fz .fz κ (rI0 fun i j => .bl (decide (j ≤ i))) gGe := opd_I0 hk (fun _ _ => .bl _) fun _ _ => trivial
def gNeg : D → (D → Prop) → Prop := fun x Q => ∃ i, x = .int i ∧ Q (.int (-i))
theorem de_neg (hk : κ ≠ .nw) (ha : DE X O .fz a ta) : DE X O κ (.UnaryOp .USub a pos) (e1 gNeg ta) := de_un un_neg
  { step := fun p H0 F H x dx Q f rx ⟨i, ex, q⟩ => by
      subst ex
      exact ⟨i, Rp.int_inv rx, fin_flat (p := p) hk f (.int _) trivial q⟩
    mono := fun dx Q Q' h ⟨i, ex, q⟩ => ⟨i, ex, h _ q⟩ } ha
/-! lists, tuples together -/
def gCat : D → D → (D → Prop) → Prop := fun x y Q => ∃ xs ys, x = .lst xs ∧ y = .lst ys ∧ xs.length + ys.length ≤ sizeLine ∧ Q (.lst (xs ++ ys))
theorem opd_cat : OpD .tp .tp .nw rCat gCat where
  step := fun p H0 F H x y dx dy Q f rx ry ⟨xs, ys, ex, ey, hl, q⟩ => by
    subst ex ey
    obtain ⟨a, vs, rfl, h1, r1⟩ := Top.lst f rx
    obtain ⟨b, ws, rfl, h2, r2⟩ := Top.lst f ry
    exact ⟨a, b, vs, ws, rfl, rfl, h1, h2, by rw [r1.len, r2.len]; exact hl, fun c nc => fin_newL f nc (r1.append r2) q⟩
  mono := fun dx dy Q Q' h ⟨xs, ys, ex, ey, c, q⟩ => ⟨xs, ys, ex, ey, c, h _ q⟩
theorem de_cat (ha : DE X O .tp a ta) (hb : DE X O .tp b tb) : DE X O .nw (.BinOp a .Add b pos) (e2 gCat ta tb) := de_bin op_cat opd_cat ha hb
def gCatT : D → D → (D → Prop) → Prop := fun x y Q => ∃ xs ys, x = .tup xs ∧ y = .tup ys ∧ xs ≠ [] ∧ xs.length + ys.length ≤ sizeLine ∧ Q (.tup (xs ++ ys))
theorem opd_catT {K : PySem.W.Frag} : OpD .fz .fz .fz (rCatT K) gCatT where
  step := fun p H0 F H x y dx dy Q f rx ry ⟨xs, ys, ex, ey, hne, hl, q⟩ => by
    subst ex ey
    obtain ⟨a, vs, rfl, h1, r1⟩ := Rp.tup_inv rx
    obtain ⟨b, ws, rfl, h2, r2⟩ := Rp.tup_inv ry
    refine ⟨a, b, vs, ws, rfl, rfl, SqT.of (f.fh _ _ h1), SqT.of (f.fh _ _ h2), ?_, by rw [r1.len, r2.len]; exact hl, fun z => ?_, fun z c nc => ?_⟩
    · rintro rfl
      exact hne (List.eq_nil_of_length_eq_zero r1.len.symm)
    · subst z
      have : ys = [] := List.eq_nil_of_length_eq_zero r2.len.symm
      subst this
      rw [List.append_nil] at q
      exact q F H _ (.refl f) rx
    · exact q _ _ _ (Ext.new f nc) (Rp.tup' upd_same ((r1.append r2).mono (same_new (f.fh.free nc))))
  mono := fun dx dy Q Q' h ⟨xs, ys, ex, ey, c, c', q⟩ => ⟨xs, ys, ex, ey, c, c', h _ q⟩
theorem de_catT (ha : DE X O .fz a ta) (hb : DE X O .fz b tb) : DE X O .fz (.BinOp a .Add b pos) (e2 gCatT ta tb) := de_bin op_catT opd_catT ha hb
def gRep : D → D → (D → Prop) → Prop := fun x y Q => ∃ xs k, x = .lst xs ∧ y = .int k ∧ -(2 ^ 63) ≤ k ∧ k < 2 ^ 63 ∧ xs.length * k.toNat ≤ sizeLine ∧ Q (.lst (List.replicate k.toNat xs).flatten)
theorem de_rep (ha : DE X O .tp a ta) (hb : DE X O .fz b tb) : DE X O .nw (.BinOp a .Mult b pos) (e2 gRep ta tb) := de_bin op_rep
  { step := fun p H0 F H x y dx dy Q f rx ry ⟨xs, k, ex, ey, h1, h2, hl, q⟩ => by
      subst ex ey
      obtain ⟨a, vs, rfl, h3, r1⟩ := Top.lst f rx
      exact ⟨a, k, vs, rfl, Rp.int_inv ry, h3, h1, h2, by rw [r1.len]; exact hl, fun c nc => fin_newL f nc (r1.rep _) q⟩
    mono := fun dx dy Q Q' h ⟨xs, k, ex, ey, c, c', c2, q⟩ => ⟨xs, k, ex, ey, c, c', c2, h _ q⟩ } ha hb
/-! == -/
end
mutual
def pyD : D → PyData
  | .non => .none | .bl b => .bool b | .int i => .int i | .str x => .str x | .fd => .dict [] | .ob _ _ _ _ => .dict [] | .dct _ => .dict [] | .lst l => .list (pyL l) | .tup l => .tuple (pyL l)
def pyL : List D → List PyData
  | [] => []
  | d :: ds => pyD d :: pyL ds
end
theorem pyL_map : ∀ l : List D, pyL l = l.map pyD
  | [] => rfl
  | d :: ds => by rw [pyL, pyL_map ds]; rfl
theorem dpAll_of {K : PySem.W.Frag} {H : Hp} : ∀ {vs : List V} {ds : List D}, vs.length = ds.length → (∀ (i : Nat) (v : V) (d : D), vs[i]? = some v → ds[i]? = some d → Dp K H v (pyD d)) → DpAll K H vs (pyL ds)
  | [], [], _, _ => .nil
  | v :: vs, d :: ds, hl, h => by
    rw [pyL]
    exact .cons (h 0 v d rfl rfl) (dpAll_of (by simpa using hl) fun i w e a b => h (i + 1) w e (by simpa using a) (by simpa using b))
  | [], _ :: _, hl, _ => by simp at hl
  | _ :: _, [], hl, _ => by simp at hl
theorem canLayAll_get : ∀ {ds : List PyData} {i : Nat} {d : PyData}, PyData.canLayAll0 ds = true → ds[i]? = some d → d.canLay0 = true
  | [], _, _, _, h => by simp at h
  | x :: xs, 0, d, h, e => by
    simp at e; subst e
    unfold PyData.canLayAll0 at h
    exact (Bool.and_eq_true_iff.mp h).1
  | x :: xs, i + 1, d, h, e => by
    unfold PyData.canLayAll0 at h
    exact canLayAll_get (Bool.and_eq_true_iff.mp h).2 (by simpa using e)
theorem rp_dp {K : PySem.W.Frag} {p : Pf} {G H : Hp} (s : Same G H) {v : V} {d : D} (r : Rp p G v d) : (pyD d).canLay0 = true → Dp K H v (pyD d) := by
  induction r with
  | non => intro _; rw [pyD]; exact .non
  | bl b => intro _; rw [pyD]; exact .bl b
  | int i => intro _; rw [pyD]; exact .int i
  | str x => intro _; rw [pyD]; exact .str x
  | fd a b e => intro h; rw [pyD] at h; exact absurd h (by simp [PyData.canLay0])
  | lst a vs ds e l _ ih =>
    intro h
    rw [pyD] at h ⊢
    have h' : PyData.canLayAll0 (pyL ds) = true := by rw [PyData.canLay0] at h; exact h
    refine .lst (SqL.of (s _ _ e)) (dpAll_of l fun i v d a b => ih i v d a b ?_)
    exact canLayAll_get h' (by rw [pyL_map, List.getElem?_map, b]; rfl)
  | tup a vs ds e l _ ih =>
    intro h
    rw [pyD] at h ⊢
    have h' : PyData.canLayAll0 (pyL ds) = true := by rw [PyData.canLay0] at h; exact h
    refine .tup (SqT.of (s _ _ e)) (dpAll_of l fun i v d a b => ih i v d a b ?_)
    exact canLayAll_get h' (by rw [pyL_map, List.getElem?_map, b]; rfl)
  | dct a kvs l e k _ ih => intro h; rw [pyD] at h; exact absurd h (by simp [PyData.canLay0])
  | ob a dd fl x e => intro h; rw [pyD] at h; exact absurd h (by simp [PyData.canLay0])
def shD (d : D) : Bool := SeqAt.shaped (pyD d)
def eqD (d e : D) : Bool := PyData.eqv (pyD d) (pyD e)
theorem vw_dp {K : PySem.W.Frag} {p : Pf} {H : Hp} {v : V} {d : D} (r : Vw p H v d) (h : shD d = true) : Dp K H v (pyD d) := by
  obtain ⟨G, s, _, r⟩ := r
  exact rp_dp s r (SeqAt.canLay_of_shaped h)
def gEq : D → D → (D → Prop) → Prop := fun x y Q => shD x = true ∧ shD y = true ∧ Q (.bl (eqD x y))
def gNe : D → D → (D → Prop) → Prop := fun x y Q => shD x = true ∧ shD y = true ∧ Q (.bl (!eqD x y))
theorem opd_eq {κ : Kd} (hk : κ ≠ .nw) {K : PySem.W.Frag} : OpD .vw .vw κ (rEqD K) gEq where
  step := fun p H0 F H x y dx dy Q f rx ry ⟨sx, sy, q⟩ => ⟨_, _, vw_dp rx sx, vw_dp ry sy, sx, sy, fin_flat (p := p) hk f (.bl _) trivial q⟩
  mono := fun dx dy Q Q' h ⟨a, b, q⟩ => ⟨a, b, h _ q⟩
theorem opd_ne {κ : Kd} (hk : κ ≠ .nw) {K : PySem.W.Frag} : OpD .vw .vw κ (rNeD K) gNe where
  step := fun p H0 F H x y dx dy Q f rx ry ⟨sx, sy, q⟩ => ⟨_, _, vw_dp rx sx, vw_dp ry sy, sx, sy, fin_flat (p := p) hk f (.bl _) trivial q⟩
  mono := fun dx dy Q Q' h ⟨a, b, q⟩ => ⟨a, b, h _ q⟩
def gIn (neg : Bool) : D → D → (D → Prop) → Prop := fun x y Q => ∃ ys, y = .lst ys ∧ shD x = true ∧ shD y = true ∧ Q (.bl (if neg then !(ys.any fun z => eqD z x) else ys.any fun z => eqD z x))
theorem any_py (ys : List D) (d : PyData) : ((pyL ys).any fun z => PyData.eqv z d) = ys.any fun z => PyData.eqv (pyD z) d := by rw [pyL_map, List.any_map]; rfl
theorem opd_in {κ : Kd} (hk : κ ≠ .nw) {K : PySem.W.Frag} : OpD .vw .vw κ (rInD K) (gIn false) where
  step := fun p H0 F H x y dx dy Q f rx ry ⟨ys, ey, sx, sy, q⟩ => by
    subst ey
    have hy := vw_dp (K := K) ry sy
    rw [pyD] at hy
    refine ⟨_, _, vw_dp rx sx, hy, sx, by unfold shD at sy; rw [pyD] at sy; exact sy, ?_⟩
    rw [any_py]
    exact fin_flat (p := p) hk f (.bl _) trivial q
  mono := fun dx dy Q Q' h ⟨ys, a, b, c, q⟩ => ⟨ys, a, b, c, h _ q⟩
theorem opd_notIn {κ : Kd} (hk : κ ≠ .nw) {K : PySem.W.Frag} : OpD .vw .vw κ (rNotInD K) (gIn true) where
  step := fun p H0 F H x y dx dy Q f rx ry ⟨ys, ey, sx, sy, q⟩ => by
    subst ey
    have hy := vw_dp (K := K) ry sy
    rw [pyD] at hy
    refine ⟨_, _, vw_dp rx sx, hy, sx, by unfold shD at sy; rw [pyD] at sy; exact sy, ?_⟩
    rw [any_py]
    exact fin_flat (p := p) hk f (.bl _) trivial q
  mono := fun dx dy Q Q' h ⟨ys, a, b, c, q⟩ => ⟨ys, a, b, c, h _ q⟩
/-! is None -/
def isN : D → Bool
  | .non => true
  | _ => false
theorem isN_iff {p : Pf} {H : Hp} {v : V} {d : D} (r : Vw p H v d) : decide (v = .non) = isN d := by
  obtain ⟨G, _, _, r⟩ := r
  cases r <;> rfl
def gIsN : D → D → (D → Prop) → Prop := fun x y Q => y = .non ∧ Q (.bl (isN x))
def gNotN : D → D → (D → Prop) → Prop := fun x y Q => y = .non ∧ Q (.bl (!isN x))
theorem opd_isN {κ : Kd} (hk : κ ≠ .nw) : OpD .vw .fz κ (fun x y H Q => y = .non ∧ Q (.bl (decide (x = .non))) H) gIsN where
  step := fun p H0 F H x y dx dy Q f rx ry ⟨e, q⟩ => by
    subst e
    refine ⟨Rp.non_inv ry, ?_⟩
    rw [isN_iff rx]
    exact fin_flat (p := p) hk f (.bl _) trivial q
  mono := fun dx dy Q Q' h ⟨a, q⟩ => ⟨a, h _ q⟩
theorem opd_notN {κ : Kd} (hk : κ ≠ .nw) : OpD .vw .fz κ (fun x y H Q => y = .non ∧ Q (.bl (!decide (x = .non))) H) gNotN where
  step := fun p H0 F H x y dx dy Q f rx ry ⟨e, q⟩ => by
    subst e
    refine ⟨Rp.non_inv ry, ?_⟩
    rw [isN_iff rx]
    exact fin_flat (p := p) hk f (.bl _) trivial q
  mono := fun dx dy Q Q' h ⟨a, q⟩ => ⟨a, h _ q⟩
/-! subscripts -/
def gIx : D → D → (D → Prop) → Prop := fun x y Q => ∃ xs i d, (x = .lst xs ∨ x = .tup xs) ∧ y = .int i ∧ atI xs i = some d ∧ Q d
theorem RpL.atI {p : Pf} {F : Hp} {vs : List V} {ds : List D} (r : RpL p F vs ds) {i : Int} {d : D} (h : L2.atI ds i = some d) : ∃ v, L2.atI vs i = some v ∧ Rp p F v d := by
  unfold L2.atI at h ⊢
  rw [r.len]
  cases e : ixN ds.length i with
  | none => rw [e] at h; cases h
  | some j =>
    rw [e] at h
    exact r.get h
theorem opd_ix {K : PySem.W.Frag} : OpD .tp .fz .fz (fun x y H Q => rIxL K x y H Q ∨ rIxT K x y H Q) gIx where
  step := fun p H0 F H x y dx dy Q f rx ry ⟨xs, i, d, ex, ey, ea, q⟩ => by
    subst ey
    rcases ex with rfl | rfl
    · obtain ⟨a, vs, rfl, h1, r1⟩ := Top.lst f rx
      obtain ⟨v, hv, rv⟩ := r1.atI ea
      exact .inl ⟨a, vs, i, v, rfl, Rp.int_inv ry, SqL.of h1, hv, q F H v (.refl f) rv⟩
    · obtain ⟨a, vs, rfl, h1, r1⟩ := Top.tup f rx
      obtain ⟨v, hv, rv⟩ := r1.atI ea
      exact .inr ⟨a, vs, i, v, rfl, Rp.int_inv ry, SqT.of h1, hv, q F H v (.refl f) rv⟩
  mono := fun dx dy Q Q' h ⟨xs, i, d, a, b, c, q⟩ => ⟨xs, i, d, a, b, c, h _ q⟩
theorem opd_ixV {K : PySem.W.Frag} : OpD .vw .fz .vw (fun x y H Q => rIxL K x y H Q ∨ rIxT K x y H Q) gIx where
  step := fun p H0 F H x y dx dy Q f rx ry ⟨xs, i, d, ex, ey, ea, q⟩ => by
    subst ey
    rcases ex with rfl | rfl
    · obtain ⟨a, vs, rfl, h1, G, s, n, r1⟩ := Vw.lst rx
      obtain ⟨v, hv, rv⟩ := r1.atI ea
      exact .inl ⟨a, vs, i, v, rfl, Rp.int_inv ry, SqL.of h1, hv, q F H v (.refl f) ⟨G, s, n, rv⟩⟩
    · obtain ⟨a, vs, rfl, h1, G, s, n, r1⟩ := Vw.tup rx
      obtain ⟨v, hv, rv⟩ := r1.atI ea
      exact .inr ⟨a, vs, i, v, rfl, Rp.int_inv ry, SqT.of h1, hv, q F H v (.refl f) ⟨G, s, n, rv⟩⟩
  mono := fun dx dy Q Q' h ⟨xs, i, d, a, b, c, q⟩ => ⟨xs, i, d, a, b, c, h _ q⟩
section
variable {X : Cx} {O : Os} {κ : Kd} {a b : Expr} {pos : Pos} {ta tb : ED}
theorem ix_lt : IxR X (fun x y H Q => rIxL X.K x y H Q ∨ rIxT X.K x y H Q) := ix_list.or ix_tup
theorem de_item (ha : DE X O .tp a ta) (hb : DE X O .fz b tb) (hs : PlainIx b := by exact fun _ _ => rfl) : DE X O .fz (.Subscript a b pos) (e2 gIx ta tb) := de_ix ix_lt opd_ix ha hb hs
theorem de_itemV (ha : DE X O .vw a ta) (hb : DE X O .fz b tb) (hs : PlainIx b := by exact fun _ _ => rfl) : DE X O .vw (.Subscript a b pos) (e2 gIx ta tb) := de_ix ix_lt opd_ixV ha hb hs
/-! slices -/
def cutL {α : Type} (xs : List α) (lo hi : Option Int) : List α := (xs.drop (HT.sIx xs.length 0 lo)).take (HT.sIx xs.length xs.length hi - HT.sIx xs.length 0 lo)
abbrev OD := DS → (Option Int → Prop) → Prop
def oNo : OD := fun _ Q => Q none
def oSome (t : ED) : OD := fun δ Q => t δ fun x => ∃ i, x = .int i ∧ Q (some i)
def liftO (O : Os) (t : OD) : TO := fun σ H Q => ∃ B C F δ, SR O B C F σ H δ ∧ t δ fun o => ∀ F' H', Ext B.p F H F' H' → Q o H'
structure DO_ (X : Cx) (O : Os) (e : Option Expr) (t : OD) : Prop where
  po : PO X e (liftO O t)
  mono : ∀ δ (Q Q' : Option Int → Prop), (∀ o, Q o → Q' o) → t δ Q → t δ Q'
theorem po_imp {e : Option Expr} {t t' : TO} (h : PO X e t) (i : ∀ σ H Q, t' σ H Q → t σ H Q) : PO X e t' := ⟨fun pins s σ H Q I w => h.run pins s σ H Q I (i σ H Q w)⟩
theorem do_no : DO_ X O none oNo := ⟨po_imp po_none fun σ H Q ⟨B, C, F, δ, s, w⟩ => w F H (.refl s.fr), fun δ Q Q' h w => h _ w⟩
theorem do_some {e : Expr} {t : ED} (h : DE X O .fz e t) : DO_ X O (some e) (oSome t) :=
  ⟨po_imp (po_some h.pe) fun σ H Q ⟨B, C, F, δ, s, w⟩ => ⟨B, C, F, δ, s, h.mono _ _ _ (fun d ⟨i, e, w⟩ F' H' v x r => by
      subst e
      exact ⟨i, Rp.int_inv r, w F' H' x⟩) w⟩, fun δ Q Q' i w => h.mono _ _ _ (fun d ⟨j, e, w⟩ => ⟨j, e, i _ w⟩) w⟩
def eSl (t : ED) (l h : OD) : ED := fun δ Q => t δ fun x => l δ fun lo => h δ fun hi => ∃ xs, x = .lst xs ∧ Q (.lst (cutL xs lo hi))
theorem RpL.cut {p : Pf} {F : Hp} {vs : List V} {ds : List D} (r : RpL p F vs ds) (lo hi : Option Int) : RpL p F (cutV vs lo hi) (cutL ds lo hi) := by
  unfold cutV cutL
  rw [r.len]
  exact (r.drop _).take _
theorem de_slice {e : Expr} {lo hi : Option Expr} {t : ED} {tl th : OD} {p2 : Pos} (he : DE X O .tp e t) (hl : DO_ X O lo tl) (hh : DO_ X O hi th) : DE X O .nw (.Subscript e (.Slice lo hi none p2) pos) (eSl t tl th) := by
  refine ⟨pe_imp (pe_slice sl_list he.pe hl.po hh.po) fun σ H Q ⟨B, C, F, δ, s, w⟩ => ?_, fun δ Q Q' i w => he.mono _ _ _ (fun x w => hl.mono _ _ _ (fun lo w => hh.mono _ _ _ (fun hi ⟨xs, a, w⟩ => ⟨xs, a, i _ w⟩) w) w) w⟩
  refine ⟨B, C, F, δ, s, he.mono _ _ _ (fun x w F1 H1 v x1 r1 => ?_) w⟩
  refine ⟨B, C, F1, δ, s.step x1, hl.mono _ _ _ (fun lo w F2 H2 x2 => ?_) w⟩
  refine ⟨B, C, F2, δ, (s.step x1).step x2, hh.mono _ _ _ (fun hi ⟨xs, ex, w3⟩ F3 H3 x3 => ?_) w⟩
  subst ex
  have x13 := (x1.trans s.fr x2).trans s.fr x3
  obtain ⟨a, vs, rfl, h1, r⟩ := Top.lst x3.fr (Top.step x3 (Top.step x2 r1))
  refine ⟨a, vs, rfl, SqL.of h1, fun c nc => ?_⟩
  refine w3 F3 _ _ (x13.trans s.fr (Ext.lay x3.fr nc)) ⟨c, _, rfl, x13.back nc, x3.fr.fh.free nc, upd_same, x3.fr.ne_none nc, ?_⟩
  exact r.cut lo hi
def eRv (t : ED) : ED := fun δ Q => t δ fun x => ∃ xs, x = .lst xs ∧ Q (.lst xs.reverse)
theorem de_revS {e : Expr} {t : ED} {k : Nat} {p1 p2 p3 : Pos} (he : DE X O .tp e t) : DE X O .nw (.Subscript e (.Slice none none (some (.UnaryOp .USub (.Constant (.int 1) k p1) p2)) p3) pos) (eRv t) := by
  refine ⟨pe_imp (pe_revL he.pe) fun σ H Q ⟨B, C, F, δ, s, w⟩ => ?_, fun δ Q Q' i w => he.mono _ _ _ (fun x ⟨xs, a, w⟩ => ⟨xs, a, i _ w⟩) w⟩
  refine ⟨B, C, F, δ, s, he.mono _ _ _ (fun x ⟨xs, ex, w⟩ F1 H1 v x1 r1 => ?_) w⟩
  subst ex
  obtain ⟨a, vs, rfl, h1, r⟩ := Top.lst x1.fr r1
  refine ⟨a, vs, rfl, SqL.of h1, fun c nc => ?_⟩
  exact w F1 _ _ (x1.trans s.fr (Ext.lay x1.fr nc)) ⟨c, _, rfl, x1.back nc, x1.fr.fh.free nc, upd_same, x1.fr.ne_none nc, r.reverse⟩
end

/-! ### 14. built-ins -/
theorem RvL.one {κ : Kd} {p : Pf} {H0 F H : Hp} {xs : List V} {d : D} (r : RvL κ p H0 F H xs [d]) : ∃ v, xs = [v] ∧ Rv κ p H0 F H v d := by
  cases r with
  | cons r t => cases t; exact ⟨_, rfl, r⟩
theorem RvL.two {κ : Kd} {p : Pf} {H0 F H : Hp} {xs : List V} {d e : D} (r : RvL κ p H0 F H xs [d, e]) : ∃ v w, xs = [v, w] ∧ Rv κ p H0 F H v d ∧ Rv κ p H0 F H w e := by
  cases r with
  | cons r t =>
    obtain ⟨w, rfl, q⟩ := RvL.one t
    exact ⟨_, w, rfl, r, q⟩
def gLen : Fn := fun ds Q => ∃ xs, (ds = [.lst xs] ∨ ds = [.tup xs]) ∧ Q (.int xs.length)
theorem ard_len {κ : Kd} (hk : κ ≠ .nw) {K : PySem.W.Frag} : ArD .vw κ (fun xs H Q => ∃ p ys, xs = [.ref p] ∧ (SqL K H p ys ∨ SqT K H p ys) ∧ Q (.int ys.length) H) gLen where
  step := fun p H0 F H xs ds Q f r ⟨ys, e, q⟩ => by
    rcases e with rfl | rfl
    · obtain ⟨v, rfl, rv⟩ := r.one
      obtain ⟨a, vs, rfl, h1, G, _, _, rl⟩ := Vw.lst rv
      refine ⟨a, vs, rfl, .inl (SqL.of h1), ?_⟩
      rw [rl.len]
      exact fin_flat (p := p) hk f (.int _) trivial q
    · obtain ⟨v, rfl, rv⟩ := r.one
      obtain ⟨a, vs, rfl, h1, G, _, _, rl⟩ := Vw.tup rv
      refine ⟨a, vs, rfl, .inr (SqT.of h1), ?_⟩
      rw [rl.len]
      exact fin_flat (p := p) hk f (.int _) trivial q
  mono := fun ds Q Q' h ⟨xs, e, q⟩ => ⟨xs, e, h _ q⟩
def gSum : Fn := fun ds Q => ∃ ns : List Int, ds = [.lst (ns.map D.int)] ∧ Q (.int ns.sum)
theorem vw_ints {p : Pf} {H : Hp} {v : V} {ns : List Int} (r : Vw p H v (.lst (ns.map D.int))) : ∃ a, v = .ref a ∧ H a = some (.lst (ns.map V.int)) := by
  obtain ⟨a, vs, rfl, h1, G, _, _, rl⟩ := Vw.lst r
  rw [rl.ints] at h1
  exact ⟨a, rfl, h1⟩
theorem ard_sum {κ : Kd} (hk : κ ≠ .nw) {K : PySem.W.Frag} : ArD .vw κ (rSum K) gSum where
  step := fun p H0 F H xs ds Q f r ⟨ns, e, q⟩ => by
    subst e
    obtain ⟨v, rfl, rv⟩ := r.one
    obtain ⟨a, rfl, h1⟩ := vw_ints rv
    exact ⟨a, ns, rfl, SqL.of h1, fin_flat (p := p) hk f (.int _) trivial q⟩
  mono := fun ds Q Q' h ⟨xs, e, q⟩ => ⟨xs, e, h _ q⟩
def gMaxL : Fn := fun ds Q => ∃ ns : List Int, ds = [.lst (ns.map D.int)] ∧ 0 < ns.length ∧ ∀ m, m ∈ ns → (∀ y, y ∈ ns → y ≤ m) → Q (.int m)
def gMinL : Fn := fun ds Q => ∃ ns : List Int, ds = [.lst (ns.map D.int)] ∧ 0 < ns.length ∧ ∀ m, m ∈ ns → (∀ y, y ∈ ns → m ≤ y) → Q (.int m)
theorem ard_maxL {κ : Kd} (hk : κ ≠ .nw) {K : PySem.W.Frag} : ArD .vw κ (rMax K) gMaxL where
  step := fun p H0 F H xs ds Q f r ⟨ns, e, hl, q⟩ => by
    subst e
    obtain ⟨v, rfl, rv⟩ := r.one
    obtain ⟨a, rfl, h1⟩ := vw_ints rv
    exact ⟨a, ns, rfl, SqL.of h1, hl, fun m hm hy => fin_flat (p := p) hk f (.int _) trivial (q m hm hy)⟩
  mono := fun ds Q Q' h ⟨xs, e, l, q⟩ => ⟨xs, e, l, fun m a b => h _ (q m a b)⟩
theorem ard_minL {κ : Kd} (hk : κ ≠ .nw) {K : PySem.W.Frag} : ArD .vw κ (rMin K) gMinL where
  step := fun p H0 F H xs ds Q f r ⟨ns, e, hl, q⟩ => by
    subst e
    obtain ⟨v, rfl, rv⟩ := r.one
    obtain ⟨a, rfl, h1⟩ := vw_ints rv
    exact ⟨a, ns, rfl, SqL.of h1, hl, fun m hm hy => fin_flat (p := p) hk f (.int _) trivial (q m hm hy)⟩
  mono := fun ds Q Q' h ⟨xs, e, l, q⟩ => ⟨xs, e, l, fun m a b => h _ (q m a b)⟩
def gMax2 : Fn := fun ds Q => ∃ i j, ds = [.int i, .int j] ∧ Q (.int (if j > i then j else i))
def gMin2 : Fn := fun ds Q => ∃ i j, ds = [.int i, .int j] ∧ Q (.int (if j < i then j else i))
theorem ard_max2 {κ : Kd} (hk : κ ≠ .nw) : ArD .fz κ (fun xs H Q => ∃ i j, xs = [.int i, .int j] ∧ Q (.int (if j > i then j else i)) H) gMax2 where
  step := fun p H0 F H xs ds Q f r ⟨i, j, e, q⟩ => by
    subst e
    obtain ⟨v, w, rfl, q1, q2⟩ := r.two
    exact ⟨i, j, by rw [Rp.int_inv q1, Rp.int_inv q2], fin_flat (p := p) hk f (.int _) trivial q⟩
  mono := fun ds Q Q' h ⟨i, j, e, q⟩ => ⟨i, j, e, h _ q⟩
theorem ard_min2 {κ : Kd} (hk : κ ≠ .nw) : ArD .fz κ (fun xs H Q => ∃ i j, xs = [.int i, .int j] ∧ Q (.int (if j < i then j else i)) H) gMin2 where
  step := fun p H0 F H xs ds Q f r ⟨i, j, e, q⟩ => by
    subst e
    obtain ⟨v, w, rfl, q1, q2⟩ := r.two
    exact ⟨i, j, by rw [Rp.int_inv q1, Rp.int_inv q2], fin_flat (p := p) hk f (.int _) trivial q⟩
  mono := fun ds Q Q' h ⟨i, j, e, q⟩ => ⟨i, j, e, h _ q⟩
def gAbs : Fn := fun ds Q => ∃ i, ds = [.int i] ∧ Q (.int (if i < 0 then -i else i))
theorem ard_abs {κ : Kd} (hk : κ ≠ .nw) : ArD .fz κ (fun xs H Q => ∃ i, xs = [.int i] ∧ Q (.int (if i < 0 then -i else i)) H) gAbs where
  step := fun p H0 F H xs ds Q f r ⟨i, e, q⟩ => by
    subst e
    obtain ⟨v, rfl, q1⟩ := r.one
    exact ⟨i, by rw [Rp.int_inv q1], fin_flat (p := p) hk f (.int _) trivial q⟩
  mono := fun ds Q Q' h ⟨i, e, q⟩ => ⟨i, e, h _ q⟩
def gInt : Fn := fun ds Q => (∃ i, ds = [.int i] ∧ Q (.int i)) ∨ ∃ k, ds = [.bl k] ∧ Q (.int (if k then 1 else 0))
theorem ard_int {κ : Kd} (hk : κ ≠ .nw) : ArD .fz κ (fun xs H Q => (∃ i, xs = [.int i] ∧ Q (.int i) H) ∨ ∃ k, xs = [.bl k] ∧ Q (.int (if k then 1 else 0)) H) gInt where
  step := fun p H0 F H xs ds Q f r e => by
    rcases e with ⟨i, e, q⟩ | ⟨i, e, q⟩
    · subst e
      obtain ⟨v, rfl, q1⟩ := r.one
      exact .inl ⟨i, by rw [Rp.int_inv q1], fin_flat (p := p) hk f (.int _) trivial q⟩
    · subst e
      obtain ⟨v, rfl, q1⟩ := r.one
      exact .inr ⟨i, by rw [Rp.bl_inv q1], fin_flat (p := p) hk f (.int _) trivial q⟩
  mono := fun ds Q Q' h e => by
    rcases e with ⟨i, e, q⟩ | ⟨i, e, q⟩
    · exact .inl ⟨i, e, h _ q⟩
    · exact .inr ⟨i, e, h _ q⟩
def gAll : Fn := fun ds Q => ∃ bs : List Bool, ds = [.lst (bs.map D.bl)] ∧ Q (.bl (bs.all id))
theorem ard_all {κ : Kd} (hk : κ ≠ .nw) {K : PySem.W.Frag} : ArD .vw κ (rAll K) gAll where
  step := fun p H0 F H xs ds Q f r ⟨ns, e, q⟩ => by
    subst e
    obtain ⟨v, rfl, rv⟩ := r.one
    obtain ⟨a, vs, rfl, h1, G, _, _, rl⟩ := Vw.lst rv
    rw [rl.bls] at h1
    exact ⟨a, ns, rfl, SqL.of h1, fin_flat (p := p) hk f (.bl _) trivial q⟩
  mono := fun ds Q Q' h ⟨xs, e, q⟩ => ⟨xs, e, h _ q⟩
def gSorted : Fn := fun ds Q => ∃ ns : List Int, ds = [.lst (ns.map D.int)] ∧ ∀ ns' : List Int, ns'.Perm ns → ns'.Pairwise (· ≤ ·) → Q (.lst (ns'.map D.int))
theorem ard_sorted {K : PySem.W.Frag} : ArD .vw .nw (rSortedI K) gSorted where
  step := fun p H0 F H xs ds Q f r ⟨ns, e, q⟩ => by
    subst e
    obtain ⟨v, rfl, rv⟩ := r.one
    obtain ⟨a, rfl, h1⟩ := vw_ints rv
    exact ⟨a, ns, rfl, SqL.of h1, fun ns' c hp hs nc => fin_newL f nc RpL.of_ints (q ns' hp hs)⟩
  mono := fun ds Q Q' h ⟨xs, e, q⟩ => ⟨xs, e, fun a b c => h _ (q a b c)⟩
def gList : Fn := fun ds Q => ∃ xs, (ds = [.lst xs] ∨ ds = [.tup xs]) ∧ Q (.lst xs)
theorem ard_list {K : PySem.W.Frag} : ArD .tp .nw (fun xs H Q => ∃ p ys, xs = [.ref p] ∧ (SqL K H p ys ∨ SqT K H p ys) ∧ ∀ l, H l = none → Q (.ref l) (upd H l (.lst ys))) gList where
  step := fun p H0 F H xs ds Q f r ⟨ys, e, q⟩ => by
    rcases e with rfl | rfl
    · obtain ⟨v, rfl, rv⟩ := r.one
      obtain ⟨a, vs, rfl, h1, rl⟩ := Top.lst f rv
      exact ⟨a, vs, rfl, .inl (SqL.of h1), fun c nc => fin_newL f nc rl q⟩
    · obtain ⟨v, rfl, rv⟩ := r.one
      obtain ⟨a, vs, rfl, h1, rl⟩ := Top.tup f rv
      exact ⟨a, vs, rfl, .inr (SqT.of h1), fun c nc => fin_newL f nc rl q⟩
  mono := fun ds Q Q' h ⟨xs, e, q⟩ => ⟨xs, e, h _ q⟩
/-- list(x) of scalars, x but to be read -/
def gListF : Fn := fun ds Q => ∃ xs, (ds = [.lst xs] ∨ ds = [.tup xs]) ∧ (∀ x ∈ xs, D.flat x) ∧ Q (.lst xs)
theorem RpL.flat {p q : Pf} {F G : Hp} {vs : List V} {ds : List D} (r : RpL p F vs ds) (f : ∀ x ∈ ds, D.flat x) : RpL q G vs ds := ⟨r.len, fun i v d a b => (r.at_ i v d a b).flat (f d (List.mem_of_getElem? b))⟩
theorem ard_listF {K : PySem.W.Frag} : ArD .vw .nw (fun xs H Q => ∃ p ys, xs = [.ref p] ∧ (SqL K H p ys ∨ SqT K H p ys) ∧ ∀ l, H l = none → Q (.ref l) (upd H l (.lst ys))) gListF where
  step := fun p H0 F H xs ds Q f r ⟨ys, e, fl, q⟩ => by
    rcases e with rfl | rfl
    · obtain ⟨v, rfl, rv⟩ := r.one
      obtain ⟨a, vs, rfl, h1, G, _, _, rl⟩ := Vw.lst rv
      exact ⟨a, vs, rfl, .inl (SqL.of h1), fun c nc => fin_newL f nc (rl.flat fl) q⟩
    · obtain ⟨v, rfl, rv⟩ := r.one
      obtain ⟨a, vs, rfl, h1, G, _, _, rl⟩ := Vw.tup rv
      exact ⟨a, vs, rfl, .inr (SqT.of h1), fun c nc => fin_newL f nc (rl.flat fl) q⟩
  mono := fun ds Q Q' h ⟨xs, e, l, q⟩ => ⟨xs, e, l, h _ q⟩
/-! isinstance of built-in types -/
def tyN : D → Option String
  | .non => some "NoneType" | .bl _ => some "bool" | .int _ => some "int" | .str _ => some "str" | .lst _ => some "list" | .tup _ => some "tuple" | .dct _ => some "dict" | .fd => none | .ob _ _ _ _ => none
def isT (d : D) (t : String) : Option Bool := (tyN d).bind fun n => kitB n t
theorem vw_ty {K : PySem.W.Frag} {p : Pf} {H : Hp} {v : V} {d : D} {n : String} (r : Vw p H v d) (h : tyN d = some n) : TyX K H v (.type n) := by
  obtain ⟨G, s, _, r⟩ := r
  cases r <;> first | (cases h; done) | (cases h; exact .base (by first | exact .non | exact .bl _ | exact .int _ | exact .str _ | exact .lst (s _ _ (by assumption)) | exact .tup (s _ _ (by assumption)) | exact .dT (s _ _ (by assumption))))
def eIsi (t : String) (ta : ED) : ED := fun δ Q => ta δ fun x => ∃ b, isT x t = some b ∧ Q (.bl b)
section
variable {X : Cx} {O : Os} {κ : Kd} {a b : Expr} {pos p1 p2 : Pos} {ta tb : ED} {t : String} {n : Str}
theorem de_isi (hk : κ ≠ .nw) (hg : Gl X "isinstance") (hm : X.mg "isinstance" = none) (ha : DE X O .vw a ta) (hgt : Gl X n) (hmt : X.mg n = none) (hv : bootBuiltins n = some (.type t)) (hn : n ≠ "__name__" := by decide) (hd : (n == ("__debug__" : Str)) = false := by decide)
    (he : starEach [a, .Name n p1] X.env = (false, eval a X.env) :: starEach [.Name n p1] X.env := by rfl) (he2 : starEach [.Name n p1] X.env = (false, eval (.Name n p1) X.env) :: starEach [] X.env := by rfl) (hpl : (backTo pos (starEach [.Name n p1] X.env)).any (·.1) = false := by rfl) :
    DE X O κ (.Call (.Name "isinstance" p2) [a, .Name n p1] [] pos) (eIsi t ta) := by
  refine ⟨pe_imp (pe_callB call_isi hg hm boot_isinstance (pa_cons ha.pe (pa_cons (pe_bltn (v := .ty t) hgt hmt hv rfl hn hd) pa_nil he2) he) (by decide) (by decide) he hpl) fun σ H Q ⟨B, C, F, δ, s, w⟩ => ?_, fun δ Q Q' h w => ha.mono _ _ _ (fun d ⟨b, e, w⟩ => ⟨b, e, h _ w⟩) w⟩
  refine ⟨B, C, F, δ, s, ha.mono _ _ _ (fun d ⟨b, e, w⟩ F1 H1 v x1 r1 => ?_) w⟩
  unfold isT at e
  cases q : tyN d with
  | none => rw [q] at e; cases e
  | some m =>
    rw [q] at e
    exact ⟨v, .ty t, .type m, .type t, b, rfl, .ty t, vw_ty r1 q, kit_ty e, w F1 H1 _ x1 (flat_rv (p := B.p) (.bl (p := B.p) (F := F1) b) trivial hk x1.fr)⟩
theorem de_len (hk : κ ≠ .nw) (hg : Gl X "len") (hm : X.mg "len" = none) (ha : DE X O .vw a ta)
    (he : starEach [a] X.env = (false, eval a X.env) :: starEach [] X.env := by rfl) (hpl : (backTo pos (starEach [] X.env)).any (·.1) = false := by rfl) : DE X O κ (.Call (.Name "len" p2) [a] [] pos) (eA gLen (aCons ta aNil)) :=
  de_callB call_len_seq (ard_len hk) hg hm PySem.boot_len (da_cons ha da_nil he) (by decide) (by decide) he hpl
end
end DL
end

/-! part: DL8 -/
section
set_option Elab.async false
set_option linter.all false
set_option maxRecDepth 100000
set_option maxHeartbeats 2000000
namespace DL
open PySem PySem.Spec L2
open PyProof.Rows hiding St
/-! ### 15. words for the printed derivations -/
section
variable {X : Cx} {κr : Kd} {Oc O O1 O2 : Os} {st : Stmt} {rest : List Stmt} {t u : SD}
theorem DSt.to (h : DSt X κr Oc O O1 st t) (e : O1 = O2) : DSt X κr Oc O O2 st t := e ▸ h
theorem DSs.frm (h : DSs X κr Oc O1 O2 rest u) (e : O = O1) : DSs X κr Oc O O2 rest u := e ▸ h
theorem dss_fzT (i : Nat) (e : O.set i .fz = O1) (h : DSs X κr Oc O1 O2 rest u) : DSs X κr Oc O O2 rest u := dss_fz i (e ▸ h)
end
theorem _root_.L2.Room.units65 {k : Nat} {A : Around} (r : Room k A) : A.units + 65 < cLine := by have := r.un; omega
/-! defs of the text -/
structure FnAt (K : PySem.W.Frag) (mg : Str → Option Value) (x : Str) (st : Stmt) (ps : List Str) : Prop where
  ex : ∃ f fd, mg x = some (.ref f) ∧ Fun K x x st f fd ∧ Binds K fd ps []
def FnHas (P : Program) (w : World) (K : PySem.W.Frag) (mg : Str → Option Value) (base : Heap) (k : Nat) (x : Str) (n : Nat) (κ : Kd) (fn : Fn) : Prop :=
  ∃ f fd ps, mg x = some (.ref f) ∧ PySem.W.keepIn K (.ref f) = true ∧ Binds K fd ps [] ∧ FnOk P w K mg base CX0 k f fd ps (spD κ n fn)
theorem FnHas.mono {P : Program} {w : World} {K : PySem.W.Frag} {mg : Str → Option Value} {base : Heap} {k j : Nat} {x : Str} {n : Nat} {κ : Kd} {fn : Fn} (h : FnHas P w K mg base k x n κ fn) (l : k ≤ j) : FnHas P w K mg base j x n κ fn := by
  obtain ⟨f, fd, ps, a, b, c, d⟩ := h
  exact ⟨f, fd, ps, a, b, c, d.mono l⟩
theorem FnHas.imp {P : Program} {w : World} {K : PySem.W.Frag} {mg : Str → Option Value} {base : Heap} {k : Nat} {x : Str} {n : Nat} {κ : Kd} {fn fn' : Fn} (h : FnHas P w K mg base k x n κ fn) (i : ∀ ds Q, fn' ds Q → fn ds Q) : FnHas P w K mg base k x n κ fn' := by
  obtain ⟨f, fd, ps, a, b, c, d⟩ := h
  exact ⟨f, fd, ps, a, b, c, d.imp fun vs H Q E ⟨p, F, ds, h1, h2, h3, h4⟩ => ⟨p, F, ds, h1, h2, h3, i _ _ h4⟩⟩
section
variable {X : Cx} {O : Os} {k j n : Nat} {κ κ' : Kd} {fn : Fn} {x : Str} {p pos : Pos} {e : Expr} {es : List Expr} {ta : AD}
theorem de_callH (h : FnHas X.prog X.w X.K X.mg X.base k x n κ fn) (mf : MonoF fn) (hkj : k ≤ j) (hr : Room j X.A) (hg : Gl X x) (ha : DA X O .fz (e :: es) ta)
    (hn : (e :: es).length = n := by rfl) (hdb : (x == ("__debug__" : Str)) = false := by decide) (he : starEach (e :: es) X.env = (false, eval e X.env) :: starEach es X.env := by rfl) (hpl : (backTo pos (starEach es X.env)).any (·.1) = false := by rfl) :
    DE X O κ (.Call (.Name x p) (e :: es) [] pos) (eA fn ta) := by
  obtain ⟨f, fd, ps, a, b, c, d⟩ := h
  exact de_call d mf (hr.mono hkj) hg a b c ha hn hdb he hpl
theorem de_callHV (h : FnHas X.prog X.w X.K X.mg X.base k x n .fz fn) (mf : MonoF fn) (ff : ∀ ds (Q : D → Prop), fn ds Q → fn ds fun d => d.flat ∧ Q d) (hkj : k ≤ j) (hr : Room j X.A) (hg : Gl X x) (ha : DA X O .vw (e :: es) ta) (hκ : κ ≠ .nw)
    (hn : (e :: es).length = n := by rfl) (hdb : (x == ("__debug__" : Str)) = false := by decide) (he : starEach (e :: es) X.env = (false, eval e X.env) :: starEach es X.env := by rfl) (hpl : (backTo pos (starEach es X.env)).any (·.1) = false := by rfl) :
    DE X O κ (.Call (.Name x p) (e :: es) [] pos) (eA fn ta) := by
  obtain ⟨f, fd, ps, a, b, c, d⟩ := h
  exact de_callV d mf ff (hr.mono hkj) hg a b c ha hn hκ hdb he hpl
end
/-! a op1 b op2 c, ints -/
theorem eChain_mono {g g' : D → D → (D → Prop) → Prop} {ta tb tc : ED} (ma : MonoE ta) (mb : MonoE tb) (mc : MonoE tc) (mg : ∀ dx dy (Q Q' : D → Prop), (∀ d, Q d → Q' d) → g dx dy Q → g dx dy Q') (mg' : ∀ dx dy (Q Q' : D → Prop), (∀ d, Q d → Q' d) → g' dx dy Q → g' dx dy Q') : MonoE (eChain g g' ta tb tc) :=
  fun δ Q Q' h w => ma _ _ _ (fun x w => mb _ _ _ (fun y w => mg _ _ _ _ (fun z ⟨k, e, w⟩ => ⟨k, e, by
    cases k with
    | true => exact mc _ _ _ (fun u w => mg' _ _ _ _ h w) w
    | false => exact h _ w⟩) w) w) w
section
variable {X : Cx} {O : Os} {κ : Kd} {a b c : Expr} {pos : Pos} {ta tb tc : ED} {op op' : CmpOp} {r r' : R2} {g g' : D → D → (D → Prop) → Prop}
theorem chain_low (hk : κ ≠ .nw) (hg : OpD .fz .fz .fz r g) (hg' : OpD .fz .fz κ r' g') (ha : DE X O .fz a ta) (hb : DE X O .fz b tb) (hc : DE X O .fz c tc) {σ : St} {H : Hp} {Q : VK} (h : liftE O κ (eChain g g' ta tb tc) σ H Q) :
    tChain r r' (liftE O .fz ta) (liftE O .fz tb) (liftE O .fz tc) σ H Q := by
  obtain ⟨B, C, F, δ, s, w⟩ := h
  refine ⟨B, C, F, δ, s, ha.mono _ _ _ (fun x w F1 H1 v x1 r1 => ?_) w⟩
  refine ⟨B, C, F1, δ, s.step x1, hb.mono _ _ _ (fun y w F2 H2 u x2 r2 => ?_) w⟩
  have x12 := x1.trans s.fr x2
  refine hg.step B.p H1 F2 H2 v u x y _ x2.fr (Rv.step (κ := .fz) x2 r1) r2 (hg.mono _ _ _ _ (fun z ⟨k, ez, w⟩ F3 H3 v3 x3 r3 => ?_) w)
  subst ez
  refine ⟨k, Rp.bl_inv r3, ?_⟩
  have x13 := x12.trans s.fr x3
  cases k with
  | false => exact iteF (w F3 H3 _ x13 (flat_rv (p := B.p) (.bl (p := B.p) (F := F3) false) trivial hk x3.fr))
  | true =>
    refine iteT ⟨B, C, F3, δ, s.step x13, hc.mono _ _ _ (fun z w F4 H4 v4 x4 r4 => ?_) w⟩
    have x14 := x13.trans s.fr x4
    refine hg'.step B.p H3 F4 H4 u v4 y z Q x4.fr (Rp.mono (x3.ff.trans x4.ff) r2) r4 (hg'.mono _ _ _ _ (fun d q F5 H5 v5 x5 r5 => ?_) w)
    exact q F5 H5 v5 (x14.trans s.fr x5) (r5.since (back_since x14))
theorem de_chainI (hk : κ ≠ .nw) (ho : OpR X (compareOp op) r) (hg : ∀ {κ : Kd}, κ ≠ .nw → OpD .fz .fz κ r g) (ho' : OpR X (compareOp op') r') (hg' : ∀ {κ : Kd}, κ ≠ .nw → OpD .fz .fz κ r' g') (ha : DE X O .fz a ta) (hb : DE X O .fz b tb) (hc : DE X O .fz c tc)
    (hm : lastMarks [op, op'] [b, c] = false := by with_unfolding_all rfl) : DE X O κ (.Compare a [op, op'] [b, c] pos) (eChain g g' ta tb tc) :=
  ⟨pe_imp (pe_chain ho ho' ha.pe hb.pe hc.pe hm) fun σ H Q h => chain_low hk (hg (by decide)) (hg' hk) ha hb hc h, eChain_mono ha.mono hb.mono hc.mono (hg (κ := .fz) (by decide)).mono (hg' (κ := .fz) (by decide)).mono⟩
theorem dt_chainI (ho : OpR X (compareOp op) r) (hg : ∀ {κ : Kd}, κ ≠ .nw → OpD .fz .fz κ r g) (ho' : OpR X (compareOp op') r') (hg' : ∀ {κ : Kd}, κ ≠ .nw → OpD .fz .fz κ r' g') (ha : DE X O .fz a ta) (hb : DE X O .fz b tb) (hc : DE X O .fz c tc)
    (hm : lastMarks [op, op'] [b, c] = false := by with_unfolding_all rfl) : DT X O (.Compare a [op, op'] [b, c] pos) (tBd (eChain g g' ta tb tc)) :=
  ⟨pt_imp (pt_chain ho ho' ha.pe hb.pe hc.pe hm) fun σ H Q w => chain_low (κ := .fz) (by decide) (hg (by decide)) (hg' (by decide)) ha hb hc (tBd_low (κ := .fz) (by decide) (eChain_mono ha.mono hb.mono hc.mono (hg (κ := .fz) (by decide)).mono (hg' (κ := .fz) (by decide)).mono) w), tBd_mono (eChain_mono ha.mono hb.mono hc.mono (hg (κ := .fz) (by decide)).mono (hg' (κ := .fz) (by decide)).mono)⟩
end

/-! x is True, x is not False: None or a bool on the left -/
section
variable {X : Cx} {O : Os} {κ : Kd} {a b : Expr} {pos p1 p2 : Pos} {ta tb : ED}
def rIsBN : R2 := fun x y H Q => ∃ b : Bool, (x = .non ∨ ∃ a, x = .bl a) ∧ y = .bl b ∧ Q (.bl (decide (x = .bl b))) H
def rNotBN : R2 := fun x y H Q => ∃ b : Bool, (x = .non ∨ ∃ a, x = .bl a) ∧ y = .bl b ∧ Q (.bl (!decide (x = .bl b))) H
theorem op_isBN : OpR X (compareOp .Is) rIsBN := by
  intro pins s σ H x y v u Q I rx ry h
  obtain ⟨b, ex, rfl, q⟩ := h
  cases (show u = Value.bool b from ry)
  rcases ex with rfl | ⟨a, rfl⟩
  · cases (show v = Value.none from rx)
    exact wpAny_is_other rfl (fun z => by cases z) ⟨.bl false, H, I, rfl, by simpa using q⟩
  · cases (show v = Value.bool a from rx)
    by_cases e : a = b
    · subst e
      exact wpAny_is_self rfl ⟨.bl true, H, I, rfl, by simpa using q⟩
    · exact wpAny_is_other rfl (fun z => e (Value.bool.inj z)) ⟨.bl false, H, I, rfl, by simpa [e] using q⟩
theorem op_notBN : OpR X (compareOp .IsNot) rNotBN := by
  intro pins s σ H x y v u Q I rx ry h
  obtain ⟨b, ex, rfl, q⟩ := h
  cases (show u = Value.bool b from ry)
  rcases ex with rfl | ⟨a, rfl⟩
  · cases (show v = Value.none from rx)
    exact wpAny_isNot_other rfl (fun z => by cases z) ⟨.bl true, H, I, rfl, by simpa using q⟩
  · cases (show v = Value.bool a from rx)
    by_cases e : a = b
    · subst e
      exact wpAny_isNot_self rfl ⟨.bl false, H, I, rfl, by simpa using q⟩
    · exact wpAny_isNot_other rfl (fun z => e (Value.bool.inj z)) ⟨.bl true, H, I, rfl, by simpa [e] using q⟩
def isBl (d : D) (b : Bool) : Bool := match d with
  | .bl a => a == b
  | _ => false
def gIsB : D → D → (D → Prop) → Prop := fun x y Q => ∃ b : Bool, (x = .non ∨ ∃ a, x = .bl a) ∧ y = .bl b ∧ Q (.bl (isBl x b))
def gNotB : D → D → (D → Prop) → Prop := fun x y Q => ∃ b : Bool, (x = .non ∨ ∃ a, x = .bl a) ∧ y = .bl b ∧ Q (.bl (!isBl x b))
theorem opd_isB (hk : κ ≠ .nw) : OpD .vw .fz κ rIsBN gIsB where
  step := fun p H0 F H x y dx dy Q f rx ry ⟨b, ex, ey, q⟩ => by
    subst ey
    obtain ⟨_, _, _, rx⟩ := rx
    rcases ex with rfl | ⟨a, rfl⟩
    · cases rx.non_inv
      refine ⟨b, .inl rfl, Rp.bl_inv ry, fin_flat (p := p) (d := .bl _) hk f (.bl _) trivial ?_⟩
      have e : decide (V.non = V.bl b) = isBl .non b := by cases b <;> rfl
      rw [e]; exact q
    · cases rx.bl_inv
      refine ⟨b, .inr ⟨a, rfl⟩, Rp.bl_inv ry, fin_flat (p := p) (d := .bl _) hk f (.bl _) trivial ?_⟩
      have e : decide (V.bl a = V.bl b) = isBl (.bl a) b := by cases a <;> cases b <;> rfl
      rw [e]; exact q
  mono := fun dx dy Q Q' h ⟨b, a, c, q⟩ => ⟨b, a, c, h _ q⟩
theorem opd_notB (hk : κ ≠ .nw) : OpD .vw .fz κ rNotBN gNotB where
  step := fun p H0 F H x y dx dy Q f rx ry ⟨b, ex, ey, q⟩ => by
    subst ey
    obtain ⟨_, _, _, rx⟩ := rx
    rcases ex with rfl | ⟨a, rfl⟩
    · cases rx.non_inv
      refine ⟨b, .inl rfl, Rp.bl_inv ry, fin_flat (p := p) (d := .bl _) hk f (.bl _) trivial ?_⟩
      have e : decide (V.non = V.bl b) = isBl .non b := by cases b <;> rfl
      rw [e]; exact q
    · cases rx.bl_inv
      refine ⟨b, .inr ⟨a, rfl⟩, Rp.bl_inv ry, fin_flat (p := p) (d := .bl _) hk f (.bl _) trivial ?_⟩
      have e : decide (V.bl a = V.bl b) = isBl (.bl a) b := by cases a <;> cases b <;> rfl
      rw [e]; exact q
  mono := fun dx dy Q Q' h ⟨b, a, c, q⟩ => ⟨b, a, c, h _ q⟩
/-! isinstance(x, (A, B)) -/
def eIsi2 (t u : String) (ta : ED) : ED := fun δ Q => ta δ fun x => ∃ b c, isT x t = some b ∧ isT x u = some c ∧ Q (.bl (b || c))
theorem de_isi2 {n m : Str} {t u : String} {x1 : Nat} {p3 p4 : Pos} (hk : κ ≠ .nw) (hg : Gl X "isinstance") (hm : X.mg "isinstance" = none) (ha : DE X O .vw a ta) (hgt : Gl X n) (hmt : X.mg n = none) (hv : bootBuiltins n = some (.type t)) (hgu : Gl X m) (hmu : X.mg m = none) (hvu : bootBuiltins m = some (.type u))
    (hn : n ≠ "__name__" := by decide) (hd : (n == ("__debug__" : Str)) = false := by decide) (hn2 : m ≠ "__name__" := by decide) (hd2 : (m == ("__debug__" : Str)) = false := by decide)
    (he : starEach [a, .Tuple [.Name n p1, .Name m p3] x1 p4] X.env = (false, eval a X.env) :: starEach [.Tuple [.Name n p1, .Name m p3] x1 p4] X.env := by rfl) (he2 : starEach [.Tuple [.Name n p1, .Name m p3] x1 p4] X.env = (false, eval (.Tuple [.Name n p1, .Name m p3] x1 p4) X.env) :: starEach [] X.env := by rfl)
    (he3 : starEach [.Name n p1, .Name m p3] X.env = (false, eval (.Name n p1) X.env) :: starEach [.Name m p3] X.env := by rfl) (he4 : starEach [.Name m p3] X.env = (false, eval (.Name m p3) X.env) :: starEach [] X.env := by rfl)
    (hpl : (backTo pos (starEach [.Tuple [.Name n p1, .Name m p3] x1 p4] X.env)).any (·.1) = false := by rfl) :
    DE X O κ (.Call (.Name "isinstance" p2) [a, .Tuple [.Name n p1, .Name m p3] x1 p4] [] pos) (eIsi2 t u ta) := by
  refine ⟨pe_imp (pe_callB call_isiT hg hm boot_isinstance (pa_cons ha.pe (pa_cons (pe_tup (pa_cons (pe_bltn (v := .ty t) hgt hmt hv rfl hn hd) (pa_cons (pe_bltn (v := .ty u) hgu hmu hvu rfl hn2 hd2) pa_nil he4) he3)) pa_nil he2) he) (by decide) (by decide) he hpl) fun σ H Q ⟨B, C, F, δ, s, w⟩ => ?_,
    fun δ Q Q' h w => ha.mono _ _ _ (fun d ⟨b, c, e, e', w⟩ => ⟨b, c, e, e', h _ w⟩) w⟩
  refine ⟨B, C, F, δ, s, ha.mono _ _ _ (fun d ⟨b, c, e, e', w⟩ F1 H1 v x1 r1 => ?_) w⟩
  refine ⟨by show 2 ≤ sizeLine; rw [sizeLine_eq]; decide, fun q nq => ?_⟩
  unfold isT at e e'
  cases z : tyN d with
  | none => rw [z] at e; cases e
  | some k =>
    rw [z] at e e'
    have x2 : Ext B.p F1 H1 F1 (upd H1 q (.tup [.ty t, .ty u])) := Ext.lay x1.fr nq
    have r2 : Vw B.p (upd H1 q (.tup [.ty t, .ty u])) v d := Vw.step x2 r1
    refine ⟨v, q, [.ty t, .ty u], .type k, [.type t, .type u], b || c, rfl, upd_same, .cons (.ty t) (.cons (.ty u) .nil), vw_ty r2 z, ?_, ?_⟩
    · refine kitAny_cons (kit_ty e) (fun hb => ?_) (fun hb => by rw [hb]; rfl)
      refine kitAny_cons (kit_ty e') (fun hc => ?_) (fun hc => by rw [hc, Bool.or_true])
      rw [hb, hc]; exact kitAny_nil
    · exact w F1 _ _ (x1.trans s.fr x2) (flat_rv (p := B.p) (.bl (p := B.p) (F := F1) (b || c)) trivial hk x2.fr)
/-! sorted(xs, reverse=True) -/
def eSortedR (ta : ED) : ED := fun δ Q => ta δ fun x => ∃ ns : List Int, x = .lst (ns.map D.int) ∧ ∀ ns' : List Int, ns'.Perm ns → ns'.Pairwise (· ≥ ·) → Q (.lst (ns'.map D.int))
theorem de_sortedRev {p3 p4 : Pos} {kk : Nat} (hg : Gl X "sorted") (hm : X.mg "sorted" = none) (ha : DE X O .vw a ta)
    (h0 : starEach [a] X.env = (false, eval a X.env) :: starEach [] X.env := by rfl)
    (he : backTo pos (starEach [a] X.env) = (false, eval a X.env) :: backTo pos (starEach [] X.env) := by rfl) (hpl : (backTo pos (starEach [a] X.env)).any (·.1) = false := by rfl)
    (hall : (backToKw pos (keywordEach [⟨some "reverse", .Constant (.bool true) kk p3, p4⟩] X.env)).all (·.1.isSome) = true := by rfl) (hnone : (backToKw pos (keywordEach [⟨some "reverse", .Constant (.bool true) kk p3, p4⟩] X.env)).any (·.1.isNone) = false := by rfl) (hks : (backToKw pos (keywordEach [⟨some "reverse", .Constant (.bool true) kk p3, p4⟩] X.env)).filterMap (·.1) = [Str.ofString "reverse"] := by rfl) :
    DE X O .nw (.Call (.Name "sorted" p1) [a] [⟨some "reverse", .Constant (.bool true) kk p3, p4⟩] pos) (eSortedR ta) := by
  refine ⟨pe_imp (pe_callBK (cr_sortedRev (b := true)) hg hm boot_sorted (pa_cons ha.pe pa_nil h0) (pk_cons pe_bl pk_nil) (by decide) (by decide) he hpl hall hnone hks) fun σ H Q ⟨B, C, F, δ, s, w⟩ => ?_, fun δ Q Q' h w => ha.mono _ _ _ (fun d ⟨ns, e, w⟩ => ⟨ns, e, fun a b c => h _ (w a b c)⟩) w⟩
  refine ⟨B, C, F, δ, s, ha.mono _ _ _ (fun d ⟨ns, e, w⟩ F1 H1 v x1 r1 => ?_) w⟩
  subst e
  obtain ⟨c, rfl, h1⟩ := vw_ints r1
  refine ⟨c, ns, rfl, rfl, SqL.of h1, fun ns' q hp hs nq => ?_⟩
  exact w ns' hp hs F1 _ _ (x1.trans s.fr (Ext.lay x1.fr nq)) ⟨q, _, rfl, x1.back nq, x1.fr.fh.free nq, upd_same, x1.fr.ne_none nq, show ObD B.p F1 (.lst _) (.lst _) from RpL.of_ints⟩
/-! list(range(..)) -/
def eListR1 (ta : ED) : ED := fun δ Q => ta δ fun x => ∃ n, x = .int n ∧ RgOk 0 n ∧ Q (.lst (rgD 0 n.toNat))
def eListR2 (ta tb : ED) : ED := fun δ Q => ta δ fun x => tb δ fun y => ∃ i j, x = .int i ∧ y = .int j ∧ RgOk i j ∧ Q (.lst (rgD i (j - i).toNat))
theorem rgD_ints (lo : Int) (n : Nat) : rgD lo n = ((List.range n).map fun (k : Nat) => lo + (k : Int)).map D.int := by unfold rgD; rw [List.map_map]; rfl
theorem rgV_ints (lo hi : Int) : rgV lo hi = ((List.range (hi - lo).toNat).map fun (k : Nat) => lo + (k : Int)).map V.int := by unfold rgV; rw [List.map_map]; rfl
theorem de_listR1 (hc : X.calm = true) (hg : Gl X "list") (hm : X.mg "list" = none) (hg2 : Gl X "range") (hm2 : X.mg "range" = none) (ha : DE X O .fz a ta)
    (h1 : starEach [a] X.env = (false, eval a X.env) :: starEach [] X.env := by rfl) (h2 : starEach [.Call (.Name "range" p1) [a] [] p2] X.env = (false, eval (.Call (.Name "range" p1) [a] [] p2) X.env) :: starEach [] X.env := by rfl) {p3 : Pos} :
    DE X O .nw (.Call (.Name "list" p3) [.Call (.Name "range" p1) [a] [] p2] [] pos) (eListR1 ta) := by
  refine ⟨pe_imp (pe_listRg hc hg hm (prg_1 hg2 hm2 ha.pe h1) h2) fun σ H Q ⟨B, C, F, δ, s, w⟩ => ?_, fun δ Q Q' h w => ha.mono _ _ _ (fun d ⟨n, e, r, w⟩ => ⟨n, e, r, h _ w⟩) w⟩
  refine ⟨B, C, F, δ, s, ha.mono _ _ _ (fun d ⟨n, e, rg, w⟩ F1 H1 v x1 r1 => ?_) w⟩
  subst e
  refine ⟨n, Rp.int_inv r1, rg, fun q nq => ?_⟩
  rw [rgD_ints] at w
  rw [rgV_ints, Int.sub_zero]
  exact w F1 _ _ (x1.trans s.fr (Ext.lay x1.fr nq)) ⟨q, _, rfl, x1.back nq, x1.fr.fh.free nq, upd_same, x1.fr.ne_none nq, show ObD B.p F1 (.lst _) (.lst _) from RpL.of_ints⟩
theorem de_listR2 (hc : X.calm = true) (hg : Gl X "list") (hm : X.mg "list" = none) (hg2 : Gl X "range") (hm2 : X.mg "range" = none) (ha : DE X O .fz a ta) (hb : DE X O .fz b tb)
    (h1 : starEach [a, b] X.env = (false, eval a X.env) :: starEach [b] X.env := by rfl) (h3 : starEach [b] X.env = (false, eval b X.env) :: starEach [] X.env := by rfl) (hp : (backTo p2 (starEach [b] X.env)).any (·.1) = false := by rfl)
    (h2 : starEach [.Call (.Name "range" p1) [a, b] [] p2] X.env = (false, eval (.Call (.Name "range" p1) [a, b] [] p2) X.env) :: starEach [] X.env := by rfl) {p3 : Pos} :
    DE X O .nw (.Call (.Name "list" p3) [.Call (.Name "range" p1) [a, b] [] p2] [] pos) (eListR2 ta tb) := by
  refine ⟨pe_imp (pe_listRg hc hg hm (prg_2 hg2 hm2 ha.pe hb.pe h1 h3 hp) h2) fun σ H Q ⟨B, C, F, δ, s, w⟩ => ?_, fun δ Q Q' h w => ha.mono _ _ _ (fun d w => hb.mono _ _ _ (fun e ⟨i, j, e1, e2, r, w⟩ => ⟨i, j, e1, e2, r, h _ w⟩) w) w⟩
  refine ⟨B, C, F, δ, s, ha.mono _ _ _ (fun d w F1 H1 v x1 r1 => ?_) w⟩
  refine ⟨B, C, F1, δ, s.step x1, hb.mono _ _ _ (fun e ⟨i, j, e1, e2, rg, w2⟩ F2 H2 u x2 r2 => ?_) w⟩
  subst e1 e2
  refine ⟨i, j, Rp.int_inv r1, Rp.int_inv r2, rg, fun q nq => ?_⟩
  rw [rgD_ints] at w2
  rw [rgV_ints]
  have x12 := x1.trans s.fr x2
  exact w2 F2 _ _ (x12.trans s.fr (Ext.lay x2.fr nq)) ⟨q, _, rfl, x12.back nq, x2.fr.fh.free nq, upd_same, x2.fr.ne_none nq, show ObD B.p F2 (.lst _) (.lst _) from RpL.of_ints⟩
/-! xs.count(k), xs.index(k) -/
def eCount (ta : ED) (tb : AD) : ED := fun δ Q => ta δ fun x => ∃ ns : List Int, x = .lst (ns.map D.int) ∧ tb δ fun ks => ∃ k, ks = [.int k] ∧ Q (.int (ns.count k : Nat))
def eIndex (ta : ED) (tb : AD) : ED := fun δ Q => ta δ fun x => ∃ ns : List Int, x = .lst (ns.map D.int) ∧ tb δ fun ks => ∃ k j, ks = [.int k] ∧ ns[j]? = some k ∧ (∀ m, m < j → ns[m]? ≠ some k) ∧ Q (.int (j : Nat))
theorem de_count {e : Expr} {tk : AD} (hk : κ ≠ .nw) (ha : DE X O .vw a ta) (he : DA X O .fz [e] tk)
    (hbase : attributeBase a "count" X.env (eval a X.env) = eval a X.env := by rfl)
    (hfew : ((backTo p2 (starEach [e] X.env)).all (fun x => !x.1) && (backToKw p2 (keywordEach [] X.env)).all (fun x => x.1.isSome)
      && decide ([e].length + ([] : List Keyword).length + (if ([] : List Keyword).isEmpty then 0 else 1) < 30)) = true := by rfl)
    (hline : (p1.endLine == p2.line) = true := by rfl) (hst : starEach [e] X.env = (false, eval e X.env) :: starEach [] X.env := by rfl) (hplain : (backTo p2 (starEach [] X.env)).any (·.1) = false := by rfl) :
    DE X O κ (.Call (.Attribute a "count" p1) [e] [] p2) (eCount ta tk) := by
  refine ⟨pe_imp (pe_bm PySem.F.plainAttrs_list PySem.F.slot_list_count PySem.F.type_list_count mt_lcount ha.pe he.pa hbase hfew hline hst hplain) fun σ H Q ⟨B, C, F, δ, s, w⟩ => ?_,
    fun δ Q Q' h w => ha.mono _ _ _ (fun x ⟨ns, e, w⟩ => ⟨ns, e, he.mono _ _ _ (fun ks ⟨k, e, w⟩ => ⟨k, e, h _ w⟩) w⟩) w⟩
  refine ⟨B, C, F, δ, s, ha.mono _ _ _ (fun x ⟨ns, e, w⟩ F1 H1 v x1 r1 => ?_) w⟩
  subst e
  obtain ⟨c, rfl, h1⟩ := vw_ints r1
  refine ⟨.inl ⟨rfl, _, SqL.of h1⟩, B, C, F1, δ, s.step x1, he.mono _ _ _ (fun ks ⟨k, e, w2⟩ F2 H2 us x2 r2 => ?_) w⟩
  subst e
  obtain ⟨u, rfl, q⟩ := r2.one
  cases Rp.int_inv q
  obtain ⟨c', e', h2⟩ := vw_ints (Vw.step x2 r1)
  cases e'
  have x12 := x1.trans s.fr x2
  exact ⟨c, ns, k, rfl, rfl, SqL.of h2, w2 F2 H2 _ x12 (flat_rv (p := B.p) (.int (p := B.p) (F := F2) _) trivial hk x2.fr)⟩
theorem de_index {e : Expr} {tk : AD} (hk : κ ≠ .nw) (ha : DE X O .vw a ta) (he : DA X O .fz [e] tk)
    (hbase : attributeBase a "index" X.env (eval a X.env) = eval a X.env := by rfl)
    (hfew : ((backTo p2 (starEach [e] X.env)).all (fun x => !x.1) && (backToKw p2 (keywordEach [] X.env)).all (fun x => x.1.isSome)
      && decide ([e].length + ([] : List Keyword).length + (if ([] : List Keyword).isEmpty then 0 else 1) < 30)) = true := by rfl)
    (hline : (p1.endLine == p2.line) = true := by rfl) (hst : starEach [e] X.env = (false, eval e X.env) :: starEach [] X.env := by rfl) (hplain : (backTo p2 (starEach [] X.env)).any (·.1) = false := by rfl) :
    DE X O κ (.Call (.Attribute a "index" p1) [e] [] p2) (eIndex ta tk) := by
  refine ⟨pe_imp (pe_bm PySem.F.plainAttrs_list PySem.F.slot_list_index PySem.F.type_list_index mt_index ha.pe he.pa hbase hfew hline hst hplain) fun σ H Q ⟨B, C, F, δ, s, w⟩ => ?_,
    fun δ Q Q' h w => ha.mono _ _ _ (fun x ⟨ns, e, w⟩ => ⟨ns, e, he.mono _ _ _ (fun ks ⟨k, j, e, a, b, w⟩ => ⟨k, j, e, a, b, h _ w⟩) w⟩) w⟩
  refine ⟨B, C, F, δ, s, ha.mono _ _ _ (fun x ⟨ns, e, w⟩ F1 H1 v x1 r1 => ?_) w⟩
  subst e
  obtain ⟨c, rfl, h1⟩ := vw_ints r1
  refine ⟨.inl ⟨rfl, _, SqL.of h1⟩, B, C, F1, δ, s.step x1, he.mono _ _ _ (fun ks ⟨k, j, e, a1, a2, w2⟩ F2 H2 us x2 r2 => ?_) w⟩
  subst e
  obtain ⟨u, rfl, q⟩ := r2.one
  cases Rp.int_inv q
  obtain ⟨c', e', h2⟩ := vw_ints (Vw.step x2 r1)
  cases e'
  have x12 := x1.trans s.fr x2
  have ev : ∀ i j : Int, eqV (.int i) (.int j) = true ↔ i = j := fun i j => by unfold eqV; simp
  refine ⟨c, ns.map V.int, .int k, j, .int k, rfl, rfl, SqL.of h2, rfl, by rw [List.all_map, List.all_eq_true]; intro _ _; rfl, by rw [List.getElem?_map, a1]; rfl, (ev k k).mpr rfl, fun m z hm hz => ?_, w2 F2 H2 _ x12 (flat_rv (p := B.p) (.int (p := B.p) (F := F2) _) trivial hk x2.fr)⟩
  rw [List.getElem?_map] at hz
  cases e : ns[m]? with
  | none => rw [e] at hz; cases hz
  | some y =>
    rw [e] at hz
    cases hz
    cases q : eqV (.int y) (.int k) with
    | false => rfl
    | true =>
      have := (ev y k).mp q
      subst this
      exact absurd e (a2 m hm)
end
end DL
end

/-! part: DL9 -/
section
set_option Elab.async false
set_option linter.all false
set_option maxRecDepth 100000
set_option maxHeartbeats 2000000
namespace DL
open PySem PySem.Spec L2
open PyProof.Rows hiding St
/-! ### 16. the feed -/
/-- _law_draw(feed, many): some number below many -/
def f_draw : Fn := fun ds Q => ∃ n : Int, ds = [.fd, .int n] ∧ 0 < n ∧ n < 1073741824 ∧ ∀ r : Int, 0 ≤ r → r < n → Q (.int r)
theorem m_f_draw : MonoF f_draw := fun ds Q Q' h ⟨n, a, b, c, q⟩ => ⟨n, a, b, c, fun r h0 h1 => h _ (q r h0 h1)⟩
theorem ff_f_draw : ∀ ds (Q : D → Prop), f_draw ds Q → f_draw ds fun d => d.flat ∧ Q d := fun ds Q ⟨n, a, b, c, q⟩ => ⟨n, a, b, c, fun r h0 h1 => ⟨trivial, q r h0 h1⟩⟩
/-- the feed as the model holds it -/
structure FeedH (H : Hp) (a b : Addr) (ns : List Int) (i c r : Int) : Prop where
  top : H a = some (.lst [.ref b, .int i, .int c, .int r])
  script : H b = some (.lst (ns.map V.int))
  len : ns.length ≤ 63
  i0 : 0 ≤ i
  c0 : 0 ≤ c
  r0 : 0 ≤ r
  r1 : r < 2147483647
theorem FeedH.put {H : Hp} {a b : Addr} {ns : List Int} {i c r i' c' r' : Int} (f : FeedH H a b ns i c r) (h0 : 0 ≤ i') (h1 : 0 ≤ c') (h2 : 0 ≤ r') (h3 : r' < 2147483647) :
    FeedH (upd H a (.lst [.ref b, .int i', .int c', .int r'])) a b ns i' c' r' := by
  have ne : b ≠ a := fun z => by
    have := f.script
    rw [z, f.top] at this
    have := HO.lst.inj (Option.some.inj this)
    cases ns with
    | nil => cases this
    | cons n ns => cases this
  exact ⟨upd_same, by rw [upd_ne ne]; exact f.script, f.len, h0, h1, h2, h3⟩
/-- what _law_draw keeps: all but the feed -/
def spDraw : Sp := fun vs H Q _ => ∃ (a b : Addr) (ns : List Int) (i c r n : Int), vs = [.ref a, .int n] ∧ FeedH H a b ns i c r ∧ 0 < n ∧ n < 1073741824 ∧
  ∀ i' c' r' m : Int, 0 ≤ i' → 0 ≤ c' → 0 ≤ r' → r' < 2147483647 → 0 ≤ m → m < n → Q (.int m) (upd H a (.lst [.ref b, .int i', .int c', .int r']))
theorem spDraw_of (vs : List V) (H : Hp) (Q : VK) (E : XK) (h : spD .fz 2 f_draw vs H Q E) : spDraw vs H Q E := by
  obtain ⟨p, F, ds, f, r, _, n, rfl, n0, n1, q⟩ := h
  obtain ⟨v, w, rfl, q1, q2⟩ := r.inv2
  cases q2.int_inv
  obtain ⟨a, b, rfl, hp⟩ := q1.fd_inv
  subst hp
  obtain ⟨out, ns, i, c, r, ht, hs, hl, h0, h1, h2, h3⟩ := f.fd a b rfl
  refine ⟨a, b, ns, i, c, r, n, rfl, ⟨ht, f.fh _ _ hs, hl, h0, h1, h2, h3⟩, n0, n1, fun i' c' r' m g0 g1 g2 g3 g4 g5 => ?_⟩
  refine q m g4 g5 F _ _ ⟨Same.refl _, fun x o e np => ?_, fun _ _ _ e => e, ⟨fun x o e => ?_, fun x y e => ?_⟩⟩ (Rp.int m)
  · have : x ≠ a := fun z => np b (by rw [z])
    rw [upd_ne this]; exact e
  · have : x ≠ a := fun z => by rw [z, out] at e; cases e
    rw [upd_ne this]; exact f.fh _ _ e
  · cases e
    exact ⟨out, ns, i', c', r', upd_same, hs, hl, g0, g1, g2, g3⟩
theorem rd_feed {K : PySem.W.Frag} {σ : St} {H : Hp} {Q : VK} {a b : Addr} {ns : List Int} {i c r : Int} (f : FeedH H a b ns i c r) (hσ : σ[0]? = some (some (.ref a))) (k : Nat) {v : V} (hk : [V.ref b, .int i, .int c, .int r][k]? = some v) (q : Q v H) : tOp (rIxL K) (tVar 0) (tC (.int k)) σ H Q :=
  ⟨_, hσ, a, _, k, v, rfl, rfl, SqL.of f.top, atI_nat hk, q⟩
theorem wr_feed {H : Hp} {Q : Hp → Prop} {a b : Addr} {ns : List Int} {i c r : Int} (f : FeedH H a b ns i c r) (k : Nat) (hk : k < 4) (v : V) (q : Q (upd H a (.lst ([V.ref b, .int i, .int c, .int r].set k v)))) : rSetL (.ref a) (.int k) v H Q := by
  refine ⟨a, _, k, k, rfl, rfl, f.top, ?_, q⟩
  unfold ixN
  rw [if_pos (by omega), if_pos (by simp; omega)]
  simp
theorem seq_cut {t u : TS} {D : Ends} {σ : St} {H : Hp} (Inv : St → Hp → Prop) (tail : ∀ σ' H', Inv σ' H' → u D σ' H') (head : ∀ N : St → Hp → Prop, (∀ σ' H', Inv σ' H' → N σ' H') → t { D with nx := N } σ H) : tSeq t u D σ H := head (u D) tail
/-- what is asked behind a draw -/
def DrawQ (n : Int) (a b : Addr) (Q : VK) (H1 : Hp) : Prop := ∀ i' c' r' m : Int, 0 ≤ i' → 0 ≤ c' → 0 ≤ r' → r' < 2147483647 → 0 ≤ m → m < n → Q (.int m) (upd H1 a (.lst [.ref b, .int i', .int c', .int r']))
theorem DrawQ.put {n : Int} {a b : Addr} {Q : VK} {H1 : Hp} (q : DrawQ n a b Q H1) (o : HO) : DrawQ n a b Q (upd H1 a o) := fun i c r m h1 h2 h3 h4 h5 h6 => by
  rw [upd_upd]
  exact q i c r m h1 h2 h3 h4 h5 h6
/-- _law_feed(script): a new feed -/
def spFeed (K : PySem.W.Frag) : Sp := fun vs H Q _ => ∃ (a : Addr) (ns : List Int), vs = [.ref a] ∧ SqL K H a (ns.map V.int) ∧ ns.length ≤ 63 ∧
  ∀ (p b : Addr), H p = none → H b = none → p ≠ b → Q (.ref p) (upd (upd H b (.lst (ns.map V.int))) p (.lst [.ref b, .int 0, .int 0, .int 1]))
/-- a law of the script -/
def spLaw (K : PySem.W.Frag) : Sp := fun vs H Q _ => ∃ (a : Addr) (ns : List Int), vs = [.ref a] ∧ SqL K H a (ns.map V.int) ∧ ns.length ≤ 63 ∧ ∀ H', Q (.bl true) H'
/-- the state behind feed = _law_feed(script): slot 1 holds the feed -/
theorem sr_feed {H : Hp} {N : List Str} {a p b : Addr} {ns : List Int} (hN : 2 ≤ N.length) (hp : H p = none) (hb : H b = none) (hpb : p ≠ b) (hl : ns.length ≤ 63) :
    SR (fzs N) ⟨some (p, b), one_ b (.lst (ns.map V.int)), upd (upd H b (.lst (ns.map V.int))) p (.lst [.ref b, .int 0, .int 0, .int 1])⟩ (fun _ => emp) (one_ b (.lst (ns.map V.int))) ((L2.start N [.ref a]).set 1 (some (.ref p)))
      (upd (upd H b (.lst (ns.map V.int))) p (.lst [.ref b, .int 0, .int 0, .int 1])) (none :: some .fd :: List.replicate (N.length - 2) none) := by
  have fr : Fr (some (p, b)) (one_ b (.lst (ns.map V.int))) (upd (upd H b (.lst (ns.map V.int))) p (.lst [.ref b, .int 0, .int 0, .int 1])) := by
    refine ⟨fun x o e => ?_, fun x y e => ?_⟩
    · obtain ⟨rfl, rfl⟩ := one_only e
      rw [upd_ne (Ne.symm hpb), upd_same]
    · cases e
      refine ⟨?_, ns, 0, 0, 1, upd_same, one_at, hl, by decide, by decide, by decide, by decide⟩
      unfold one_
      rw [if_neg hpb]
  refine ⟨fr, .refl fr, ?_, (fun i a o e => nomatch e), (fun i a o e => nomatch e), (fun i j a o _ e => nomatch e), fun i d e => ?_⟩
  · unfold L2.start
    simp
    omega
  · match i with
    | 0 => simp at e
    | 1 =>
      simp at e
      subst e
      refine ⟨.ref p, ?_, ?_⟩
      · rw [List.getElem?_set_self]
        unfold L2.start
        simp
        omega
      · rw [fzs_get]
        exact .fd p b rfl
    | k + 2 =>
      simp [List.getElem?_replicate] at e
/-- a law's body behind its first statement -/
theorem law_tail {X : Cx} {st : Stmt} {rest : List Stmt} {N : List Str} {te : TE} {Oe : Os} {b : SD} (h1 : PS X st (tAsg te (gName 1))) (h2 : DSs X .fz [] (fzs N) Oe rest b) : PSs X (st :: rest) (tSeq (tAsg te (gName 1)) (liftS .fz [] (fzs N) Oe b)) := pss_cons h1 h2.ps
end DL
end

/-! part: DL10 -/
section
set_option Elab.async false
set_option linter.all false
set_option maxRecDepth 100000
set_option maxHeartbeats 2000000
namespace DL
open PySem PySem.Spec L2
open PyProof.Rows hiding St
/-! ### 19. exceptions: own classes with one field, an int -/
abbrev FnX := List D → (D → Prop) → (Str → Str → Int → Prop) → Prop
abbrev EDX := DS → (D → Prop) → (Str → Str → Int → Prop) → Prop
abbrev SDX := En → (Str → Str → Int → Prop) → DS → Prop
abbrev ClT := Str → Option Addr
def MonoFX (f : FnX) : Prop := ∀ ds (Q Q' : D → Prop) (R R' : Str → Str → Int → Prop), (∀ d, Q d → Q' d) → (∀ c f i, R c f i → R' c f i) → f ds Q R → f ds Q' R'
def MonoEX (f : EDX) : Prop := ∀ δ (Q Q' : D → Prop) (R R' : Str → Str → Int → Prop), (∀ d, Q d → Q' d) → (∀ c f i, R c f i → R' c f i) → f δ Q R → f δ Q' R'
def MonoSX (t : SDX) : Prop := ∀ (E E' : En) (R R' : Str → Str → Int → Prop) δ, E.Le E' → (∀ c f i, R c f i → R' c f i) → t E R δ → t E' R' δ
/-- what a raise must leave: since F, H -/
def outX (Cl : ClT) (p : Pf) (F H : Hp) (W : XK) : Str → Str → Int → Prop := fun c fl i => ∀ F' H' C d, Cl c = some C → Ext p F H F' H' → F' d = some (.xd [(fl, .int i)]) → W (.ref C) (some d) H'
theorem outX.step {Cl : ClT} {p : Pf} {F H F1 H1 : Hp} {W : XK} (f : Fr p F H) (x : Ext p F H F1 H1) {c fl : Str} {i : Int} (h : outX Cl p F H W c fl i) : outX Cl p F1 H1 W c fl i := fun F' H' C d hC x' e => h F' H' C d hC (x.trans f x') e
def spDX (Cl : ClT) (κr : Kd) (n : Nat) (f : FnX) : Sp := fun vs H Q E => ∃ p F ds, Fr p F H ∧ RpL p F vs ds ∧ ds.length = n ∧ f ds (fun d => ∀ F' H' v, Ext p F H F' H' → Rv κr p H F' H' v d → Q v H') (outX Cl p F H E)
def FnHasX (P : Program) (w : World) (K : PySem.W.Frag) (mg : Str → Option Value) (base : Heap) (Cl : ClT) (k : Nat) (x : Str) (n : Nat) (κ : Kd) (fn : FnX) : Prop :=
  ∃ f fd ps, mg x = some (.ref f) ∧ PySem.W.keepIn K (.ref f) = true ∧ Binds K fd ps [] ∧ FnOk P w K mg base (L2.CX P w) k f fd ps (spDX Cl κ n fn)
theorem FnHasX.mono {P : Program} {w : World} {K : PySem.W.Frag} {mg : Str → Option Value} {base : Heap} {Cl : ClT} {k j : Nat} {x : Str} {n : Nat} {κ : Kd} {fn : FnX} (h : FnHasX P w K mg base Cl k x n κ fn) (l : k ≤ j) : FnHasX P w K mg base Cl j x n κ fn := by
  obtain ⟨f, fd, ps, a, b, c, d⟩ := h
  exact ⟨f, fd, ps, a, b, c, d.mono l⟩
/-- an expression that may raise -/
def liftEX (Cl : ClT) (O : Os) (κ : Kd) (W : WX) (t : EDX) : TE := fun σ H Q => ∃ B C F δ, SR O B C F σ H δ ∧ t δ (fun d => ∀ F' H' v, Ext B.p F H F' H' → Rv κ B.p H F' H' v d → Q v H') (outX Cl B.p F H fun c d H' => W c d σ H')
structure DEX (X : Cx) (Cl : ClT) (W : WX) (O : Os) (κ : Kd) (e : Expr) (t : EDX) : Prop where
  pe : PE X e (liftEX Cl O κ W t)
  mono : MonoEX t
def eAX (f : FnX) (ta : AD) : EDX := fun δ Q R => ta δ fun ds => f ds Q R
/-- an expression that doesn't -/
def eOK (t : ED) : EDX := fun δ Q _ => t δ Q
section
variable {X : Cx} {Cl : ClT} {W : WX} {O : Os} {κ κ' : Kd} {k j n : Nat} {fn : FnX} {x : Str} {p pos : Pos} {e : Expr} {es : List Expr} {ta : AD} {t : EDX}
theorem deX_callX (h : FnHasX X.prog X.w X.K X.mg X.base Cl k x n κ fn) (mf : MonoFX fn) (hkj : k ≤ j) (hr : Room j X.A) (hx : ∀ σ, PassesAt (L2.CX X.prog X.w) X σ (WE W σ)) (hg : Gl X x) (ha : DA X O .fz (e :: es) ta) (hn : (e :: es).length = n)
    (hdb : (x == ("__debug__" : Str)) = false := by decide) (he : starEach (e :: es) X.env = (false, eval e X.env) :: starEach es X.env := by rfl) (hpl : (backTo pos (starEach es X.env)).any (·.1) = false := by rfl) : DEX X Cl W O κ (.Call (.Name x p) (e :: es) [] pos) (eAX fn ta) := by
  obtain ⟨f, fd, ps, hm, hk, hb, F⟩ := h
  refine ⟨pe_imp (pe_callS F (hr.mono hkj) hg hm hk hb hx ha.pa hdb he hpl) fun σ H Q ⟨B, C, F0, δ, s, w⟩ => ?_, fun δ Q Q' R R' h1 h2 w => ha.mono _ _ _ (fun ds w => mf _ _ _ _ _ h1 h2 w) w⟩
  refine ⟨B, C, F0, δ, s, ha.mono _ _ _ (fun ds ⟨hn', w⟩ F1 H1 vs x1 r1 => ?_) (ha.len _ _ w)⟩
  exact ⟨B.p, F1, ds, x1.fr, r1.rp, hn'.trans hn, mf _ _ _ _ _ (fun d q F' H' v x' r' => q F' H' v (x1.trans s.fr x') (r'.since (back_since x1))) (fun c fl i w => outX.step s.fr x1 w) w⟩
theorem deX_of {te : ED} (h : DE X O κ e te) : DEX X Cl W O κ e (eOK te) :=
  ⟨pe_imp h.pe fun σ H Q ⟨B, C, F, δ, s, w⟩ => ⟨B, C, F, δ, s, w⟩, fun δ Q Q' R R' h1 h2 w => h.mono _ _ _ h1 w⟩
theorem deX_up (h : DEX X Cl W O κ e t) (hk : kUp κ κ' = true := by rfl) : DEX X Cl W O κ' e t := by
  refine ⟨pe_imp h.pe fun σ H Q ⟨B, C, F, δ, s, w⟩ => ⟨B, C, F, δ, s, h.mono _ _ _ _ _ (fun d q F' H' v x r => ?_) (fun c f i w => w) w⟩, h.mono⟩
  exact r.up hk x fun F2 x2 r2 => q F2 H' v x2 r2
/-! argument lists of which some may raise -/
abbrev ADX := DS → (List D → Prop) → (Str → Str → Int → Prop) → Prop
def MonoAX (f : ADX) : Prop := ∀ δ (Q Q' : List D → Prop) (R R' : Str → Str → Int → Prop), (∀ d, Q d → Q' d) → (∀ c f i, R c f i → R' c f i) → f δ Q R → f δ Q' R'
def liftAX (Cl : ClT) (O : Os) (κ : Kd) (W : WX) (t : ADX) : TA := fun σ H Q => ∃ B C F δ, SR O B C F σ H δ ∧ t δ (fun ds => ∀ F' H' vs, Ext B.p F H F' H' → RvL κ B.p H F' H' vs ds → Q vs H') (outX Cl B.p F H fun c d H' => W c d σ H')
structure DAX (X : Cx) (Cl : ClT) (W : WX) (O : Os) (κ : Kd) (es : List Expr) (t : ADX) : Prop where
  pa : PA X es (liftAX Cl O κ W t)
  mono : MonoAX t
  len : ∀ δ (Q : List D → Prop) R, t δ Q R → t δ (fun ds => ds.length = es.length ∧ Q ds) R
def aNilX : ADX := fun _ Q _ => Q []
def aConsX (ta : EDX) (tr : ADX) : ADX := fun δ Q R => ta δ (fun x => tr δ (fun xs => Q (x :: xs)) R) R
theorem daX_nil : DAX X Cl W O κ [] aNilX := ⟨pa_imp pa_nil fun σ H Q ⟨B, C, F, δ, s, w⟩ => w F H [] (.refl s.fr) .nil, fun δ Q Q' R R' h _ w => h _ w, fun δ Q R w => ⟨rfl, w⟩⟩
theorem daX_cons {te : EDX} {t : ADX} (ha : DEX X Cl W O κ e te) (hr : DAX X Cl W O κ es t) (hs : starEach (e :: es) X.env = (false, eval e X.env) :: starEach es X.env := by rfl) : DAX X Cl W O κ (e :: es) (aConsX te t) := by
  refine ⟨pa_imp (pa_cons ha.pe hr.pa hs) fun σ H Q ⟨B, C, F, δ, s, w⟩ => ?_, fun δ Q Q' R R' h1 h2 w => ha.mono _ _ _ _ _ (fun x w => hr.mono _ _ _ _ _ (fun xs w => h1 _ w) h2 w) h2 w,
    fun δ Q R w => ha.mono _ _ _ _ _ (fun x w => hr.mono _ _ _ _ _ (fun xs ⟨l, q⟩ => ⟨by simp [l], q⟩) (fun _ _ _ w => w) (hr.len _ _ _ w)) (fun _ _ _ w => w) w⟩
  refine ⟨B, C, F, δ, s, ha.mono _ _ _ _ _ (fun x w F1 H1 v x1 r1 => ?_) (fun _ _ _ w => w) w⟩
  refine ⟨B, C, F1, δ, s.step x1, hr.mono _ _ _ _ _ (fun xs w F2 H2 vs x2 r2 => ?_) (fun _ _ _ w => outX.step s.fr x1 w) w⟩
  exact w F2 H2 (v :: vs) (x1.trans s.fr x2) (.cons (r1.step x2) (r2.since (back_since x1)))
def eAXX (f : FnX) (ta : ADX) : EDX := fun δ Q R => ta δ (fun ds => f ds Q R) R
/-- a call whose arguments may raise -/
theorem deX_callXX {ta : ADX} (h : FnHasX X.prog X.w X.K X.mg X.base Cl k x n κ fn) (mf : MonoFX fn) (hkj : k ≤ j) (hr : Room j X.A) (hx : ∀ σ, PassesAt (L2.CX X.prog X.w) X σ (WE W σ)) (hg : Gl X x) (ha : DAX X Cl W O .fz (e :: es) ta) (hn : (e :: es).length = n)
    (hdb : (x == ("__debug__" : Str)) = false := by decide) (he : starEach (e :: es) X.env = (false, eval e X.env) :: starEach es X.env := by rfl) (hpl : (backTo pos (starEach es X.env)).any (·.1) = false := by rfl) : DEX X Cl W O κ (.Call (.Name x p) (e :: es) [] pos) (eAXX fn ta) := by
  obtain ⟨f, fd, ps, hm, hk, hb, F⟩ := h
  refine ⟨pe_imp (pe_callS F (hr.mono hkj) hg hm hk hb hx ha.pa hdb he hpl) fun σ H Q ⟨B, C, F0, δ, s, w⟩ => ?_, fun δ Q Q' R R' h1 h2 w => ha.mono _ _ _ _ _ (fun ds w => mf _ _ _ _ _ h1 h2 w) h2 w⟩
  refine ⟨B, C, F0, δ, s, ha.mono _ _ _ _ _ (fun ds ⟨hn', w⟩ F1 H1 vs x1 r1 => ?_) (fun _ _ _ w => w) (ha.len _ _ _ w)⟩
  exact ⟨B.p, F1, ds, x1.fr, r1.rp, hn'.trans hn, mf _ _ _ _ _ (fun d q F' H' v x' r' => q F' H' v (x1.trans s.fr x') (r'.since (back_since x1))) (fun c fl i w => outX.step s.fr x1 w) w⟩
/-- a call of what doesn't raise, its arguments may -/
theorem deX_callN {ta : ADX} {fn : Fn} (h : FnHas X.prog X.w X.K X.mg X.base k x n κ fn) (mf : MonoF fn) (hkj : k ≤ j) (hr : Room j X.A) (hg : Gl X x) (ha : DAX X Cl W O .fz (e :: es) ta) (hn : (e :: es).length = n)
    (hdb : (x == ("__debug__" : Str)) = false := by decide) (he : starEach (e :: es) X.env = (false, eval e X.env) :: starEach es X.env := by rfl) (hpl : (backTo pos (starEach es X.env)).any (·.1) = false := by rfl) : DEX X Cl W O κ (.Call (.Name x p) (e :: es) [] pos) (eAXX (fun ds Q _ => fn ds Q) ta) := by
  obtain ⟨f, fd, ps, hm, hk, hb, F⟩ := h
  refine ⟨pe_imp (pe_call F (hr.mono hkj) hg hm hk hb .nil pass0 ha.pa hdb he hpl) fun σ H Q ⟨B, C, F0, δ, s, w⟩ => ?_, fun δ Q Q' R R' h1 h2 w => ha.mono _ _ _ _ _ (fun ds w => mf _ _ _ h1 w) h2 w⟩
  refine ⟨B, C, F0, δ, s, ha.mono _ _ _ _ _ (fun ds ⟨hn', w⟩ F1 H1 vs x1 r1 => ?_) (fun _ _ _ w => w) (ha.len _ _ _ w)⟩
  exact ⟨B.p, F1, ds, x1.fr, by rw [List.append_nil]; exact r1.rp, hn'.trans hn, mf _ _ _ (fun d q F' H' v x' r' => q F' H' v (x1.trans s.fr x') (r'.since (back_since x1))) w⟩
theorem deX_tup {ta : ADX} {x1} (h : DAX X Cl W O .fz es ta) : DEX X Cl W O .nw (.Tuple es x1 pos) (eAXX (fun ds Q _ => gMkT ds Q) ta) := by
  refine ⟨pe_imp (pe_tup h.pa) fun σ H Q ⟨B, C, F, δ, s, w⟩ => ?_, fun δ Q Q' R R' h1 h2 w => h.mono _ _ _ _ _ (fun ds w => ⟨w.1, h1 _ w.2⟩) h2 w⟩
  refine ⟨B, C, F, δ, s, h.mono _ _ _ _ _ (fun xs w F1 H1 vs x1 r1 => ?_) (fun _ _ _ w => w) w⟩
  have r1 := r1.rp
  refine ⟨by rw [r1.len]; exact w.1, fun a na => ?_⟩
  exact w.2 F1 _ _ (x1.trans s.fr (Ext.lay x1.fr na)) ⟨a, _, rfl, x1.back na, x1.fr.fh.free na, upd_same, x1.fr.ne_none na, r1⟩
end
/-! ### try: name = e, except X as n -/
theorem SR.setS {O : Os} {B : Bs} {C : Nat → Hp} {F : Hp} {σ : St} {H : Hp} {δ : DS} (s : SR O B C F σ H δ) (i : Nat) : SR O B C F (σ.set i none) H (δ.set i none) := by
  refine ⟨s.f0, s.ext, by simp [s.len], s.sub, s.out, s.dis, fun j d e => ?_⟩
  by_cases hj : i = j
  · subst hj
    rw [List.getElem?_set] at e
    simp at e
  · rw [List.getElem?_set_ne hj] at e ⊢
    exact s.at_ j d e
def setOk : Kd → Bool
  | .fz => true | .nw => true | .dp _ => true | _ => false
theorem sr_setK {κ : Kd} {O : Os} {B : Bs} {C : Nat → Hp} {F F1 : Hp} {σ : St} {H H1 : Hp} {δ : DS} {v : V} {d : D} {i : Nat} (s : SR O B C F σ H δ) (x1 : Ext B.p F H F1 H1) (r1 : Rv κ B.p H F1 H1 v d) (hκ : setOk κ = true) (hi : i < O.length) :
    ∃ C', SR (O.set i κ) B C' F1 (σ.set i (some v)) H1 (δ.set i (some d)) := by
  cases κ with
  | fz => exact ⟨_, (s.step x1).set i r1⟩
  | nw =>
    obtain ⟨c, o, _, _, s'⟩ := (s.step x1).setN i hi (Rv.since (κ := .nw) (back_since s.ext) r1) fun a e j _ => new_nc s r1 a e j
    exact ⟨_, s'⟩
  | tp => cases hκ
  | vw => cases hκ
  | dp m =>
    obtain ⟨G, sg, ng, r⟩ := r1
    refine ⟨_, (s.step x1).setR i hi sg (fun a o e => ⟨(ng a o e).1, back_since s.ext a (ng a o e).2.1, (ng a o e).2.2⟩) r fun a o e j _ => ?_⟩
    cases q : C j a with
    | none => rfl
    | some u =>
      have := s.sub j a u q
      rw [(ng a o e).2.1] at this; cases this
def sTryX (Cl : ClT) (tb : EDX) (i ie : Nat) (ts : Str → Addr → Addr → SD) : SD := fun E δ => tb δ (fun d => E.nx (δ.set i (some d)))
  fun c fl x => ∀ C, Cl c = some C → ∀ a dd, ts c a dd { nx := fun δ' => E.nx (δ'.set ie none), rt := E.rt, bk := fun δ' => E.bk (δ'.set ie none), ct := fun δ' => E.ct (δ'.set ie none) } (δ.set ie (some (.ob a dd fl x)))
section
variable {X : Cx} {Cl : ClT} {κr κ : Kd} {Oc O : Os} {i ie : Nat} {x n y : Str} {e : Expr} {tb : EDX} {b₀ : Stmt} {suite : List Stmt} {ts : Str → Addr → Addr → SD} {cx : Addr} {np pos pos' p1 p2 : Pos}
theorem dst_try (hs : X.stack = X.env :: X.outer) (hf : X.env.frame = some X.env.locals) (hN : X.N.Nodup) (hi : X.N[ie]? = some n) (hln : X.env.kindOf n = some .local) (hc : Names X x (.ref cx)) (hOe : O.getD ie .fz = .fz) {κt : Kd} (hκt : setOk κt = true) (hli : i < O.length)
    (exm : ∀ c C, Cl c = some C → PySem.W.exmOne X.K (.ref C) (.ref cx) = some true)
    (hb : ∀ (W : WX) (pn : List (Addr × Obj)) (xe : Value → Shared → Prop), Takes (X.tr pn xe) W → DEX (X.tr pn xe) Cl W O κt e tb)
    (hset : ∀ (te : TE) (pn : List (Addr × Obj)) (xe : Value → Shared → Prop), PE (X.tr pn xe) e te → PS (X.tr pn xe) (.Assign [.Name y p1] e p2) (tAsg te (gName i)))
    (hsu : ∀ c C, Cl c = some C → ∀ (a dd : Addr) (oe : Obj) (pn : List (Addr × Obj)), Zc (.ref C) (some dd) oe → (∃ vs, oe.data = .fields vs) → DSs (X.suite a ((a, oe) :: pn)) κr Oc O (O.set i κt) (b₀ :: suite) (ts c a dd)) :
    DSt X κr Oc O (O.set i κt) (.Try [.Assign [.Name y p1] e p2] [.ExceptHandler (some (.Name x np)) (some n) (b₀ :: suite) pos'] [] [] pos) (sTryX Cl tb i ie ts) := by
  have hm : MonoEX tb := (hb (fun _ _ _ _ => False) [] (fun _ _ => False) takes0).mono
  have hms : ∀ c C, Cl c = some C → ∀ a dd, MonoS (ts c a dd) := fun c C hC a dd => (hsu c C hC a dd { cls := .ref C, dict := some dd, data := .fields #[] } [] ⟨rfl, rfl⟩ ⟨_, rfl⟩).mono
  have hO : O.set ie .fz = O := by
    by_cases hl : ie < O.length
    · have : O[ie]? = some .fz := by
        rw [List.getD_eq_getElem?_getD, List.getElem?_eq_getElem hl] at hOe
        rw [List.getElem?_eq_getElem hl]
        exact congrArg some hOe
      apply List.ext_getElem?
      intro k
      by_cases hk : ie = k
      · subst hk; rw [List.getElem?_set_self hl, this]
      · rw [List.getElem?_set_ne hk]
    · rw [List.set_eq_of_length_le (by omega)]
  refine ⟨ps_imp (ps_try_as (tb := fun W => tAsg (liftEX Cl O κt W tb) (gName i)) (ts := fun a cls d => fun D σ H => ∃ c C dd, cls = .ref C ∧ d = some dd ∧ Cl c = some C ∧ liftS κr Oc O (O.set i κt) (ts c a dd) D σ H) (Wout := fun _ _ _ _ => False) hs hf hN hi hln hc takes0
    (fun W pn xe tk _ => pss_one (hset _ _ _ (hb W pn xe tk).pe)) (fun a oe cls d pn hz hfl => ⟨fun pins s σ H D I ⟨c, C, dd, e1, e2, hC, w⟩ => ?_⟩)) fun D σ H ⟨B, C, F, δ, s, w⟩ => ?_, fun E E' δ h w => hm _ _ _ _ _ (fun d w => h.nx _ w) (fun c fl x w C hC a dd => hms c C hC a dd { nx := fun δ' => E.nx (δ'.set ie none), rt := E.rt, bk := fun δ' => E.bk (δ'.set ie none), ct := fun δ' => E.ct (δ'.set ie none) } { nx := fun δ' => E'.nx (δ'.set ie none), rt := E'.rt, bk := fun δ' => E'.bk (δ'.set ie none), ct := fun δ' => E'.ct (δ'.set ie none) } _ ⟨fun _ w => h.nx _ w, h.rt, fun _ w => h.bk _ w, fun _ w => h.ct _ w⟩ (w C hC a dd)) w⟩
  · subst e1 e2
    exact (hsu c C hC a dd oe pn hz hfl).ps.run pins s σ H D I w
  · refine ⟨B, C, F, δ, s, hm _ _ _ _ _ (fun d w F1 H1 v x1 r1 => by
      obtain ⟨C2, s2⟩ := sr_setK s x1 r1 hκt hli
      exact w _ F1 _ H1 s2 x1.ff) (fun c fl x w F' H' Cc d hC x1 hd => ?_) w⟩
    refine ⟨true, exm c Cc hC, fun _ a ha => ?_, fun q => Bool.noConfusion q⟩
    refine ⟨c, Cc, d, rfl, rfl, hC, B, _, F', _, hO ▸ (s.step x1).set ie (.ob a d fl x hd), (hms c Cc hC a d).app (w Cc hC a d) ⟨fun δ' w C2 F2 σ2 H2 s2 f2 => ?_, fun _ w => w, fun δ' w C2 F2 σ2 H2 s2 f2 => ?_, fun δ' w C2 F2 σ2 H2 s2 f2 => ?_⟩⟩
    · exact w C2 F2 _ H2 (s2.setS ie) (x1.ff.trans f2)
    · exact w C2 F2 _ H2 (s2.setS ie) (x1.ff.trans f2)
    · exact w C2 F2 _ H2 (s2.setS ie) (x1.ff.trans f2)
end
/-! ### in the suite -/
/-- isinstance(e, c) -/
def eIsE (ie : Nat) (a dd : Addr) (b : Bool) : ED := fun δ Q => ∃ fl x, δ[ie]? = some (some (.ob a dd fl x)) ∧ Q (.bl b)
/-- e.f -/
def eFld (ie : Nat) (a dd : Addr) (fl : Str) : ED := fun δ Q => ∃ x, δ[ie]? = some (some (.ob a dd fl x)) ∧ Q (.int x)
/-- what the class at C must say -/
structure ExcD (K : PySem.W.Frag) (C : Addr) : Prop where
  ec : ExcC K C
  xf : XfC K C
def rIsX (K : PySem.W.Frag) (C a dd : Addr) : List V → Hp → VK → Prop := fun xs H Q => ∃ (c : V) (cv : Value) (b : Bool) (fs : List (Str × V)), xs = [.ref a, c] ∧ (∀ u, RelV c u → u = cv) ∧ H dd = some (.xd fs) ∧ PySem.W.kitOne K (.ref C) cv = some b ∧ Q (.bl b) H
theorem call_isX {X : Cx} {a C dd : Addr} {oe : Obj} {pn : List (Addr × Obj)} (T : ExcC X.K C) (hz : Zc (.ref C) (some dd) oe) (hf : ∃ vs, oe.data = .fields vs) : CallR (X.suite a ((a, oe) :: pn)) (.builtin "isinstance") (rIsX X.K C a dd) := by
  intro pins s σ H xs us Q I r h
  obtain ⟨c, cv, b, fs, rfl, hcv, hd, e, q⟩ := h
  cases r with
  | cons rx rr =>
    cases rr with
    | cons rt rr =>
      cases rr
      cases rx
      have ec := hcv _ rt
      subst ec
      obtain ⟨hget, _⟩ := I.pin (a, oe) (List.mem_append.mpr (.inl List.mem_cons_self))
      obtain ⟨vs, hv⟩ := hf
      have hx : ObjOk X.prog X.w H s.heap dd (.xd fs) := I.hok dd _ hd
      obtain ⟨mA, hns, hr⟩ := hx
      obtain ⟨od, ho, hl⟩ := lookIn_ns hns
      have J : PySem.W.InstAt s.heap a oe C (some od) := ⟨hget, hz.1, by unfold PySem.W.notCls; rw [hv] <;> rfl, by rw [hz.2]; exact ho⟩
      have hcl : (PySem.W.clsIn X.K C).isSome = true := by
        obtain ⟨cd, hc, _⟩ := PySem.W.any_some T.hd
        rw [hc]; rfl
      exact PySem.W.kia_one (PySem.W.kitx_exc hcl T.hg T.hk T.hs T.ha T.hn T.ht T.hm) I.kIn J e (fun z => nomatch z) fun tk => ⟨.bl b, H, I.kept (t' := tk) fun _ _ z => z, rfl, q⟩
section
variable {X : Cx} {Cl : ClT} {κr κ : Kd} {O : Os} {i ie : Nat} {x n y : Str} {e e2 : Expr} {a C dd : Addr} {oe : Obj} {pn : List (Addr × Obj)} {np pos pos' p1 p2 : Pos} {v : V} {cv : Value} {b : Bool} {fl : Str}
theorem de_isE (hκ : κ ≠ .nw) (T : ExcC X.K C) (hz : Zc (.ref C) (some dd) oe) (hf : ∃ vs, oe.data = .fields vs) (hOe : O.getD ie .fz = .fz := by rfl) (hv : PE (X.suite a ((a, oe) :: pn)) (.Name n p1) (tVar ie)) (h2 : PE (X.suite a ((a, oe) :: pn)) e2 (tC v)) (hcv : ∀ u, RelV v u → u = cv) (kit : PySem.W.kitOne X.K (.ref C) cv = some b)
    (hg : Gl (X.suite a ((a, oe) :: pn)) "isinstance") (hm : X.mg "isinstance" = none)
    (he : starEach [.Name n p1, e2] X.env = (false, eval (.Name n p1) X.env) :: starEach [e2] X.env := by rfl) (he2 : starEach [e2] X.env = (false, eval e2 X.env) :: starEach [] X.env := by rfl) (hpl : (backTo pos (starEach [e2] X.env)).any (·.1) = false := by rfl) :
    DE (X.suite a ((a, oe) :: pn)) O κ (.Call (.Name "isinstance" p2) [.Name n p1, e2] [] pos) (eIsE ie a dd b) := by
  refine ⟨pe_imp (pe_callB (call_isX (pn := pn) T hz hf) hg hm boot_isinstance (pa_cons hv (pa_cons h2 pa_nil he2) he) (by decide) (by decide) he hpl) fun σ H Q ⟨B, Cs, F, δ, s, fl, x, hd, w⟩ => ?_, fun δ Q Q' h ⟨fl, x, hd, w⟩ => ⟨fl, x, hd, h _ w⟩⟩
  obtain ⟨v', hv', q⟩ := s.at_ ie _ hd
  rw [hOe] at q
  have q' : Rp B.p F v' (.ob a dd fl x) := q
  cases q' with
  | ob _ _ _ _ hF => exact ⟨_, hv', _, _, _, _, rfl, hcv, s.fr.fh _ _ hF, kit, w F H _ (.refl s.fr) (flat_rv (p := B.p) (.bl (p := B.p) (F := F) b) trivial hκ s.fr)⟩
theorem de_fld (hκ : κ ≠ .nw) (T : XfC X.K C) (hno : PySem.W.findIn X.K (.ref C) fl = some none) (hz : Zc (.ref C) (some dd) oe) (hf : ∃ vs, oe.data = .fields vs) (hOe : O.getD ie .fz = .fz := by rfl) (hv : PE (X.suite a ((a, oe) :: pn)) (.Name n p1) (tVar ie))
    (hb : attributeBase (.Name n p1) fl X.env (eval (.Name n p1) X.env) = eval (.Name n p1) X.env := by rfl) :
    DE (X.suite a ((a, oe) :: pn)) O κ (.Attribute (.Name n p1) fl pos) (eFld ie a dd fl) := by
  refine ⟨pe_imp (pe_xf (cls := .ref C) (d := some dd) T hno hz hf hv hb) fun σ H Q ⟨B, Cs, F, δ, s, x, hd, w⟩ => ?_, fun δ Q Q' h ⟨x, hd, w⟩ => ⟨x, hd, h _ w⟩⟩
  obtain ⟨v', hv', q⟩ := s.at_ ie _ hd
  rw [hOe] at q
  have q' : Rp B.p F v' (.ob a dd fl x) := q
  cases q' with
  | ob _ _ _ _ hF => exact ⟨_, hv', rfl, rfl, dd, _, _, rfl, s.fr.fh _ _ hF, by simp [List.lookup], w F H _ (.refl s.fr) (flat_rv (p := B.p) (.int (p := B.p) (F := F) x) trivial hκ s.fr)⟩
end
end DL
end

/-! part: DL11 -/
section
set_option Elab.async false
set_option linter.all false
set_option maxRecDepth 100000
set_option maxHeartbeats 2000000
namespace DL
open PySem PySem.Spec L2
open PyProof.Rows hiding St
/-! ### 20. defs that raise -/
def spInit (K : PySem.W.Frag) (fl : Str) : Sp := fun vs H Q _ => ∃ (a C : Addr) (y : V), vs = [.ref a, y] ∧ OexC K C ∧ PySem.W.findIn K (.ref C) fl = some none ∧ H a = some (exo a C none) ∧
  ∀ dx, H dx = none → dx ≠ a → Q .non (upd (upd H dx (exd dx [(fl, y)])) a (exo a C (some dx)))
structure ClsD (P : Program) (w : World) (K : PySem.W.Frag) (mg : Str → Option Value) (base : Heap) (c : Str) (C : Addr) (fl : Str) : Prop where
  gC : mg c = some (.ref C)
  oex : OexC K C
  hno : PySem.W.findIn K (.ref C) fl = some none
  init : ∃ fI fd ps, PySem.W.findIn K (.ref C) "__init__" = some (some (.ref fI)) ∧ PySem.W.typeIn K (.ref fI) = some (.type "function") ∧ Binds K fd ps [] ∧ FnOk P w K mg base CX0 1 fI fd ps (spInit K fl)
def liftSX (Cl : ClT) (W : XK) (κr : Kd) (O O' : Os) (t : SDX) : TS := fun D σ H => ∃ B C F δ, SR O B C F σ H δ ∧ t (lowEn O' [] κr B F D) (outX Cl B.p B.F B.H W) δ
structure DStX (X : Cx) (Cl : ClT) (W : XK) (κr : Kd) (O O' : Os) (st : Stmt) (t : SDX) : Prop where
  ps : PS X st (liftSX Cl W κr O O' t)
  mono : MonoSX t
structure DSX (X : Cx) (Cl : ClT) (W : XK) (κr : Kd) (O O' : Os) (st : List Stmt) (t : SDX) : Prop where
  ps : PSs X st (liftSX Cl W κr O O' t)
  mono : MonoSX t
def sOK (t : SD) : SDX := fun E _ δ => t E δ
def sSeqX (t u : SDX) : SDX := fun E R δ => t { E with nx := fun δ' => u E R δ' } R δ
def sIfX (c : TD) (t u : SDX) : SDX := fun E R δ => c δ fun b => if b = true then t E R δ else u E R δ
def sRaiseX (c fl : Str) (te : ED) : SDX := fun E R δ => te δ fun d => ∃ i, d = .int i ∧ R c fl i
def sSetX (i : Nat) (t : EDX) : SDX := fun E R δ => t δ (fun d => E.nx (δ.set i (some d))) R
def sRetX (t : EDX) : SDX := fun E R δ => t δ E.rt R
def sDropX (t : EDX) : SDX := fun E R δ => t δ (fun _ => E.nx δ) R
abbrev WK (W : XK) : WX := fun cls d _ H => W cls d H
section
variable {X : Cx} {Cl : ClT} {W : XK} {κr κ : Kd} {O O1 O2 : Os} {st : Stmt} {rest a b : List Stmt} {t u : SDX} {tp : SD} {tc : TD} {te : EDX} {e c : Expr} {pos : Pos}
theorem dsX_of (h : DSs X κr [] O O1 rest tp) : DSX X Cl W κr O O1 rest (sOK tp) := ⟨pss_imp h.ps fun D σ H w => w, fun E E' R R' δ h1 h2 w => h.mono _ _ _ h1 w⟩
theorem dstX_of (h : DSt X κr [] O O1 st tp) : DStX X Cl W κr O O1 st (sOK tp) := ⟨ps_imp h.ps fun D σ H w => w, fun E E' R R' δ h1 h2 w => h.mono _ _ _ h1 w⟩
theorem dsX_nil : DSX X Cl W κr O O [] (sOK sNext) := dsX_of dss_nil
theorem dsX_cons (h1 : DStX X Cl W κr O O1 st t) (h2 : DSX X Cl W κr O1 O2 rest u) : DSX X Cl W κr O O2 (st :: rest) (sSeqX t u) := by
  refine ⟨pss_imp (pss_cons h1.ps h2.ps) fun D σ H ⟨B, C, F, δ, s, w⟩ => ?_, fun E E' R R' δ hE hR w => h1.mono _ _ _ _ _ (hE.seq fun δ w => h2.mono _ _ _ _ _ hE hR w) hR w⟩
  refine ⟨B, C, F, δ, s, h1.mono { lowEn O2 [] κr B F D with nx := fun δ' => u (lowEn O2 [] κr B F D) (outX Cl B.p B.F B.H W) δ' } _ _ _ _ ⟨fun δ' w C1 F1 σ1 H1 s1 f1 => ?_, fun _ w => w, fun _ w => w, fun _ w => w⟩ (fun _ _ _ w => w) w⟩
  exact ⟨B, C1, F1, δ', s1, h2.mono _ _ _ _ _ (lowEn_le f1) (fun _ _ _ w => w) w⟩
theorem dsX_one (h : DStX X Cl W κr O O1 st t) : DSX X Cl W κr O O1 [st] t := ⟨pss_imp (pss_one h.ps) fun D σ H w => w, h.mono⟩
theorem dstX_if (hc : DT X O c tc) (ha : DSX X Cl W κr O O1 a t) (hb : DSX X Cl W κr O O1 b u) : DStX X Cl W κr O O1 (.If c a b pos) (sIfX tc t u) := by
  refine ⟨ps_imp (ps_if hc.pt ha.ps hb.ps) fun D σ H ⟨B, C, F, δ, s, w⟩ => ?_, fun E E' R R' δ hE hR w => hc.mono _ _ _ (fun b w => by
    cases b with
    | true => exact ha.mono _ _ _ _ _ hE hR w
    | false => exact hb.mono _ _ _ _ _ hE hR w) w⟩
  refine ⟨B, C, F, δ, s, hc.mono _ _ _ (fun b w F1 H1 x1 => ?_) w⟩
  cases b with
  | true => exact iteT ⟨B, C, F1, δ, s.step x1, ha.mono _ _ _ _ _ (lowEn_le x1.ff) (fun _ _ _ w => w) w⟩
  | false => exact iteF ⟨B, C, F1, δ, s.step x1, hb.mono _ _ _ _ _ (lowEn_le x1.ff) (fun _ _ _ w => w) w⟩
/-- a branch that never comes to its end -/
theorem dsX_any (h : DSX X Cl W κr O O1 rest u) (hn : ∀ E R δ, u E R δ → u { E with nx := fun _ => False } R δ) : DSX X Cl W κr O O2 rest u :=
  ⟨pss_imp h.ps fun D σ H ⟨B, C, F, δ, s, w⟩ => ⟨B, C, F, δ, s, h.mono { lowEn O2 [] κr B F D with nx := fun _ => False } (lowEn O1 [] κr B F D) _ _ _ ⟨fun _ w => (show False from w).elim, fun _ w => w, fun _ w => w, fun _ w => w⟩ (fun _ _ _ w => w) (hn _ _ _ w)⟩, h.mono⟩
theorem dsX_fz (i : Nat) (h : DSX X Cl W κr (O.set i .fz) O2 rest u) : DSX X Cl W κr O O2 rest u := by
  refine ⟨pss_imp h.ps fun D σ H ⟨B, C, F, δ, s, w⟩ => ?_, h.mono⟩
  obtain ⟨C', F', s', ff⟩ := s.frz i
  exact ⟨B, C', F', δ, s', h.mono _ _ _ _ _ (lowEn_le ff) (fun _ _ _ w => w) w⟩
theorem dstX_raise {x fl : Str} {C : Addr} {k : Nat} {ta : ED} {p pos2 : Pos} (T : ClsD X.prog X.w X.K X.mg X.base x C fl) (hC : Cl x = some C) (hc : X.calm = true) (tk : Takes X (WK W)) (hr : Room (k + 2) X.A) (hg : Gl X x) (he : DE X O .fz e ta)
    (hdb : (x == ("__debug__" : Str)) = false := by decide) (hs : starEach [e] X.env = (false, eval e X.env) :: starEach [] X.env := by rfl) (hpl : (backTo pos2 (starEach [] X.env)).any (·.1) = false := by rfl) :
    DStX X Cl W κr O O1 (.Raise (some (.Call (.Name x p) [e] [] pos2)) none pos) (sRaiseX x fl ta) := by
  obtain ⟨fI, fd, ps, iC, tI, hb, F1⟩ := T.init
  refine ⟨ps_imp (ps_raise hc tk (pmk_oex T.oex iC tI F1 (hr.mono (by omega)) hb .nil pass0 hg T.gC (pa_cons he.pe pa_nil hs) hdb hs hpl)) fun D σ H ⟨B, Cs, F, δ, s, w⟩ => ?_, fun E E' R R' δ hE hR w => he.mono _ _ _ (fun d ⟨i, e, w⟩ => ⟨i, e, hR _ _ _ w⟩) w⟩
  refine ⟨B, Cs, F, δ, s, he.mono _ _ _ (fun d ⟨i, ed, w⟩ F1 H1 v x1 r1 => ?_) w⟩
  subst ed
  cases Rv.int (κ := .fz) r1
  refine ⟨(by show 1 ≤ 1000; decide), fun a ha => ⟨a, C, .int i, rfl, T.oex, T.hno, upd_same, fun dx hdx ne => ⟨rfl, dx, [(fl, .int i)], upd_same, ?_, ?_, ?_⟩⟩⟩
  · rw [upd_ne ne, upd_same]
  · rwa [upd_ne ne] at hdx
  · rw [upd_ne ne] at hdx
    have e : upd (del (upd (upd (upd H1 a (exo a C none)) dx (exd dx [(fl, .int i)])) a (exo a C (some dx))) a) dx (.xd [(fl, .int i)]) = upd H1 dx (.xd [(fl, .int i)]) := by
      funext b
      by_cases h1 : b = dx
      · subst h1; rw [upd_same, upd_same]
      · rw [upd_ne h1, upd_ne h1]
        by_cases h2 : b = a
        · subst h2; rw [del_same, ha]
        · rw [del_ne h2, upd_ne h2, upd_ne h1, upd_ne h2]
    rw [e]
    exact w _ _ C dx hC ((s.ext.trans s.f0 x1).trans s.f0 (Ext.new x1.fr hdx)) upd_same
theorem dstX_set {i : Nat} {x : Str} {pos' : Pos} (hN : X.N.Nodup) (hi : X.N[i]? = some x) (hx : Loc X.env.scope x) (he : DEX X Cl (WK W) O .fz e te) (hs : swapsWith e (some (.Name x pos')) pos.line X.env = pure false := by rfl) (hf : X.fn x = true ∨ X.env.scope.names.lookup x = some .local := by first | exact .inl rfl | exact .inr rfl | assumption) :
    DStX X Cl W κr O (O.set i .fz) (.Assign [.Name x pos'] e pos) (sSetX i te) := by
  refine ⟨ps_imp (ps_set hN hi hx he.pe hs hf) fun D σ H ⟨B, C, F, δ, s, w⟩ => ?_, fun E E' R R' δ hE hR w => he.mono _ _ _ _ _ (fun _ w => hE.nx _ w) hR w⟩
  exact ⟨B, C, F, δ, s, he.mono _ _ _ _ _ (fun d w F1 H1 v x1 r1 => w _ F1 _ H1 ((s.step x1).set i r1) x1.ff) (fun _ _ _ w => outX.step s.f0 s.ext w) w⟩
theorem dstX_ret (he : DEX X Cl (WK W) O κr e te) : DStX X Cl W κr O O2 (.Return (some e) pos) (sRetX te) := by
  refine ⟨ps_imp (ps_ret he.pe) fun D σ H ⟨B, C, F, δ, s, w⟩ => ?_, fun E E' R R' δ hE hR w => he.mono _ _ _ _ _ (fun _ w => hE.rt _ w) hR w⟩
  exact ⟨B, C, F, δ, s, he.mono _ _ _ _ _ (fun d w F1 H1 v x1 r1 => w F1 H1 v (s.ext.trans s.f0 x1) (r1.since (back_since s.ext))) (fun _ _ _ w => outX.step s.f0 s.ext w) w⟩
theorem dstX_expr (he : DEX X Cl (WK W) O .vw e te) (hs : swapsWith e none pos.line X.env = pure false := by rfl) : DStX X Cl W κr O O (.Expr e pos) (sDropX te) := by
  refine ⟨ps_imp (ps_expr he.pe hs) fun D σ H ⟨B, C, F, δ, s, w⟩ => ?_, fun E E' R R' δ hE hR w => he.mono _ _ _ _ _ (fun _ w => hE.nx _ w) hR w⟩
  exact ⟨B, C, F, δ, s, he.mono _ _ _ _ _ (fun d w F1 H1 v x1 r1 => w C F1 σ H1 (s.step x1) x1.ff) (fun _ _ _ w => outX.step s.f0 s.ext w) w⟩
end
section
variable {P : Program} {w : World} {K : PySem.W.Frag} {mg : Str → Option Value} {base : Heap}
theorem fnX_ok {Cl : ClT} {x qual : Str} {st : Stmt} {f : Addr} {fd : FuncData} {N ps : List Str} {k : Nat} {κr : Kd} {fn : FnX} {Oe : Os} {b : SDX} (F : Fun K x qual st f fd) (S : FnScope N ps (defScope st))
    (body : ∀ (cdv : Value) (A : Around) (outer : List Env) (s : Shared) (H : Hp) (E : XK), Room k (A.deeper (envOfC qual (defScope st) s.heap.objs.size f cdv)) →
      DSX (cxOf (L2.CX P w) P w K mg base N qual (defScope st) f cdv A outer s H E) Cl E κr (fzs N) Oe (defBody st) b)
    (sem : ∀ ds (Q : D → Prop) (R : Str → Str → Int → Prop), ds.length = ps.length → fn ds Q R → b { nx := fun _ => κr ≠ .nw ∧ Q .non, rt := Q } R (startD N ds)) : FnOk P w K mg base (L2.CX P w) (k + 1) f fd ps (spDX Cl κr ps.length fn) := by
  refine F.okX S (fun vs H Q E ⟨p, F, ds, h1, h2, h3, _⟩ => h2.len.trans h3) fun cdv A outer s H vs Q E hr ⟨p, F0, ds, h1, h2, h3, h4⟩ => ?_
  have B := body cdv A outer s H E hr
  have w4 := sem ds _ _ h3 h4
  refine ⟨_, B.ps, ⟨p, F0, H⟩, fun _ => emp, F0, startD N ds, sr_start h1 h2, B.mono { nx := fun _ => κr ≠ .nw ∧ ∀ F' H' v, Ext p F0 H F' H' → Rv κr p H F' H' v .non → Q v H', rt := fun d => ∀ F' H' v, Ext p F0 H F' H' → Rv κr p H F' H' v d → Q v H' } _ _ _ _ ⟨fun δ ⟨hk, q⟩ C' F' σ' H' s' f' => ?_, fun d q F' H' v x r => q F' H' v x r, fun _ z => (show False from z).elim, fun _ z => (show False from z).elim⟩ (fun _ _ _ w => w) w4⟩
  exact q F' H' _ s'.ext (flat_rv (p := p) (.non (p := p) (F := F')) trivial hk s'.fr)
end
end DL
end

/-! part: DL12 -/
section
set_option Elab.async false
set_option linter.all false
set_option maxRecDepth 100000
set_option maxHeartbeats 2000000
namespace DL
open PySem PySem.Spec L2
open PyProof.Rows hiding St
/-! ### 21. regions -/
theorem un_join {p : Pf} {F H : Hp} : ∀ {κn : Nat} {vs : List V} {ds : List D} {H0 : Hp}, RvL (.dp κn) p H0 F H vs ds → ∃ G, Same G H ∧ (∀ a o, G a = some o → ne_p p a ∧ H0 a = none ∧ F a = none) ∧ Paired (fun v d => Un p F G κn v d) vs ds
  | n, _, _, H0, .nil => ⟨emp, (fun _ _ e => nomatch e), (fun _ _ e => nomatch e), .nil⟩
  | n, _, _, H0, .cons r t => by
    obtain ⟨G, s, ng, r⟩ := r
    obtain ⟨G', s', ng', t⟩ := un_join t
    have l : Same G (join G G') := join_l
    have l' : Same G' (join G G') := fun a o e => by
      unfold join
      cases q : G a with
      | none => exact e
      | some u =>
        have h1 := s a u q
        have h2 := s' a o e
        rw [h1] at h2
        exact h2
    refine ⟨join G G', join_in s s', fun a o e => ?_, .cons (r.mono (Same.refl _) l) (Paired.mapP t fun _ _ z => z.mono (Same.refl _) l')⟩
    unfold join at e
    cases q : G a with
    | none => rw [q] at e; exact ng' a o e
    | some u => rw [q] at e; exact ng a u q
theorem paired_at {R : V → D → Prop} : ∀ {vs : List V} {ds : List D}, Paired R vs ds → vs.length = ds.length ∧ ∀ (i : Nat) v d, vs[i]? = some v → ds[i]? = some d → R v d
  | _, _, .nil => ⟨rfl, fun i v d a => by simp at a⟩
  | _, _, .cons h t => by
    obtain ⟨l, f⟩ := paired_at t
    refine ⟨by simp [l], fun i v d a b => ?_⟩
    cases i with
    | zero => simp at a b; subst a; subst b; exact h
    | succ i => exact f i v d (by simpa using a) (by simpa using b)
/-- a new object over a region -/
theorem dp_new {p : Pf} {n : Nat} {H0 F H : Hp} {vs : List V} {ds : List D} {c : Addr} {o : HO} {d : D} (f : Fr p F H) (r : RvL (.dp n) p H0 F H vs ds) (nc : H c = none) (n0 : H0 c = none)
    (mk : ∀ G, G c = some o → vs.length = ds.length → (∀ (i : Nat) v d, vs[i]? = some v → ds[i]? = some d → Un p F G n v d) → Un p F G (n + 1) (.ref c) d) : Rv (.dp (n + 1)) p H0 F (upd H c o) (.ref c) d := by
  obtain ⟨G, s, ng, t⟩ := un_join r
  have hc : G c = none := s.free nc
  have sg : Same G (upd G c o) := fun a u e => by rw [upd_ne (ne_of_none e hc)]; exact e
  obtain ⟨l, g⟩ := paired_at t
  refine ⟨upd G c o, fun a u e => ?_, fun a u e => ?_, mk _ upd_same l fun i v d a b => (g i v d a b).mono (Same.refl _) sg⟩
  · by_cases h : a = c
    · subst h; rw [upd_same] at e ⊢; exact e
    · rw [upd_ne h] at e ⊢; exact s a u e
  · by_cases h : a = c
    · subst h; exact ⟨f.ne_none nc, n0, f.fh.free nc⟩
    · rw [upd_ne h] at e; exact ng a u e
theorem rvl_len {κ : Kd} {p : Pf} {H0 F H : Hp} {vs : List V} {ds : List D} (r : RvL κ p H0 F H vs ds) : vs.length = ds.length := by
  induction r with
  | nil => rfl
  | cons _ _ ih => simp [ih]
section
variable {X : Cx} {Cl : ClT} {W : WX} {O : Os} {es : List Expr} {pos : Pos} {n : Nat}
theorem de_tupR {t : AD} {x1} (h : DA X O (.dp n) es t) : DE X O (.dp (n + 1)) (.Tuple es x1 pos) (eA gMkT t) := by
  refine ⟨pe_imp (pe_tup h.pa) fun σ H Q ⟨B, C, F, δ, s, w⟩ => ?_, eA_mono h.mono fun ds Q Q' i w => ⟨w.1, i _ w.2⟩⟩
  refine ⟨B, C, F, δ, s, h.mono _ _ _ (fun xs w F1 H1 vs x1 r1 => ?_) w⟩
  refine ⟨by rw [rvl_len r1]; exact w.1, fun a na => ?_⟩
  exact w.2 F1 _ _ (x1.trans s.fr (Ext.lay x1.fr na)) (dp_new x1.fr r1 na (x1.back na) fun G e l g => .tup e l g)
theorem de_lstR {t : AD} (h : DA X O (.dp n) es t) : DE X O (.dp (n + 1)) (.List es pos) (eA gMkL t) := by
  refine ⟨pe_imp (pe_lst h.pa) fun σ H Q ⟨B, C, F, δ, s, w⟩ => ?_, eA_mono h.mono fun ds Q Q' i w => ⟨w.1, i _ w.2⟩⟩
  refine ⟨B, C, F, δ, s, h.mono _ _ _ (fun xs w F1 H1 vs x1 r1 => ?_) w⟩
  refine ⟨by rw [rvl_len r1]; exact w.1, fun a na => ?_⟩
  exact w.2 F1 _ _ (x1.trans s.fr (Ext.lay x1.fr na)) (dp_new x1.fr r1 na (x1.back na) fun G e l g => .lst e l g)
theorem deX_tupR {ta : ADX} {x1} (h : DAX X Cl W O (.dp n) es ta) : DEX X Cl W O (.dp (n + 1)) (.Tuple es x1 pos) (eAXX (fun ds Q _ => gMkT ds Q) ta) := by
  refine ⟨pe_imp (pe_tup h.pa) fun σ H Q ⟨B, C, F, δ, s, w⟩ => ?_, fun δ Q Q' R R' h1 h2 w => h.mono _ _ _ _ _ (fun ds w => ⟨w.1, h1 _ w.2⟩) h2 w⟩
  refine ⟨B, C, F, δ, s, h.mono _ _ _ _ _ (fun xs w F1 H1 vs x1 r1 => ?_) (fun _ _ _ w => w) w⟩
  refine ⟨by rw [rvl_len r1]; exact w.1, fun a na => ?_⟩
  exact w.2 F1 _ _ (x1.trans s.fr (Ext.lay x1.fr na)) (dp_new x1.fr r1 na (x1.back na) fun G e l g => .tup e l g)
end
/-! what is read of a region -/
def liftR (O : Os) (i m : Nat) (t : ED) : TE := fun σ H Q => ∃ B C F δ, SR O B C F σ H δ ∧ t δ fun d => ∀ v, Un B.p F (C i) m v d → Q v H
structure DR (X : Cx) (O : Os) (i m : Nat) (e : Expr) (t : ED) : Prop where
  pe : ∀ (B : Bs) (C : Nat → Hp) (F : Hp) (δ : DS) (σ : St), PE X e fun σ' H Q => σ' = σ ∧ SR O B C F σ H δ ∧ t δ fun d => ∀ v, Un B.p F (C i) m v d → Q v H
  mono : MonoE t
section
variable {X : Cx} {O : Os} {i m : Nat} {a b : Expr} {t : ED} {x : Str} {pos : Pos}
theorem dr_var (hv : PE X (.Name x pos) (tVar i)) (hO : O.getD i .fz = .dp m := by rfl) : DR X O i m (.Name x pos) (eVar i) := by
  refine ⟨fun B C F δ σ => pe_imp hv fun σ' H Q ⟨e, s, d, hd, w⟩ => ?_, fun δ Q Q' h ⟨d, e, w⟩ => ⟨d, e, h d w⟩⟩
  subst e
  obtain ⟨v, h1, h2⟩ := s.at_ i d hd
  rw [hO] at h2
  exact ⟨v, h1, w v h2⟩
def eItR (t : ED) (k : Int) : ED := fun δ Q => t δ fun x => ∃ xs d, (x = .lst xs ∨ x = .tup xs) ∧ L2.atI xs k = some d ∧ Q d
theorem at_pair {R : V → D → Prop} {vs : List V} {ds : List D} (l : vs.length = ds.length) (f : ∀ (i : Nat) v d, vs[i]? = some v → ds[i]? = some d → R v d) {k : Int} {d : D} (h : L2.atI ds k = some d) : ∃ v, L2.atI vs k = some v ∧ R v d := by
  unfold L2.atI at h ⊢
  rw [l]
  cases e : ixN ds.length k with
  | none => rw [e] at h; cases h
  | some j =>
    rw [e] at h
    have h' : ds[j]? = some d := h
    have hi := (List.getElem?_eq_some_iff.mp h').1
    exact ⟨vs[j]'(by omega), List.getElem?_eq_getElem (by omega), f j _ d (List.getElem?_eq_getElem (by omega)) h'⟩
theorem dr_ix {k : Int} {j p2} (h : DR X O i (m + 1) a t) : DR X O i m (.Subscript a (.Constant (.int k) j p2) pos) (eItR t k) := by
  refine ⟨fun B C F δ σ => pe_imp (pe_ix ix_lt (h.pe B C F δ σ) pe_int (fun _ _ => rfl)) fun σ' H Q ⟨e, s, w⟩ => ?_, fun δ Q Q' h' w => h.mono _ _ _ (fun x ⟨xs, d, e, e2, w⟩ => ⟨xs, d, e, e2, h' _ w⟩) w⟩
  refine ⟨e, s, h.mono _ _ _ (fun x ⟨xs, d, ex, e2, w⟩ v r => ?_) w⟩
  rcases ex with rfl | rfl
  · cases r with
    | flat f _ => exact f.elim
    | lst g l f =>
      obtain ⟨u, hu, ru⟩ := at_pair l f e2
      exact .inl ⟨_, _, k, u, rfl, rfl, SqL.of (s.sub i _ _ g), hu, w u ru⟩
  · cases r with
    | flat f _ => exact f.elim
    | tup g l f =>
      obtain ⟨u, hu, ru⟩ := at_pair l f e2
      exact .inr ⟨_, _, k, u, rfl, rfl, SqT.of (s.sub i _ _ g), hu, w u ru⟩
/-- an item of a region -/
theorem de_itemR {k : Int} {j p2} {ta : ED} (ha : DE X O (.dp (m + 1)) a ta) : DE X O (.dp m) (.Subscript a (.Constant (.int k) j p2) pos) (eItR ta k) := by
  refine ⟨pe_imp (pe_ix ix_lt ha.pe pe_int (fun _ _ => rfl)) fun σ H Q ⟨B, C, F, δ, s, w⟩ => ?_, fun δ Q Q' h' w => ha.mono _ _ _ (fun x ⟨xs, d, e, e2, w⟩ => ⟨xs, d, e, e2, h' _ w⟩) w⟩
  refine ⟨B, C, F, δ, s, ha.mono _ _ _ (fun x ⟨xs, d, ex, e2, w⟩ F1 H1 v x1 r1 => ?_) w⟩
  obtain ⟨G, sg, ng, r⟩ := r1
  rcases ex with rfl | rfl
  · cases r with
    | flat f _ => exact f.elim
    | lst g l f =>
      obtain ⟨u, hu, ru⟩ := at_pair l f e2
      exact .inl ⟨_, _, k, u, rfl, rfl, SqL.of (sg _ _ g), hu, w F1 H1 u x1 ⟨G, sg, ng, ru⟩⟩
  · cases r with
    | flat f _ => exact f.elim
    | tup g l f =>
      obtain ⟨u, hu, ru⟩ := at_pair l f e2
      exact .inr ⟨_, _, k, u, rfl, rfl, SqT.of (sg _ _ g), hu, w F1 H1 u x1 ⟨G, sg, ng, ru⟩⟩
end
/-- an object of the region is changed: the slot is forgotten -/
theorem SR.hit {O : Os} {B : Bs} {C : Nat → Hp} {F : Hp} {σ : St} {H : Hp} {δ : DS} (s : SR O B C F σ H δ) (i : Nat) {c : Addr} {u o : HO} (hc : C i c = some u) : ∃ C', SR O B C' F σ (upd H c o) (δ.set i none) := by
  obtain ⟨np, hB, hF⟩ := s.out i c u hc
  have hH := s.sub i c u hc
  refine ⟨setC C i emp, s.f0, ⟨s.ext.ff, fun a q e n => ?_, s.ext.nw, ⟨fun a q e => ?_, fun a b e => ?_⟩⟩, by simp [s.len], fun j a q e => ?_, fun j a q e => ?_, fun j k a q ne e => ?_, fun j d e => ?_⟩
  · have : a ≠ c := fun z => by rw [z, hB] at e; cases e
    rw [upd_ne this]; exact s.ext.hh a q e n
  · have : a ≠ c := fun z => by rw [z, hF] at e; cases e
    rw [upd_ne this]; exact s.fr.fh a q e
  · obtain ⟨out, ns, k, x, r, h, q⟩ := s.fr.fd a b e
    have : a ≠ c := fun z => np b (z ▸ e)
    exact ⟨out, ns, k, x, r, by rw [upd_ne this]; exact h, q⟩
  · by_cases hj : j = i
    · subst hj; rw [setC_same] at e; cases e
    · rw [setC_ne hj] at e
      have : a ≠ c := fun z => by
        have := s.dis i j c u (Ne.symm hj) hc
        rw [z, this] at e; cases e
      rw [upd_ne this]; exact s.sub j a q e
  · by_cases hj : j = i
    · subst hj; rw [setC_same] at e; cases e
    · rw [setC_ne hj] at e; exact s.out j a q e
  · by_cases hk : k = i
    · subst hk; rw [setC_same]; rfl
    · rw [setC_ne hk]
      by_cases hj : j = i
      · subst hj; rw [setC_same] at e; cases e
      · rw [setC_ne hj] at e; exact s.dis j k a q ne e
  · by_cases hj : i = j
    · subst hj
      rw [List.getElem?_set] at e
      simp at e
    · rw [List.getElem?_set_ne hj] at e
      obtain ⟨v, h1, h2⟩ := s.at_ j d e
      exact ⟨v, h1, by rw [setC_ne (Ne.symm hj)]; exact h2⟩
/-- x[..].append(e), x a region: it is forgotten -/
def sAppR (i : Nat) (tx te : ED) : SD := fun E δ => tx δ fun d => ∃ ds, d = .lst ds ∧ te δ fun _ => ds.length < sizeLine ∧ E.nx (δ.set i none)
section
variable {X : Cx} {κr : Kd} {Oc O : Os} {i m : Nat} {e x : Expr} {tx te : ED} {pos p1 p2 : Pos}
theorem dst_appR (hx : DR X O i (m + 1) x tx) (he : DE X O .fz e te)
    (hbase : attributeBase x "append" X.env (eval x X.env) = eval x X.env := by rfl)
    (hfew : ((backTo p2 (starEach [e] X.env)).all (fun x => !x.1) && (backToKw p2 (keywordEach [] X.env)).all (fun x => x.1.isSome)
      && decide ([e].length + ([] : List Keyword).length + (if ([] : List Keyword).isEmpty then 0 else 1) < 30)) = true := by rfl)
    (hline : (p1.endLine == p2.line) = true := by rfl) (hst : starEach [e] X.env = (false, eval e X.env) :: starEach [] X.env := by rfl) (hplain : (backTo p2 (starEach [] X.env)).any (·.1) = false := by rfl)
    (hs : swapsWith (.Call (.Attribute x "append" p1) [e] [] p2) none pos.line X.env = pure false := by rfl) :
    DSt X κr Oc O O (.Expr (.Call (.Attribute x "append" p1) [e] [] p2) pos) (sAppR i tx te) := by
  refine ⟨⟨fun pins s0 σ H D I ⟨B, C, F, δ, s, w⟩ => ?_⟩, fun E E' δ h w => hx.mono _ _ _ (fun d ⟨ds, e, w⟩ => ⟨ds, e, he.mono _ _ _ (fun _ w => ⟨w.1, h.nx _ w.2⟩) w⟩) w⟩
  have h := pe_bm PySem.F.plainAttrs_list PySem.F.slot_list_append PySem.F.type_list_append mt_append (hx.pe B C F δ σ) (pa_cons he.pe pa_nil hst) hbase hfew hline hst hplain
  refine (ps_expr h hs).run pins s0 σ H D I ⟨rfl, s, hx.mono _ _ _ (fun d ⟨ds, ed, w⟩ v r => ?_) w⟩
  subst ed
  cases r with
  | flat f _ => exact f.elim
  | lst g l f =>
    rename_i c vs
    refine ⟨.inl ⟨rfl, vs, SqL.of (s.sub i _ _ g)⟩, B, C, F, δ, s, he.mono _ _ _ (fun d ⟨b, w⟩ F1 H1 v x1 r1 => ?_) w⟩
    have s1 := s.step x1
    obtain ⟨C2, s2⟩ := s1.hit i (o := .lst (vs ++ [v])) g
    exact ⟨c, vs, v, rfl, rfl, s1.sub i _ _ g, by rw [l]; exact b, w _ _ _ _ s2 x1.ff⟩
end
end DL
end

/-! part: DL13 -/
section
set_option Elab.async false
set_option linter.all false
set_option maxRecDepth 100000
set_option maxHeartbeats 2000000
namespace DL
open PySem PySem.Spec L2
open PyProof.Rows hiding St
/-! ### 22. the end -/
theorem walk {l : PySem.W.OpenLaw} {q : Program} {loose : List Str} {XP : (Str → Option Value) → Heap → Prop} {YP : World → Heap → Prop} {d : DefRec} {K : Params → PySem.W.Frag} (k : Nat) (hr : Room k callerA) (hn : l.most = some 63) (hdf : d.params.defaults = [])
    (hY : ∀ (w : World) (h : Heap), YP w h → (K w.params).In h)
    (F : ∀ (w : World) (mg : Str → Option Value) (fa : Addr) (h : Heap), (K w.params).In h → h.Ns mainGlobals mg → mg d.name = some (.ref fa) →
      ∃ fd : FuncData, (∀ (s : Shared) (u : Value), BindsTo s fd ⟨[u], []⟩ [("script", u)]) ∧ ∀ base : Heap, (K w.params).In base → base.Ns mainGlobals mg → FnOk l.prog w (K w.params) mg base CX0 k fa fd ["script"] (spLaw (K w.params))) :
    PySem.W.WalkO q loose XP YP l.row.toRowW d [] (fun f vs => PySem.call f vs) :=
  L2.walk_of (n := 63) (k := k) (x := "script") (CX := fun _ => CX0) (sp := fun w => spLaw (K w.params)) hn (by decide) hdf hr hY F (fun _ _ a ns hl _ hS => ⟨a, ns, rfl, hS, hl, fun _ => rfl⟩) fun _ _ _ _ _ z => z
end DL
end

/-! part: M1 -/
section
set_option linter.all false
set_option maxRecDepth 100000
namespace DL
open PySem PySem.Spec L2
open PyProof.Rows hiding St
/-! ### 17. evaluation -/
theorem eVar_iff {i : Nat} {δ : DS} {Q : D → Prop} : eVar i δ Q ↔ ∃ d, δ[i]? = some (some d) ∧ Q d := Iff.rfl
abbrev dI (ns : List Int) : D := .lst (ns.map D.int)
theorem shD_int (i : Int) : shD (.int i) = true := rfl
theorem shD_bl (b : Bool) : shD (.bl b) = true := rfl
theorem shD_non : shD .non = true := rfl
theorem shaped_iff (d : PyData) : SeqAt.shaped d = true ↔ d.canLay0 = true ∧ d.depth ≤ 64 := by unfold SeqAt.shaped; simp
theorem canAll_map : ∀ {l : List D}, PyData.canLayAll0 (pyL l) = true ↔ ∀ d ∈ l, (pyD d).canLay0 = true
  | [] => by simp [pyL, PyData.canLayAll0]
  | d :: ds => by
    rw [pyL, PyData.canLayAll0, Bool.and_eq_true_iff, canAll_map (l := ds)]
    simp
theorem depthAll_le : ∀ {l : List D} {n : Nat}, PyData.depthAll (pyL l) ≤ n ↔ ∀ d ∈ l, (pyD d).depth ≤ n
  | [], n => by simp [pyL, PyData.depthAll]
  | d :: ds, n => by
    rw [pyL, PyData.depthAll]
    have := depthAll_le (l := ds) (n := n)
    simp only [List.mem_cons, forall_eq_or_imp, ← this]
    omega
/-- a tree that == may take, n deep at most -/
def okD (n : Nat) (d : D) : Prop := (pyD d).canLay0 = true ∧ (pyD d).depth ≤ n
theorem okD.sh {n : Nat} {d : D} (h : okD n d) (hn : n ≤ 64) : shD d = true := by
  unfold shD; rw [shaped_iff]; exact ⟨h.1, Nat.le_trans h.2 hn⟩
theorem okD.mono {n m : Nat} {d : D} (h : okD n d) (hn : n ≤ m) : okD m d := ⟨h.1, Nat.le_trans h.2 hn⟩
theorem okD_int (n : Nat) (i : Int) : okD n (.int i) := ⟨rfl, Nat.zero_le _⟩
theorem okD_bl (n : Nat) (i : Bool) : okD n (.bl i) := ⟨rfl, Nat.zero_le _⟩
theorem okD_non (n : Nat) : okD n .non := ⟨rfl, Nat.zero_le _⟩
theorem okD_str (n : Nat) (x : Str) (h : PyData.strOk x = true) : okD n (.str x) := ⟨by unfold pyD PyData.canLay0; exact h, Nat.zero_le _⟩
theorem okD_lst {n : Nat} {l : List D} (h : ∀ d ∈ l, okD n d) : okD (n + 1) (.lst l) := by
  refine ⟨?_, ?_⟩
  · rw [pyD, PyData.canLay0, canAll_map]; exact fun d hd => (h d hd).1
  · rw [pyD, PyData.depth]; exact Nat.succ_le_succ (depthAll_le.mpr fun d hd => (h d hd).2)
theorem okD_tup {n : Nat} {l : List D} (h : ∀ d ∈ l, okD n d) : okD (n + 1) (.tup l) := by
  refine ⟨?_, ?_⟩
  · rw [pyD, PyData.canLay0, canAll_map]; exact fun d hd => (h d hd).1
  · rw [pyD, PyData.depth]; exact Nat.succ_le_succ (depthAll_le.mpr fun d hd => (h d hd).2)
theorem okD_lst_inv {n : Nat} {l : List D} (h : okD (n + 1) (.lst l)) : ∀ d ∈ l, okD n d := by
  obtain ⟨h1, h2⟩ := h
  rw [pyD, PyData.canLay0, canAll_map] at h1
  rw [pyD, PyData.depth] at h2
  exact fun d hd => ⟨h1 d hd, depthAll_le.mp (Nat.le_of_succ_le_succ h2) d hd⟩
theorem okD_tup_inv {n : Nat} {l : List D} (h : okD (n + 1) (.tup l)) : ∀ d ∈ l, okD n d := by
  obtain ⟨h1, h2⟩ := h
  rw [pyD, PyData.canLay0, canAll_map] at h1
  rw [pyD, PyData.depth] at h2
  exact fun d hd => ⟨h1 d hd, depthAll_le.mp (Nat.le_of_succ_le_succ h2) d hd⟩
theorem okD_dI (n : Nat) (ns : List Int) : okD (n + 1) (dI ns) := okD_lst fun d hd => by
  obtain ⟨i, _, rfl⟩ := List.mem_map.mp hd
  exact okD_int n i
theorem eqD_int (i j : Int) : eqD (.int i) (.int j) = decide (i = j) := by
  unfold eqD; rw [pyD, pyD, PyData.eqv]; exact Bool.beq_eq_decide_eq i j
theorem eqD_str (i j : Str) : eqD (.str i) (.str j) = decide (i = j) := by
  unfold eqD; rw [pyD, pyD, PyData.eqv]; exact Bool.beq_eq_decide_eq i j
theorem eqvAll_map (f : D → D → Bool) : ∀ (l m : List D), l.length = m.length → PyData.eqvAll (pyL l) (pyL m) = (List.zip l m).all fun p => eqD p.1 p.2
  | [], [], _ => by simp [pyL, PyData.eqvAll]
  | d :: ds, e :: es, h => by
    rw [pyL, pyL, PyData.eqvAll, eqvAll_map f ds es (by simpa using h)]
    rfl
  | [], _ :: _, h => by simp at h
  | _ :: _, [], h => by simp at h
theorem eqvAll_ne : ∀ (l m : List D), l.length ≠ m.length → PyData.eqvAll (pyL l) (pyL m) = false
  | [], [], h => by simp at h
  | d :: ds, e :: es, h => by
    rw [pyL, pyL, PyData.eqvAll, eqvAll_ne ds es (by simpa using h), Bool.and_false]
  | [], _ :: _, h => by rw [pyL, pyL, PyData.eqvAll]
  | _ :: _, [], h => by rw [pyL, pyL, PyData.eqvAll]
/-- trees of one type: == is equality -/
inductive Ty | int | str | lst (t : Ty) | tup (ts : List Ty)
def isTy : Ty → D → Prop
  | .int, d => ∃ i, d = .int i
  | .str, d => ∃ i, d = .str i
  | .lst t, d => ∃ l, d = .lst l ∧ ∀ x ∈ l, isTy t x
  | .tup _, d => False
theorem eqD_ty : ∀ (t : Ty) (d e : D), isTy t d → isTy t e → (eqD d e = true ↔ d = e)
  | .int, d, e, h, h' => by
    obtain ⟨i, rfl⟩ := h; obtain ⟨j, rfl⟩ := h'
    rw [eqD_int]; simp
  | .str, d, e, h, h' => by
    obtain ⟨i, rfl⟩ := h; obtain ⟨j, rfl⟩ := h'
    rw [eqD_str]; simp
  | .lst t, d, e, h, h' => by
    obtain ⟨l, rfl, hl⟩ := h; obtain ⟨m, rfl, hm⟩ := h'
    have key : eqD (.lst l) (.lst m) = PyData.eqvAll (pyL l) (pyL m) := by unfold eqD; rw [pyD, pyD, PyData.eqv]
    rw [key]
    have aux : ∀ (l m : List D), (∀ x ∈ l, isTy t x) → (∀ x ∈ m, isTy t x) → (PyData.eqvAll (pyL l) (pyL m) = true ↔ l = m) := by
      intro l
      induction l with
      | nil =>
        intro m _ _
        cases m with
        | nil => simp [pyL, PyData.eqvAll]
        | cons a m => simp [pyL, PyData.eqvAll]
      | cons a l ih =>
        intro m h1 h2
        cases m with
        | nil => simp [pyL, PyData.eqvAll]
        | cons b m =>
          rw [pyL, pyL, PyData.eqvAll, Bool.and_eq_true_iff, ih m (fun x hx => h1 x (List.mem_cons_of_mem _ hx)) (fun x hx => h2 x (List.mem_cons_of_mem _ hx))]
          have := eqD_ty t a b (h1 a List.mem_cons_self) (h2 b List.mem_cons_self)
          unfold eqD at this
          rw [this]
          simp
    rw [aux l m hl hm]
    simp
  | .tup _, d, e, h, _ => h.elim
theorem isTy_dI (ns : List Int) : isTy (.lst .int) (dI ns) := ⟨_, rfl, fun x hx => by
  obtain ⟨i, _, rfl⟩ := List.mem_map.mp hx
  exact ⟨i, rfl⟩⟩
theorem D.int_inj {i j : Int} (h : D.int i = D.int j) : i = j := D.int.inj h
theorem map_int_inj {a b : List Int} (h : a.map D.int = b.map D.int) : a = b := List.map_inj_right (fun _ _ h => D.int.inj h) |>.mp h
theorem dI_inj {a b : List Int} (h : dI a = dI b) : a = b := map_int_inj (D.lst.inj h)
theorem eqD_dI (a b : List Int) : eqD (dI a) (dI b) = decide (a = b) := by
  have := eqD_ty (.lst .int) (dI a) (dI b) (isTy_dI a) (isTy_dI b)
  by_cases e : a = b
  · subst e; rw [this.mpr rfl]; simp
  · rw [decide_eq_false e]
    cases q : eqD (dI a) (dI b) with
    | false => rfl
    | true => exact absurd (dI_inj (this.mp q)) e
abbrev dII (ns : List (List Int)) : D := .lst (ns.map dI)
theorem isTy_dII (ns : List (List Int)) : isTy (.lst (.lst .int)) (dII ns) := ⟨_, rfl, fun x hx => by
  obtain ⟨i, _, rfl⟩ := List.mem_map.mp hx
  exact isTy_dI i⟩
theorem dII_inj {a b : List (List Int)} (h : dII a = dII b) : a = b := List.map_inj_right (fun _ _ h => dI_inj h) |>.mp (D.lst.inj h)
theorem okD_dII (n : Nat) (ns : List (List Int)) : okD (n + 2) (dII ns) := okD_lst fun d hd => by
  obtain ⟨i, _, rfl⟩ := List.mem_map.mp hd
  exact okD_dI n i
theorem eqD_dII (a b : List (List Int)) : eqD (dII a) (dII b) = decide (a = b) := by
  have := eqD_ty (.lst (.lst .int)) (dII a) (dII b) (isTy_dII a) (isTy_dII b)
  by_cases e : a = b
  · subst e; rw [this.mpr rfl]; simp
  · rw [decide_eq_false e]
    cases q : eqD (dII a) (dII b) with
    | false => rfl
    | true => exact absurd (dII_inj (this.mp q)) e

/-! ### loops by invariants -/
theorem for_inv {T : Tg} {tb : SD} {E : En} {items : List D} {δ : DS} (I : List D → DS → Prop) (h0 : I [] δ)
    (hs : ∀ pre x post δ, items = pre ++ x :: post → I pre δ → ∀ N : DS → Prop, (∀ δ', I (pre ++ [x]) δ' → N δ') → gd T x δ fun δ1 => tb { nx := N, rt := E.rt, bk := E.nx, ct := N } δ1) (hd : ∀ δ, I items δ → E.nx δ) : forRun T tb E items δ := by
  have go : ∀ (post pre : List D) (δ : DS), items = pre ++ post → I pre δ → forRun T tb E post δ := by
    intro post
    induction post with
    | nil =>
      intro pre δ e h
      rw [List.append_nil] at e
      subst e
      exact hd δ h
    | cons x post ih =>
      intro pre δ e h
      exact hs pre x post δ e h _ fun δ' h' => ih (pre ++ [x]) δ' (by rw [e]; simp) h'
  exact go items [] δ rfl h0
/-- over a range -/
theorem for_rg {T : Tg} {tb : SD} {E : En} {lo : Int} {n : Nat} {δ : DS} (I : Nat → DS → Prop) (h0 : I 0 δ)
    (hs : ∀ i δ, i < n → I i δ → ∀ N : DS → Prop, (∀ δ', I (i + 1) δ' → N δ') → gd T (.int (lo + (i : Nat))) δ fun δ1 => tb { nx := N, rt := E.rt, bk := E.nx, ct := N } δ1) (hd : ∀ δ, I n δ → E.nx δ) : forRun T tb E (rgD lo n) δ := by
  refine for_inv (fun pre δ => I pre.length δ) h0 (fun pre x post δ e h N hN => ?_) (fun δ h => hd δ (by simpa [rgD] using h))
  have hl : pre.length < n := by
    have := congrArg List.length e
    simp [rgD] at this
    omega
  have hx : x = .int (lo + (pre.length : Nat)) := by
    have h1 : (rgD lo n)[pre.length]? = some x := by rw [e]; simp
    simp [rgD, List.getElem?_map, List.getElem?_range hl] at h1
    exact h1.symm
  subst hx
  exact hs pre.length δ hl h N fun δ' h' => hN δ' (by simpa using h')
/-- over ints -/
theorem for_ints {T : Tg} {tb : SD} {E : En} {ns : List Int} {δ : DS} (I : List Int → DS → Prop) (h0 : I [] δ)
    (hs : ∀ pre x post δ, ns = pre ++ x :: post → I pre δ → ∀ N : DS → Prop, (∀ δ', I (pre ++ [x]) δ' → N δ') → gd T (.int x) δ fun δ1 => tb { nx := N, rt := E.rt, bk := E.nx, ct := N } δ1) (hd : ∀ δ, I ns δ → E.nx δ) : forRun T tb E (ns.map D.int) δ := by
  have go : ∀ (post pre : List Int) (δ : DS), ns = pre ++ post → I pre δ → forRun T tb E (post.map D.int) δ := by
    intro post
    induction post with
    | nil =>
      intro pre δ e h
      rw [List.append_nil] at e
      subst e
      exact hd δ h
    | cons x post ih =>
      intro pre δ e h
      exact hs pre x post δ e h _ fun δ' h' => ih (pre ++ [x]) δ' (by rw [e]; simp) h'
  exact go ns [] δ rfl h0
/-- a comprehension whose items are told one by one -/
theorem lc_map {T : Tg} {c : TD} {elt : ED} {δ : DS} {Q : List D → Prop} (g : D → Option D) : ∀ (items acc : List D), acc.length + items.length ≤ sizeLine →
    (∀ x ∈ items, ∀ R : Option D → Prop, R (g x) → gd T x δ fun δ1 => c δ1 fun b => if b = true then elt δ1 fun y => R (some y) else R none) → Q (acc ++ items.filterMap g) → lcRun T c elt δ Q items acc
  | [], acc, _, _, q => by show Q acc; simpa using q
  | x :: xs, acc, hl, h, q => by
    simp only [List.length_cons] at hl
    refine h x List.mem_cons_self (fun o => match o with | some y => acc.length < sizeLine ∧ lcRun T c elt δ Q xs (acc ++ [y]) | none => lcRun T c elt δ Q xs acc) ?_
    cases e : g x with
    | none => exact lc_map g xs acc (by omega) (fun z hz => h z (List.mem_cons_of_mem _ hz)) (by simpa [List.filterMap_cons, e] using q)
    | some y => exact ⟨by omega, lc_map g xs (acc ++ [y]) (by simp; omega) (fun z hz => h z (List.mem_cons_of_mem _ hz)) (by simpa [List.filterMap_cons, e] using q)⟩
/-- .. of which something is known of each -/
theorem lc_any {T : Tg} {elt : ED} {δ : DS} {Q : List D → Prop} (S : D → Prop) : ∀ (items acc : List D), acc.length + items.length ≤ sizeLine →
    (∀ x ∈ items, ∀ R : D → Prop, (∀ y, S y → R y) → gd T x δ fun δ1 => elt δ1 R) → (∀ ys : List D, ys.length = items.length → (∀ y ∈ ys, S y) → Q (acc ++ ys)) → lcRun T tYesD elt δ Q items acc
  | [], acc, _, _, q => by show Q acc; simpa using q [] rfl (fun _ h => by simp at h)
  | x :: xs, acc, hl, h, q => by
    simp only [List.length_cons] at hl
    have := h x List.mem_cons_self (fun y => acc.length < sizeLine ∧ lcRun T tYesD elt δ Q xs (acc ++ [y])) fun y hy => ⟨by omega, lc_any S xs (acc ++ [y]) (by simp; omega) (fun z hz => h z (List.mem_cons_of_mem _ hz)) fun ys hl' hs => by
      have z := q (y :: ys) (by simp [hl']) fun w hw => by
        rcases List.mem_cons.mp hw with rfl | hw
        · exact hy
        · exact hs w hw
      simpa using z⟩
    exact this
end DL
namespace DL
open PySem PySem.Spec L2
open PyProof.Rows hiding St
theorem line_ge : 1000000 ≤ sizeLine := by rw [sizeLine_eq]; decide
/-- a comprehension over ints -/
theorem lc_mapI {T : Tg} {c : TD} {elt : ED} {δ : DS} {Q : List D → Prop} (g : Int → Option D) : ∀ (ns : List Int) (acc : List D), acc.length + ns.length ≤ sizeLine →
    (∀ x ∈ ns, ∀ R : Option D → Prop, R (g x) → gd T (.int x) δ fun δ1 => c δ1 fun b => if b = true then elt δ1 fun y => R (some y) else R none) → Q (acc ++ ns.filterMap g) → lcRun T c elt δ Q (ns.map D.int) acc
  | [], acc, _, _, q => by show Q acc; simpa using q
  | x :: xs, acc, hl, h, q => by
    simp only [List.length_cons] at hl
    refine h x List.mem_cons_self (fun o => match o with | some y => acc.length < sizeLine ∧ lcRun T c elt δ Q (xs.map D.int) (acc ++ [y]) | none => lcRun T c elt δ Q (xs.map D.int) acc) ?_
    cases e : g x with
    | none => exact lc_mapI g xs acc (by omega) (fun z hz => h z (List.mem_cons_of_mem _ hz)) (by simpa [List.filterMap_cons, e] using q)
    | some y => exact ⟨by omega, lc_mapI g xs (acc ++ [y]) (by simp; omega) (fun z hz => h z (List.mem_cons_of_mem _ hz)) (by simpa [List.filterMap_cons, e] using q)⟩
/-- .. each of which is kept and mapped to an int -/
theorem lc_II {T : Tg} {elt : ED} {δ : DS} {Q : List D → Prop} (g : Int → Int) (ns : List Int) (hl : ns.length ≤ 1000000)
    (h : ∀ x ∈ ns, ∀ R : D → Prop, R (.int (g x)) → gd T (.int x) δ fun δ1 => elt δ1 R) (q : Q ((ns.map g).map D.int)) : lcRun T tYesD elt δ Q (ns.map D.int) [] := by
  refine lc_mapI (fun x => some (.int (g x))) ns [] (by have := line_ge; simp; omega) (fun x hx R hR => ?_) ?_
  · exact h x hx (fun y => R (some y)) hR
  · have e : ∀ ns : List Int, ns.filterMap (fun x => some (D.int (g x))) = (ns.map g).map D.int := by
      intro ns
      induction ns with
      | nil => rfl
      | cons n ns ih => rw [List.filterMap_cons, ih]; rfl
    rw [e]; exact q
/-- .. filtered -/
theorem lc_filter {i : Nat} {c : TD} {δ : DS} {Q : List D → Prop} (p : Int → Bool) (ns : List Int) (hl : ns.length ≤ 1000000) (hi : i < δ.length)
    (h : ∀ x ∈ ns, ∀ R : Bool → Prop, R (p x) → c (δ.set i (some (.int x))) R) (q : Q ((ns.filter p).map D.int)) : lcRun (.one i) c (eVar i) δ Q (ns.map D.int) [] := by
  refine lc_mapI (fun x => if p x then some (.int x) else none) ns [] (by have := line_ge; simp; omega) (fun x hx R hR => ?_) ?_
  · refine h x hx _ ?_
    show if p x = true then eVar i (δ.set i (some (.int x))) (fun y => R (some y)) else R none
    by_cases c : p x = true
    · rw [if_pos c] at hR ⊢
      exact ⟨_, List.getElem?_set_self hi, hR⟩
    · rw [if_neg c] at hR ⊢
      exact hR
  · have e : ∀ ns : List Int, ns.filterMap (fun x => if p x then some (D.int x) else none) = (ns.filter p).map D.int := by
      intro ns
      induction ns with
      | nil => rfl
      | cons n ns ih =>
        rw [List.filterMap_cons, List.filter_cons, ih]
        cases p n <;> simp
    rw [e]; exact q
theorem atI_int {ns : List Int} {i : Int} (h0 : 0 ≤ i) (h1 : i < ns.length) : L2.atI (ns.map D.int) i = some (.int (ns[i.toNat]'(by omega))) := by
  have z : L2.atI (ns.map D.int) ((i.toNat : Nat) : Int) = some (.int (ns[i.toNat]'(by omega))) := atI_nat (by rw [List.getElem?_map, List.getElem?_eq_getElem (by omega)]; rfl)
  rwa [Int.toNat_of_nonneg h0] at z
theorem atI_L {α : Type} {ns : List α} {i : Int} (h0 : 0 ≤ i) (h1 : i < ns.length) : L2.atI ns i = some (ns[i.toNat]'(by omega)) := by
  have z : L2.atI ns ((i.toNat : Nat) : Int) = some (ns[i.toNat]'(by omega)) := atI_nat (List.getElem?_eq_getElem (by omega))
  rwa [Int.toNat_of_nonneg h0] at z
theorem ixN_of {n : Nat} {i : Int} (h0 : 0 ≤ i) (h1 : i < n) : ixN n i = some i.toNat := by unfold ixN; rw [if_pos h0, if_pos h1]
theorem cut_lo {α : Type} (xs : List α) (k : Nat) : cutL xs (some (k : Int)) none = xs.drop k := by
  unfold cutL
  rw [HT.sIx_nat, HT.sIx_none]
  by_cases h : k ≤ xs.length
  · rw [Nat.min_eq_left h]
    exact List.take_of_length_le (by simp)
  · rw [Nat.min_eq_right (by omega), List.drop_length, List.drop_eq_nil_of_le (by omega)]
    simp
theorem cut_hi {α : Type} (xs : List α) (k : Nat) : cutL xs none (some (k : Int)) = xs.take k := by
  unfold cutL
  rw [HT.sIx_nat, HT.sIx_none, List.drop_zero, Nat.sub_zero]
  by_cases h : k ≤ xs.length
  · rw [Nat.min_eq_left h]
  · rw [Nat.min_eq_right (by omega), List.take_length, List.take_of_length_le (by omega)]
theorem cut_lohi {α : Type} (xs : List α) (a b : Nat) : cutL xs (some (a : Int)) (some (b : Int)) = (xs.take b).drop a := by
  unfold cutL
  rw [HT.sIx_nat, HT.sIx_nat, List.drop_take]
  by_cases h : b ≤ xs.length
  · rw [Nat.min_eq_left h]
    by_cases h2 : a ≤ xs.length
    · rw [Nat.min_eq_left h2]
    · rw [Nat.min_eq_right (by omega), List.drop_length, List.drop_eq_nil_of_le (by omega)]; simp
  · rw [Nat.min_eq_right (by omega)]
    by_cases h2 : a ≤ xs.length
    · rw [Nat.min_eq_left h2]
      rw [List.take_of_length_le (by simp), List.take_of_length_le (by simp; omega)]
    · rw [Nat.min_eq_right (by omega), List.drop_length, List.drop_eq_nil_of_le (by omega)]; simp
theorem cut_map {α β : Type} (f : α → β) (xs : List α) (a b : Option Int) : cutL (xs.map f) a b = (cutL xs a b).map f := by
  unfold cutL
  rw [List.length_map, List.map_take, List.map_drop]
end DL
end

/-! part: S1 -/
section
set_option linter.all false
set_option maxRecDepth 100000
namespace DL
open PySem PySem.Spec L2
open PyProof.Rows hiding St
/-! ### 18. helpers of the laws -/
mutual
def sameB : D → D → Bool
  | .lst l, .lst m => sameL l m
  | .tup l, .tup m => sameL l m
  | .non, .non => true
  | .bl a, .bl b => a == b
  | .int a, .int b => a == b
  | .str a, .str b => a == b
  | _, _ => false
def sameL : List D → List D → Bool
  | [], [] => true
  | a :: l, b :: m => sameB a b && sameL l m
  | _, _ => false
end
theorem sameL_len : ∀ {l m : List D}, sameL l m = true → l.length = m.length
  | [], [], _ => rfl
  | a :: l, b :: m, h => by
    rw [sameL, Bool.and_eq_true_iff] at h
    simp [sameL_len h.2]
  | [], _ :: _, h => by simp [sameL] at h
  | _ :: _, [], h => by simp [sameL] at h
mutual
theorem sameB_eq : ∀ {a b : D}, sameB a b = true → a = b
  | .lst l, .lst m, h => by rw [sameB] at h; rw [sameL_eq h]
  | .tup l, .tup m, h => by rw [sameB] at h; rw [sameL_eq h]
  | .non, .non, _ => rfl
  | .bl a, .bl b, h => by rw [sameB] at h; rw [beq_iff_eq.mp h]
  | .int a, .int b, h => by rw [sameB] at h; rw [beq_iff_eq.mp h]
  | .str a, .str b, h => by rw [sameB] at h; rw [beq_iff_eq.mp h]
  | .fd, b, h => by cases b <;> simp [sameB] at h
  | .ob _ _ _ _, b, h => by cases b <;> simp [sameB] at h
  | .dct _, b, h => by cases b <;> simp [sameB] at h
  | .non, .bl _, h | .non, .int _, h | .non, .str _, h | .non, .fd, h | .non, .lst _, h | .non, .tup _, h | .non, .dct _, h | .non, .ob _ _ _ _, h => by simp [sameB] at h
  | .bl _, .non, h | .bl _, .int _, h | .bl _, .str _, h | .bl _, .fd, h | .bl _, .lst _, h | .bl _, .tup _, h | .bl _, .dct _, h | .bl _, .ob _ _ _ _, h => by simp [sameB] at h
  | .int _, .non, h | .int _, .bl _, h | .int _, .str _, h | .int _, .fd, h | .int _, .lst _, h | .int _, .tup _, h | .int _, .dct _, h | .int _, .ob _ _ _ _, h => by simp [sameB] at h
  | .str _, .non, h | .str _, .bl _, h | .str _, .int _, h | .str _, .fd, h | .str _, .lst _, h | .str _, .tup _, h | .str _, .dct _, h | .str _, .ob _ _ _ _, h => by simp [sameB] at h
  | .lst _, .non, h | .lst _, .bl _, h | .lst _, .int _, h | .lst _, .str _, h | .lst _, .fd, h | .lst _, .tup _, h | .lst _, .dct _, h | .lst _, .ob _ _ _ _, h => by simp [sameB] at h
  | .tup _, .non, h | .tup _, .bl _, h | .tup _, .int _, h | .tup _, .str _, h | .tup _, .fd, h | .tup _, .lst _, h | .tup _, .dct _, h | .tup _, .ob _ _ _ _, h => by simp [sameB] at h
theorem sameL_eq : ∀ {a b : List D}, sameL a b = true → a = b
  | [], [], _ => rfl
  | a :: l, b :: m, h => by
    rw [sameL, Bool.and_eq_true_iff] at h
    rw [sameB_eq h.1, sameL_eq h.2]
  | [], _ :: _, h => by simp [sameL] at h
  | _ :: _, [], h => by simp [sameL] at h
end
mutual
theorem sameB_refl : ∀ {a : D}, (pyD a).canLay0 = true → sameB a a = true
  | .lst l, h => by rw [sameB]; rw [pyD, PyData.canLay0] at h; exact sameL_refl h
  | .tup l, h => by rw [sameB]; rw [pyD, PyData.canLay0] at h; exact sameL_refl h
  | .non, _ => rfl
  | .bl a, _ => by simp [sameB]
  | .int a, _ => by simp [sameB]
  | .str a, _ => by simp [sameB]
  | .fd, h => by simp [pyD, PyData.canLay0] at h
  | .ob _ _ _ _, h => by simp [pyD, PyData.canLay0] at h
  | .dct _, h => by simp [pyD, PyData.canLay0] at h
theorem sameL_refl : ∀ {a : List D}, PyData.canLayAll0 (pyL a) = true → sameL a a = true
  | [], _ => rfl
  | a :: l, h => by
    rw [pyL, PyData.canLayAll0, Bool.and_eq_true_iff] at h
    rw [sameL, sameB_refl h.1, sameL_refl h.2]; rfl
end
theorem sameB_true {a b : D} {n : Nat} (h : okD n b) (e : a = b) : sameB a b = true := by subst e; exact sameB_refl h.1
theorem sameB_iff {a b : D} {n : Nat} (h : okD n b) : sameB a b = true ↔ a = b := ⟨sameB_eq, fun e => sameB_true h e⟩
mutual
def wdD : D → Bool
  | .lst l => decide (l.length ≤ 1000000) && wdL l
  | .tup l => decide (l.length ≤ 1000000) && wdL l
  | _ => true
def wdL : List D → Bool
  | [] => true
  | d :: ds => wdD d && wdL ds
end
theorem wdL_iff : ∀ {l : List D}, wdL l = true ↔ ∀ d ∈ l, wdD d = true
  | [] => by simp [wdL]
  | d :: ds => by rw [wdL, Bool.and_eq_true_iff, wdL_iff (l := ds)]; simp
/-- .. and no list in it is long -/
def okW (n : Nat) (d : D) : Prop := okD n d ∧ wdD d = true
theorem okW_int (n : Nat) (i : Int) : okW n (.int i) := ⟨okD_int n i, rfl⟩
theorem okW_bl (n : Nat) (i : Bool) : okW n (.bl i) := ⟨okD_bl n i, rfl⟩
theorem okW_non (n : Nat) : okW n .non := ⟨okD_non n, rfl⟩
theorem okW_str (n : Nat) (x : Str) (h : PyData.strOk x = true) : okW n (.str x) := ⟨okD_str n x h, rfl⟩
theorem okW_lst {n : Nat} {l : List D} (hl : l.length ≤ 1000000) (h : ∀ d ∈ l, okW n d) : okW (n + 1) (.lst l) := ⟨okD_lst fun d hd => (h d hd).1, by rw [wdD, wdL_iff.mpr fun d hd => (h d hd).2, decide_eq_true hl]; rfl⟩
theorem okW_tup {n : Nat} {l : List D} (hl : l.length ≤ 1000000) (h : ∀ d ∈ l, okW n d) : okW (n + 1) (.tup l) := ⟨okD_tup fun d hd => (h d hd).1, by rw [wdD, wdL_iff.mpr fun d hd => (h d hd).2, decide_eq_true hl]; rfl⟩
theorem okW_lst_inv {n : Nat} {l : List D} (h : okW (n + 1) (.lst l)) : l.length ≤ 1000000 ∧ ∀ d ∈ l, okW n d := by
  have := h.2
  rw [wdD, Bool.and_eq_true_iff, wdL_iff] at this
  exact ⟨of_decide_eq_true this.1, fun d hd => ⟨okD_lst_inv h.1 d hd, this.2 d hd⟩⟩
theorem okW_tup_inv {n : Nat} {l : List D} (h : okW (n + 1) (.tup l)) : l.length ≤ 1000000 ∧ ∀ d ∈ l, okW n d := by
  have := h.2
  rw [wdD, Bool.and_eq_true_iff, wdL_iff] at this
  exact ⟨of_decide_eq_true this.1, fun d hd => ⟨okD_tup_inv h.1 d hd, this.2 d hd⟩⟩
theorem okW_dI (n : Nat) (ns : List Int) (h : ns.length ≤ 1000000) : okW (n + 1) (dI ns) := okW_lst (by rwa [List.length_map]) fun d hd => by
  obtain ⟨i, _, rfl⟩ := List.mem_map.mp hd
  exact okW_int n i
/-- _law_same(actual, due), due at most n deep -/
def f_same (n : Nat) : Fn := fun ds Q => ∃ a d, ds = [a, d] ∧ okD 60 a ∧ okW n d ∧ Q (.bl (sameB a d))
theorem m_f_same {n : Nat} : MonoF (f_same n) := fun ds Q Q' h ⟨a, d, e, h1, h2, q⟩ => ⟨a, d, e, h1, h2, h _ q⟩
theorem ff_f_same {n : Nat} : ∀ ds (Q : D → Prop), f_same n ds Q → f_same n ds fun d => d.flat ∧ Q d := fun ds Q ⟨a, d, e, h1, h2, q⟩ => ⟨a, d, e, h1, h2, trivial, q⟩
def f_false : Fn := fun _ _ => False
theorem m_f_false : MonoF f_false := fun _ _ _ _ h => h
theorem ff_f_false : ∀ ds (Q : D → Prop), f_false ds Q → f_false ds fun d => d.flat ∧ Q d := fun _ _ h => h
/-- the levels of _law_same -/
def f_sameL : Nat → Fn
  | 0 => f_false
  | n + 1 => f_same n
theorem m_f_sameL : ∀ {n : Nat}, MonoF (f_sameL n)
  | 0 => m_f_false
  | n + 1 => m_f_same
theorem ff_f_sameL : ∀ {n : Nat}, ∀ ds (Q : D → Prop), f_sameL n ds Q → f_sameL n ds fun d => d.flat ∧ Q d
  | 0 => ff_f_false
  | n + 1 => ff_f_same
theorem has_false {P : Program} {w : World} {K : PySem.W.Frag} {mg : Str → Option Value} {base : Heap} {x : Str} {st : Stmt} {ps : List Str} {n : Nat} {κ : Kd} (h : FnAt K mg x st ps) : FnHas P w K mg base 0 x n κ f_false := by
  obtain ⟨f, fd, hm, F, hb⟩ := h.ex
  exact ⟨f, fd, ps, hm, F.kp, hb, ⟨fun vs H Q E ⟨_, _, _, _, _, _, z⟩ => z.elim, fun _ _ _ _ _ _ _ _ _ _ _ _ _ ⟨_, _, _, _, _, _, z⟩ => z.elim⟩⟩
/-- _law_row(feed, size): a row of that size -/
def f_row : Fn := fun ds Q => ∃ n : Int, ds = [.fd, .int n] ∧ 0 ≤ n ∧ n ≤ 100000 ∧ ∀ row : List Int, (row.length : Int) = n → (∀ j ∈ row, 1 ≤ j ∧ j ≤ 9) → Q (dI row)
theorem m_f_row : MonoF f_row := fun ds Q Q' h ⟨n, a, b, c, q⟩ => ⟨n, a, b, c, fun r h0 h1 => h _ (q r h0 h1)⟩
end DL
end

/-! part: F1 -/
section
set_option Elab.async false
set_option linter.all false
set_option maxRecDepth 100000
set_option maxHeartbeats 2000000
namespace DL
open PySem PySem.Spec L2
open PyProof.Rows hiding St
/-! ### 23. filling shelves -/
theorem snocInd {α : Type} {P : List α → Prop} (h0 : P []) (h1 : ∀ l a, P l → P (l ++ [a])) (l : List α) : P l := by
  have : ∀ r : List α, P r.reverse := by
    intro r
    induction r with
    | nil => exact h0
    | cons a r ih => rw [List.reverse_cons]; exact h1 _ _ ih
  have z := this l.reverse
  rwa [List.reverse_reverse] at z
theorem nodup_idx {cs : List Addr} (nd : cs.Nodup) {i k : Nat} {c : Addr} (h1 : cs[i]? = some c) (h2 : cs[k]? = some c) : i = k := by
  obtain ⟨a, b⟩ := List.getElem?_eq_some_iff.mp h1
  obtain ⟨a', b'⟩ := List.getElem?_eq_some_iff.mp h2
  have e1 := nd.idxOf_getElem i a
  have e2 := nd.idxOf_getElem k a'
  rw [b] at e1
  rw [b'] at e2
  omega
def placeL (s : List Int) (j : Int) : Nat := s.findIdx fun o => decide (o > j)
theorem placeL_le (s : List Int) (j : Int) : placeL s j ≤ s.length := List.findIdx_le_length
def putL : List (List Int) → Int → List (List Int) × (Nat × Nat)
  | [], j => ([[j]], (0, 0))
  | s :: ss, j => if h : placeL s j < s.length then
      let r := putL ss s[placeL s j]
      (s.set (placeL s j) j :: r.1, (r.2.1 + 1, r.2.2))
    else ((s ++ [j]) :: ss, (0, placeL s j))
theorem putL_go {s : List Int} {ss : List (List Int)} {j : Int} (h : placeL s j < s.length) : putL (s :: ss) j = (s.set (placeL s j) j :: (putL ss s[placeL s j]).1, ((putL ss s[placeL s j]).2.1 + 1, (putL ss s[placeL s j]).2.2)) := by
  rw [putL, dif_pos h]
theorem putL_end {s : List Int} {ss : List (List Int)} {j : Int} (h : ¬ placeL s j < s.length) : putL (s :: ss) j = ((s ++ [j]) :: ss, (0, placeL s j)) := by
  rw [putL, dif_neg h]
def fillL (row : List Int) : List (List Int) := row.foldl (fun ss j => (putL ss j).1) []
def recStep (st : List (List Int) × List (List Int)) (p : Int × Nat) : List (List Int) × List (List Int) :=
  let r := putL st.1 p.1
  let rec' := if r.2.1 = st.2.length then st.2 ++ [[]] else st.2
  (r.1, rec'.set r.2.1 (rec'.getD r.2.1 [] ++ [((p.2 : Int) + 1)]))
def fillRec (row : List Int) : List (List Int) × List (List Int) := (row.zipIdx).foldl recStep ([], [])
def recL (row : List Int) : List (List Int) := (fillRec row).2
theorem fillRec_append (l : List Int) (j : Int) : fillRec (l ++ [j]) = recStep (fillRec l) (j, l.length) := by
  unfold fillRec
  rw [List.zipIdx_append, List.foldl_append]
  simp
theorem fillL_append (l : List Int) (j : Int) : fillL (l ++ [j]) = (putL (fillL l) j).1 := by
  unfold fillL; rw [List.foldl_append]; rfl
theorem fillRec_fst : ∀ row, (fillRec row).1 = fillL row := by
  intro row
  refine snocInd (P := fun row => (fillRec row).1 = fillL row) rfl (fun l j ih => ?_) row
  rw [fillRec_append, fillL_append, ← ih]; rfl
/-- which shelf: one of them, or the next -/
theorem putL_num : ∀ (ss : List (List Int)) (j : Int), (putL ss j).2.1 ≤ ss.length
  | [], j => Nat.le_refl _
  | s :: ss, j => by
    unfold putL
    by_cases h : placeL s j < s.length
    · rw [dif_pos h]; exact Nat.succ_le_succ (putL_num ss _)
    · rw [dif_neg h]; exact Nat.zero_le _
theorem putL_len : ∀ (ss : List (List Int)) (j : Int), (putL ss j).1.length = if (putL ss j).2.1 = ss.length then ss.length + 1 else ss.length
  | [], j => rfl
  | s :: ss, j => by
    unfold putL
    by_cases h : placeL s j < s.length
    · rw [dif_pos h]
      simp only [List.length_cons]
      rw [putL_len ss]
      by_cases e : (putL ss s[placeL s j]).2.1 = ss.length
      · rw [if_pos e, if_pos (by omega)]
      · rw [if_neg e, if_neg (by omega)]
    · rw [dif_neg h]
      simp
theorem fillRec_len : ∀ row, (recL row).length = (fillL row).length := by
  intro row
  refine snocInd (P := fun row => (recL row).length = (fillL row).length) rfl (fun l j ih => ?_) row
  unfold recL at ih ⊢
  rw [fillRec_append, fillL_append]
  unfold recStep
  rw [fillRec_fst]
  show (List.set _ _ _).length = _
  rw [List.length_set, putL_len]
  rw [ih]
  by_cases e : (putL (fillL l) j).2.1 = (fillL l).length
  · rw [if_pos e, if_pos e]; simp [ih]
  · rw [if_neg e, if_neg e]; exact ih
/-- how many jars -/
def sumL (ss : List (List Int)) : Nat := (ss.map List.length).sum
theorem putL_sum : ∀ (ss : List (List Int)) (j : Int), sumL (putL ss j).1 = sumL ss + 1
  | [], j => rfl
  | s :: ss, j => by
    unfold putL
    by_cases h : placeL s j < s.length
    · rw [dif_pos h]
      have := putL_sum ss s[placeL s j]
      simp [sumL] at this ⊢
      omega
    · rw [dif_neg h]
      simp [sumL]
      omega
theorem fillL_sum (row : List Int) : sumL (fillL row) = row.length := by
  refine snocInd (P := fun row => sumL (fillL row) = row.length) rfl (fun l j ih => ?_) row
  rw [fillL_append, putL_sum, ih]; simp
/-! in the heap -/
def IL (H : Hp) (c : Addr) (ns : List Int) : Prop := H c = some (.lst (ns.map V.int))
structure LL (H0 H : Hp) (a : Addr) (cs : List Addr) (Ns : List (List Int)) : Prop where
  top : H a = some (.lst (cs.map V.ref))
  len : cs.length = Ns.length
  sub : ∀ (i : Nat) (c : Addr) (ns : List Int), cs[i]? = some c → Ns[i]? = some ns → IL H c ns
  new : ∀ c ∈ a :: cs, H0 c = none
  nd : (a :: cs).Nodup
theorem LL.keep {H0 H H' : Hp} {a : Addr} {cs : List Addr} {Ns : List (List Int)} (l : LL H0 H a cs Ns) (k : ∀ b ∈ a :: cs, ∀ o, H b = some o → H' b = some o) : LL H0 H' a cs Ns :=
  ⟨k a List.mem_cons_self _ l.top, l.len, fun i c ns h1 h2 => k c (List.mem_cons_of_mem _ (List.mem_of_getElem? h1)) _ (l.sub i c ns h1 h2), l.new, l.nd⟩
theorem LL.since {H0 H1 H : Hp} {a : Addr} {cs : List Addr} {Ns : List (List Int)} (l : LL H1 H a cs Ns) (s : Same H0 H1) : LL H0 H a cs Ns :=
  ⟨l.top, l.len, l.sub, fun c h => s.free (l.new c h), l.nd⟩
/-- one of the lists is changed -/
theorem LL.set {H0 H : Hp} {a : Addr} {cs : List Addr} {Ns : List (List Int)} (l : LL H0 H a cs Ns) {i : Nat} {c : Addr} (hc : cs[i]? = some c) (ns : List Int) : LL H0 (upd H c (.lst (ns.map V.int))) a cs (Ns.set i ns) := by
  have hm := List.mem_of_getElem? hc
  have hac : a ≠ c := fun z => (List.nodup_cons.mp l.nd).1 (z ▸ hm)
  refine ⟨by rw [upd_ne hac]; exact l.top, by rw [List.length_set]; exact l.len, fun k d ms h1 h2 => ?_, l.new, l.nd⟩
  by_cases hk : i = k
  · subst hk
    rw [hc] at h1; cases h1
    rw [List.getElem?_set_self (by rw [← l.len]; exact (List.getElem?_eq_some_iff.mp hc).1)] at h2
    cases h2
    exact upd_same
  · rw [List.getElem?_set_ne hk] at h2
    have : d ≠ c := fun z => by
      subst z
      obtain ⟨h3, h4⟩ := List.getElem?_eq_some_iff.mp hc
      obtain ⟨h5, h6⟩ := List.getElem?_eq_some_iff.mp h1
      exact hk (nodup_idx (List.nodup_cons.mp l.nd).2 hc h1)
    show upd H c _ d = _
    rw [upd_ne this]
    exact l.sub k d ms h1 h2
/-- a new list comes behind -/
theorem LL.push {H0 H : Hp} {a c : Addr} {cs : List Addr} {Ns : List (List Int)} (l : LL H0 H a cs Ns) (ns : List Int) (h0 : H0 c = none) (hc : H c = some (.lst (ns.map V.int))) (hf : c ∉ a :: cs) : LL H0 (upd H a (.lst ((cs ++ [c]).map V.ref))) a (cs ++ [c]) (Ns ++ [ns]) := by
  have hac : c ≠ a := fun z => hf (z ▸ List.mem_cons_self)
  refine ⟨upd_same, by simp [l.len], fun i d ms h1 h2 => ?_, fun d h => ?_, ?_⟩
  · by_cases hi : i < cs.length
    · rw [List.getElem?_append_left hi] at h1
      rw [List.getElem?_append_left (by rw [← l.len]; exact hi)] at h2
      have hd : d ≠ a := fun z => (List.nodup_cons.mp l.nd).1 (z ▸ List.mem_of_getElem? h1)
      show upd H a _ d = _
      rw [upd_ne hd]
      exact l.sub i d ms h1 h2
    · rw [List.getElem?_append_right (by omega)] at h1
      rw [List.getElem?_append_right (by rw [← l.len]; omega), ← l.len] at h2
      have : i - cs.length = 0 := by
        have := (List.getElem?_eq_some_iff.mp h1).1
        simp at this; omega
      rw [this] at h1 h2
      cases h1; cases h2
      show upd H a _ c = _
      rw [upd_ne hac]; exact hc
  · rcases List.mem_cons.mp h with rfl | h
    · exact l.new _ List.mem_cons_self
    · rcases List.mem_append.mp h with h | h
      · exact l.new d (List.mem_cons_of_mem _ h)
      · rw [List.mem_singleton.mp h]; exact h0
  · have h1 := List.nodup_cons.mp l.nd
    rw [List.nodup_cons]
    refine ⟨fun h => ?_, List.nodup_append.mpr ⟨h1.2, by simp, fun x hx y hy e => ?_⟩⟩
    · rcases List.mem_append.mp h with h | h
      · exact h1.1 h
      · exact hac (List.mem_singleton.mp h).symm
    · rw [List.mem_singleton.mp hy] at e
      exact hf (List.mem_cons_of_mem _ (e ▸ hx))
theorem dII_get {Ns : List (List Int)} {i : Nat} {d : D} (h : (Ns.map dI)[i]? = some d) : ∃ ns, Ns[i]? = some ns ∧ d = dI ns := by
  rw [List.getElem?_map] at h
  cases e : Ns[i]? with
  | none => rw [e] at h; cases h
  | some ns => rw [e] at h; exact ⟨ns, rfl, (Option.some.inj h).symm⟩
theorem ref_get {cs : List Addr} {i : Nat} {v : V} (h : (cs.map V.ref)[i]? = some v) : ∃ c, cs[i]? = some c ∧ v = .ref c := by
  rw [List.getElem?_map] at h
  cases e : cs[i]? with
  | none => rw [e] at h; cases h
  | some ns => rw [e] at h; exact ⟨ns, rfl, (Option.some.inj h).symm⟩
theorem int_get {ns : List Int} {i : Nat} {v : V} {d : D} (h1 : (ns.map V.int)[i]? = some v) (h2 : (ns.map D.int)[i]? = some d) : ∃ n, v = .int n ∧ d = .int n := by
  rw [List.getElem?_map] at h1 h2
  cases e : ns[i]? with
  | none => rw [e] at h1; cases h1
  | some n => rw [e] at h1 h2; exact ⟨n, (Option.some.inj h1).symm, (Option.some.inj h2).symm⟩
/-- two levels of one's own -/
theorem LL.un {p : Pf} {F H0 H G : Hp} {a : Addr} {cs : List Addr} {Ns : List (List Int)} (l : LL H0 H a cs Ns) (g : ∀ c ∈ a :: cs, ∀ o, H c = some o → G c = some o) : Un p F G 2 (.ref a) (dII Ns) := by
  refine .lst (g a List.mem_cons_self _ l.top) (by simp [l.len]) fun i v d h1 h2 => ?_
  obtain ⟨c, hc, rfl⟩ := ref_get h1
  obtain ⟨ns, hn, rfl⟩ := dII_get h2
  refine Un.lst (vs := ns.map V.int) (ds := ns.map D.int) (g c (List.mem_cons_of_mem _ (List.mem_of_getElem? hc)) _ (l.sub i c ns hc hn)) (by simp) fun k v d h1 h2 => ?_
  obtain ⟨n, rfl, rfl⟩ := int_get h1 h2
  exact .zero (.int n)
/-- the part of the heap that stands at these -/
def atL (H : Hp) (l : List Addr) : Hp := fun a => if a ∈ l then H a else none
theorem atL_in {H : Hp} {l : List Addr} {a : Addr} {o : HO} (h : a ∈ l) (e : H a = some o) : atL H l a = some o := by unfold atL; rw [if_pos h]; exact e
theorem atL_out {H : Hp} {l : List Addr} {a : Addr} {o : HO} (e : atL H l a = some o) : a ∈ l ∧ H a = some o := by
  unfold atL at e
  split at e
  · exact ⟨by assumption, e⟩
  · cases e
/-- what is laid beside, nothing else changed -/
theorem ext_of {p : Pf} {F H H' : Hp} (f : Fr p F H) (s : Same H H') : Ext p F H F H' :=
  ⟨Same.refl _, fun a o e _ => s a o e, fun _ _ _ e => e, fun a o e => s a o (f.fh a o e), fun a b e => by
    obtain ⟨out, ns, i, c, r, h, q⟩ := f.fd a b e
    exact ⟨out, ns, i, c, r, s _ _ h, q⟩⟩
theorem LL.rv {p : Pf} {F H0 H : Hp} {a : Addr} {cs : List Addr} {Ns : List (List Int)} (f : Fr p F H0) (l : LL H0 H a cs Ns) : Rv (.dp 2) p H0 F H (.ref a) (dII Ns) :=
  ⟨atL H (a :: cs), fun b o e => (atL_out e).2, fun b o e => ⟨f.ne_none (l.new b (atL_out e).1), l.new b (atL_out e).1, f.fh.free (l.new b (atL_out e).1)⟩, l.un fun c hc o e => atL_in hc e⟩
/-- what is read of a list of lists of ints -/
structure LR (H : Hp) (a : Addr) (bs : List Addr) (Ns : List (List Int)) : Prop where
  top : H a = some (.lst (bs.map V.ref))
  len : bs.length = Ns.length
  sub : ∀ (i : Nat) (c : Addr) (ns : List Int), bs[i]? = some c → Ns[i]? = some ns → IL H c ns
theorem LL.lr {H0 H : Hp} {a : Addr} {cs : List Addr} {Ns : List (List Int)} (l : LL H0 H a cs Ns) : LR H a cs Ns := ⟨l.top, l.len, l.sub⟩
theorem LR.keep {H H' : Hp} {a : Addr} {cs : List Addr} {Ns : List (List Int)} (l : LR H a cs Ns) (s : Same H H') : LR H' a cs Ns := ⟨s _ _ l.top, l.len, fun i c ns h1 h2 => s _ _ (l.sub i c ns h1 h2)⟩
end DL
end

/-! part: F2 -/
section
set_option Elab.async false
set_option linter.all false
set_option maxRecDepth 100000
set_option maxHeartbeats 2000000
namespace DL
open PySem PySem.Spec L2
open PyProof.Rows hiding St
theorem for_enum {K : PySem.W.Frag} {a : Addr} {xs : List V} {g : TG} {tb : TS} {D : Ends} {σ : St} {H : Hp} (Pv : Nat → St → Hp → Prop) (h0 : Pv 0 σ H) (hl : ∀ i σ H, i ≤ xs.length → Pv i σ H → SqL K H a xs)
    (hs : ∀ i x σ H T, xs[i]? = some x → Pv i σ H → H T = none → g (.ref T) σ (upd H T (.tup [.int (i : Nat), x])) fun σ2 H2 => tb { D with nx := Pv (i + 1), ct := Pv (i + 1), bk := D.nx } σ2 H2) (hd : ∀ σ H, Pv xs.length σ H → D.nx σ H) :
    ∃ W : Nat → Nat → St → Hp → Prop, (∃ m, W 0 m σ H) ∧ ∀ i m σ H, W i m σ H →
      ((Ite K a).stop i H ∧ D.nx σ H) ∨ ((Ite K a).go i H ∧ ∃ N : St → Hp → Prop, (∀ σ' H', N σ' H' → ∃ m', m' < m ∧ W (i + 1) m' σ' H') ∧ ∀ x H', (Ite K a).yld i H x H' → g x σ H' fun σ2 H2 => tb { D with nx := N, ct := N, bk := D.nx } σ2 H2) := by
  refine ⟨fun i m σ H => m = xs.length - i ∧ i ≤ xs.length ∧ Pv i σ H, ⟨xs.length, by simp, Nat.zero_le _, h0⟩, ?_⟩
  rintro i m σ H ⟨rfl, hi, p⟩
  have q := hl i σ H hi p
  by_cases hlt : i < xs.length
  · refine .inr ⟨⟨xs, xs[i], q, by simp [hlt]⟩, Pv (i + 1), fun σ' H' p' => ⟨xs.length - (i + 1), by omega, rfl, hlt, p'⟩, fun x H' y => ?_⟩
    obtain ⟨T, z, rfl, hT, rfl, y⟩ := y
    exact hs i z σ H T (y xs q) p hT
  · have e : i = xs.length := by omega
    subst e
    exact .inl ⟨⟨xs, q, Nat.le_refl _⟩, hd σ H p⟩
/-- place_for(shelf, jar) -/
def f_place_for : Fn := fun ds Q => ∃ (ns : List Int) (j : Int), ds = [dI ns, .int j] ∧ ns.length ≤ 1000000 ∧ Q (.int (placeL ns j : Nat))
theorem m_f_place_for : MonoF f_place_for := fun ds Q Q' h ⟨n, j, a, b, q⟩ => ⟨n, j, a, b, h _ q⟩
theorem ff_f_place_for : ∀ ds (Q : D → Prop), f_place_for ds Q → f_place_for ds fun d => d.flat ∧ Q d := fun ds Q ⟨n, j, a, b, q⟩ => ⟨n, j, a, b, trivial, q⟩
theorem fr_none {F H : Hp} (h : Same F H) : Fr none F H := ⟨h, fun a b e => nomatch e⟩
theorem ext_none {F H F' H' : Hp} (x : Ext none F H F' H') : Same H H' := fun a o e => x.hh a o e fun b z => nomatch z
theorem rd_place {c : Addr} {ns : List Int} {j : Int} {H : Hp} {Q : VK} {E : XK} (h : IL H c ns) (hl : ns.length ≤ 1000000) (q : ∀ H', Same H H' → Q (.int (placeL ns j : Nat)) H') : spD .fz 2 f_place_for [.ref c, .int j] H Q E := by
  refine ⟨none, one_ c (.lst (ns.map V.int)), [dI ns, .int j], fr_none fun a o e => by obtain ⟨rfl, rfl⟩ := one_only e; exact h, .cons (Rp.lst' one_at RpL.of_ints) (.one (.int j)), rfl, ns, j, rfl, hl, fun F' H' v x r => ?_⟩
  cases Rv.int (κ := .fz) r
  exact q H' (ext_none x)
/-- what put_in keeps -/
def spPut : Sp := fun vs H Q _ => ∃ (s : Addr) (j : Int) (bs : List Addr) (Ns : List (List Int)), vs = [.ref s, .int j] ∧ LR H s bs Ns ∧ Ns.length ≤ 1000 ∧ (∀ ns ∈ Ns, ns.length ≤ 1000) ∧
  ∀ H' a cs t1 t2, Same H H' → LL H H' a cs (putL Ns j).1 → H' t1 = some (.tup [.ref a, .ref t2]) → H' t2 = some (.tup [.int ((putL Ns j).2.1 : Nat), .int ((putL Ns j).2.2 : Nat)]) → Q (.ref t1) H'
def rListOf (K : PySem.W.Frag) : List V → Hp → VK → Prop := fun xs H Q => ∃ (p : Addr) (ys : List V), xs = [V.ref p] ∧ (SqL K H p ys ∨ SqT K H p ys) ∧ ∀ l, H l = none → Q (V.ref l) (upd H l (.lst ys))
def teCopy (K : PySem.W.Frag) (i : Nat) : TE := fun σ H Q => tCons (tVar i) tNil σ H fun xs H1 => rListOf K xs H1 Q
/-- while list by list is copied -/
structure Cp (H H' : Hp) (a : Addr) (cs : List Addr) (Ns : List (List Int)) : Prop where
  top : H' a = some (.lst (cs.map V.ref))
  sub : ∀ (k : Nat) (c : Addr) (ns : List Int), cs[k]? = some c → Ns[k]? = some ns → IL H' c ns
  same : Same H H'
  new : ∀ c ∈ a :: cs, H c = none
  nd : (a :: cs).Nodup
theorem Cp.start {H : Hp} {a : Addr} {Ns : List (List Int)} (h : H a = none) : Cp H (upd H a (.lst [])) a [] Ns :=
  ⟨upd_same, fun k c ns e => by simp at e, fun b o e => by rw [upd_ne (ne_of_none e h)]; exact e, fun c hc => by rw [List.mem_singleton.mp hc]; exact h, by simp⟩
theorem Cp.step {H H' : Hp} {a l : Addr} {cs : List Addr} {Ns : List (List Int)} (p : Cp H H' a cs Ns) {ns : List Int} (hn : Ns[cs.length]? = some ns) (hl : H' l = none) :
    Cp H (upd (upd H' l (.lst (ns.map V.int))) a (.lst ((cs ++ [l]).map V.ref))) a (cs ++ [l]) Ns := by
  have hla : l ≠ a := fun z => by rw [z, p.top] at hl; cases hl
  have hlc : ∀ c ∈ cs, c < 0 ∨ True := fun _ _ => .inr trivial
  have hlm : l ∉ cs := fun hm => by
    obtain ⟨k, hk, e⟩ := List.getElem_of_mem hm
    have hN : k < Ns.length := by
      have := (List.getElem?_eq_some_iff.mp hn).1
      omega
    have := p.sub k l Ns[k] (by rw [List.getElem?_eq_getElem hk, e]) (List.getElem?_eq_getElem hN)
    have h2 : H' l = some (.lst (Ns[k].map V.int)) := this
    rw [hl] at h2; cases h2
  have ha0 : H a = none := p.new a List.mem_cons_self
  refine ⟨upd_same, fun k c ms h1 h2 => ?_, fun b o e => ?_, fun c hc => ?_, ?_⟩
  · by_cases hk : k < cs.length
    · rw [List.getElem?_append_left hk] at h1
      have hm := List.mem_of_getElem? h1
      have hca : c ≠ a := fun z => (List.nodup_cons.mp p.nd).1 (z ▸ hm)
      have hcl : c ≠ l := fun z => hlm (z ▸ hm)
      show upd (upd H' l _) a _ c = _
      rw [upd_ne hca, upd_ne hcl]
      exact p.sub k c ms h1 h2
    · rw [List.getElem?_append_right (by omega)] at h1
      have : k - cs.length = 0 := by
        have := (List.getElem?_eq_some_iff.mp h1).1
        simp at this; omega
      have hk' : k = cs.length := by omega
      subst hk'
      rw [this] at h1
      cases h1
      rw [hn] at h2; cases h2
      show upd (upd H' l _) a _ l = _
      rw [upd_ne hla, upd_same]
  · have h1 : b ≠ a := fun z => by rw [z, ha0] at e; cases e
    have h2 := p.same b o e
    have h3 : b ≠ l := fun z => by rw [z, hl] at h2; cases h2
    rw [upd_ne h1, upd_ne h3]; exact h2
  · rcases List.mem_cons.mp hc with rfl | hc
    · exact ha0
    · rcases List.mem_append.mp hc with hc | hc
      · exact p.new c (List.mem_cons_of_mem _ hc)
      · rw [List.mem_singleton.mp hc]; exact p.same.free hl
  · have h1 := List.nodup_cons.mp p.nd
    rw [List.nodup_cons]
    refine ⟨fun h => ?_, List.nodup_append.mpr ⟨h1.2, by simp, fun x hx y hy e => ?_⟩⟩
    · rcases List.mem_append.mp h with h | h
      · exact h1.1 h
      · exact hla (List.mem_singleton.mp h).symm
    · rw [List.mem_singleton.mp hy] at e
      exact hlm (e ▸ hx)
theorem Cp.ll {H H' : Hp} {a : Addr} {cs : List Addr} {Ns : List (List Int)} (p : Cp H H' a cs Ns) (h : cs.length = Ns.length) : LL H H' a cs Ns := ⟨p.top, h, p.sub, p.new, p.nd⟩
theorem LL.same {H0 H H' : Hp} {a : Addr} {cs : List Addr} {Ns : List (List Int)} (l : LL H0 H a cs Ns) (s : Same H H') : LL H0 H' a cs Ns := l.keep fun b _ o e => s b o e
theorem same_upd {H0 H : Hp} {a : Addr} {o : HO} (s : Same H0 H) (h : H0 a = none) : Same H0 (upd H a o) := fun b u e => by rw [upd_ne (ne_of_none e h)]; exact s b u e
theorem two_same {G : Hp} {t1 t2 : Addr} {o1 o2 : HO} (g1 : G t2 = none) (g2 : upd G t2 o2 t1 = none) : t2 ≠ t1 ∧ Same G (upd (upd G t2 o2) t1 o1) := by
  have h12 : t2 ≠ t1 := fun z => by rw [z, upd_same] at g2; cases g2
  refine ⟨h12, same_upd (same_upd (Same.refl G) g1) ?_⟩
  rwa [upd_ne (Ne.symm h12)] at g2
theorem LL.fresh {H0 H : Hp} {a d : Addr} {cs : List Addr} {Ns : List (List Int)} (l : LL H0 H a cs Ns) (h : H d = none) : d ∉ a :: cs := fun hm => by
  rcases List.mem_cons.mp hm with rfl | hm
  · rw [l.top] at h; cases h
  · obtain ⟨k, hk, e⟩ := List.getElem_of_mem hm
    have := l.sub k d (Ns[k]'(by rw [← l.len]; exact hk)) (by rw [List.getElem?_eq_getElem hk, e]) (List.getElem?_eq_getElem (by rw [← l.len]; exact hk))
    have h2 : H d = some _ := this
    rw [h] at h2; cases h2
theorem recL_append (l : List Int) (j : Int) : recL (l ++ [j]) = (if (putL (fillL l) j).2.1 = (recL l).length then recL l ++ [[]] else recL l).set (putL (fillL l) j).2.1
    ((if (putL (fillL l) j).2.1 = (recL l).length then recL l ++ [[]] else recL l).getD (putL (fillL l) j).2.1 [] ++ [((l.length : Int) + 1)]) := by
  unfold recL
  rw [fillRec_append]
  unfold recStep
  rw [fillRec_fst]
theorem mem_sum : ∀ {l : List Nat} {x : Nat}, x ∈ l → x ≤ l.sum
  | y :: l, x, h => by
    rw [List.sum_cons]
    rcases List.mem_cons.mp h with rfl | h
    · omega
    · have := mem_sum h; omega
theorem fillL_mem {row : List Int} : ∀ {ns : List Int}, ns ∈ fillL row → ns.length ≤ row.length := by
  intro ns h
  have := fillL_sum row
  have h2 : ns.length ≤ sumL (fillL row) := by
    unfold sumL
    exact mem_sum (List.mem_map.mpr ⟨ns, h, rfl⟩)
  omega
theorem fillL_len (row : List Int) : (fillL row).length ≤ row.length := by
  refine snocInd (P := fun row => (fillL row).length ≤ row.length) (Nat.le_refl _) (fun l j ih => ?_) row
  rw [fillL_append, putL_len]
  split <;> simp <;> omega
theorem getD_le {l : List (List Int)} {k n : Nat} (h : ∀ m ∈ l, m.length ≤ n) : (l.getD k []).length ≤ n := by
  rw [List.getD_eq_getElem?_getD]
  cases e : l[k]? with
  | none => exact Nat.zero_le _
  | some m => exact h m (List.mem_of_getElem? e)
theorem recL_mem (row : List Int) : ∀ m ∈ recL row, m.length ≤ row.length := by
  refine snocInd (P := fun row => ∀ m ∈ recL row, m.length ≤ row.length) (fun m h => by cases h) (fun l j ih => ?_) row
  intro m h
  rw [recL_append] at h
  rw [List.length_append, List.length_singleton]
  have hb : ∀ m ∈ (if (putL (fillL l) j).2.1 = (recL l).length then recL l ++ [[]] else recL l), m.length ≤ l.length := by
    intro m hm
    split at hm
    · rcases List.mem_append.mp hm with hm | hm
      · exact ih m hm
      · rw [List.mem_singleton.mp hm]; exact Nat.zero_le _
    · exact ih m hm
  rcases List.mem_or_eq_of_mem_set h with h | h
  · have := hb m h; omega
  · rw [h, List.length_append, List.length_singleton]
    have := getD_le (k := (putL (fillL l) j).2.1) hb
    omega
/-- fill_with_record(row) -/
def spFR : Sp := fun vs H Q _ => ∃ (r : Addr) (ns : List Int), vs = [.ref r] ∧ IL H r ns ∧ ns.length ≤ 1000 ∧
  ∀ H' a cs b ds t, Same H H' → LL H H' a cs (fillL ns) → LL H H' b ds (recL ns) → H' t = some (.tup [.ref a, .ref b]) → H t = none → Q (.ref t) H'
def f_fill_with_record : Fn := fun ds Q => ∃ ns : List Int, ds = [dI ns] ∧ ns.length ≤ 1000 ∧ Q (.tup [dII (fillL ns), dII (recL ns)])
theorem m_f_fill_with_record : MonoF f_fill_with_record := fun ds Q Q' h ⟨n, a, b, q⟩ => ⟨n, a, b, h _ q⟩
theorem spFR_of (vs : List V) (H : Hp) (Q : VK) (E : XK) (h : spD (.dp 3) 1 f_fill_with_record vs H Q E) : spFR vs H Q E := by
  obtain ⟨p, F, ds, f, r, _, ns, rfl, hl, q⟩ := h
  obtain ⟨v, rfl, q1⟩ := r.inv1
  obtain ⟨c, vs', rfl, hc, rl⟩ := q1.lst_inv
  have := rl.ints
  subst this
  refine ⟨c, ns, rfl, f.fh _ _ hc, hl, fun H' a cs b ds t s l1 l2 ht h0 => q F H' _ (ext_of f s) ?_⟩
  refine ⟨atL H' (t :: ((a :: cs) ++ (b :: ds))), fun x o e => (atL_out e).2, fun x o e => ?_, ?_⟩
  · have hx : H x = none := by
      rcases List.mem_cons.mp (atL_out e).1 with rfl | hm
      · exact h0
      · rcases List.mem_append.mp hm with hm | hm
        · exact l1.new x hm
        · exact l2.new x hm
    exact ⟨f.ne_none hx, hx, f.fh.free hx⟩
  · refine Un.tup (vs := [.ref a, .ref b]) (ds := [dII (fillL ns), dII (recL ns)]) (atL_in List.mem_cons_self ht) rfl fun i v d h1 h2 => ?_
    match i with
    | 0 =>
      cases h1; cases h2
      exact l1.un fun c hc o e => atL_in (List.mem_cons_of_mem _ (List.mem_append_left _ hc)) e
    | 1 =>
      cases h1; cases h2
      exact l2.un fun c hc o e => atL_in (List.mem_cons_of_mem _ (List.mem_append_right _ hc)) e
    | i + 2 => simp at h1
/-! .. as the laws fill -/
theorem place_eq {ns : List Int} {j : Int} {i : Nat} (hi : i < ns.length) (h1 : ns[i] > j) (h2 : ∀ k (hk : k < i), ¬ ns[k]'(by omega) > j) : placeL ns j = i := by
  unfold placeL
  rw [List.findIdx_eq hi]
  exact ⟨by simpa using h1, fun k hk => by simpa using h2 k hk⟩
theorem place_none {ns : List Int} {j : Int} (h2 : ∀ k (hk : k < ns.length), ¬ ns[k] > j) : placeL ns j = ns.length := by
  unfold placeL
  rw [List.findIdx_eq_length]
  intro x hx
  obtain ⟨k, hk, rfl⟩ := List.getElem_of_mem hx
  simpa using h2 k hk
def spBump : Sp := fun vs H Q _ => ∃ (c : Addr) (ns : List Int) (j : Int), vs = [.ref c, .int j] ∧ IL H c ns ∧ ns.length ≤ 100000 ∧
  (∀ h : placeL ns j < ns.length, Q (.int ns[placeL ns j]) (upd H c (.lst ((ns.set (placeL ns j) j).map V.int)))) ∧ (¬ placeL ns j < ns.length → Q (.int 0) (upd H c (.lst ((ns ++ [j]).map V.int))))
theorem putL_all {P : Int → Prop} : ∀ (ss : List (List Int)) (j : Int), (∀ s ∈ ss, ∀ x ∈ s, P x) → P j → ∀ s ∈ (putL ss j).1, ∀ x ∈ s, P x
  | [], j, _, hj, s, hs, x, hx => by
    simp [putL] at hs
    subst hs
    rw [List.mem_singleton.mp hx]; exact hj
  | a :: ss, j, h, hj, s, hs, x, hx => by
    have ha := h a List.mem_cons_self
    by_cases c : placeL a j < a.length
    · rw [putL_go c] at hs
      rcases List.mem_cons.mp hs with rfl | hs
      · rcases List.mem_or_eq_of_mem_set hx with hx | rfl
        · exact ha x hx
        · exact hj
      · exact putL_all ss _ (fun s hs => h s (List.mem_cons_of_mem _ hs)) (ha _ (List.getElem_mem c)) s hs x hx
    · rw [putL_end c] at hs
      rcases List.mem_cons.mp hs with rfl | hs
      · rcases List.mem_append.mp hx with hx | hx
        · exact ha x hx
        · rw [List.mem_singleton.mp hx]; exact hj
      · exact h s (List.mem_cons_of_mem _ hs) x hx
theorem fillL_all {P : Int → Prop} (row : List Int) : (∀ x ∈ row, P x) → ∀ s ∈ fillL row, ∀ x ∈ s, P x := by
  refine snocInd (P := fun row => (∀ x ∈ row, P x) → ∀ s ∈ fillL row, ∀ x ∈ s, P x) (fun _ s h => by cases h) (fun l j ih h => ?_) row
  rw [fillL_append]
  exact putL_all _ _ (ih fun x hx => h x (List.mem_append_left _ hx)) (h j (List.mem_append_right _ List.mem_cons_self))
def spLF : Sp := fun vs H Q _ => ∃ (r : Addr) (ns : List Int), vs = [.ref r] ∧ IL H r ns ∧ ns.length ≤ 1000 ∧ (∀ x ∈ ns, 0 < x) ∧ ∀ H' a cs, Same H H' → LL H H' a cs (fillL ns) → Q (.ref a) H'
def f__law_fill : Fn := fun ds Q => ∃ ns : List Int, ds = [dI ns] ∧ ns.length ≤ 1000 ∧ (∀ x ∈ ns, 0 < x) ∧ Q (dII (fillL ns))
theorem m_f__law_fill : MonoF f__law_fill := fun ds Q Q' h ⟨n, a, b, c, q⟩ => ⟨n, a, b, c, h _ q⟩
theorem spLF_of (vs : List V) (H : Hp) (Q : VK) (E : XK) (h : spD (.dp 2) 1 f__law_fill vs H Q E) : spLF vs H Q E := by
  obtain ⟨p, F, ds, f, r, _, ns, rfl, hl, hp, q⟩ := h
  obtain ⟨v, rfl, q1⟩ := r.inv1
  obtain ⟨c, vs', rfl, hc, rl⟩ := q1.lst_inv
  have := rl.ints
  subst this
  exact ⟨c, ns, rfl, f.fh _ _ hc, hl, hp, fun H' a cs s l => q F H' _ (ext_of f s) (l.rv f)⟩
end DL
end

/-! part: SC1 -/
section
set_option linter.all false
set_option maxRecDepth 100000
namespace DL
open PySem PySem.Spec L2
open PyProof.Rows hiding St
/-! ### 24. defs that several laws share: what they keep -/
def f_fill : Fn := fun ds Q => ∃ ns : List Int, ds = [dI ns] ∧ ns.length ≤ 1000 ∧ Q (dII (fillL ns))
theorem m_f_fill : MonoF f_fill := fun ds Q Q' h ⟨n, a, b, q⟩ => ⟨n, a, b, h _ q⟩
def shapeL (ss : List (List Int)) : List Int := ss.map fun s => (s.length : Int)
def readL (ss : List (List Int)) : List Int := ss.reverse.flatten
def f_shape_of : Fn := fun ds Q => ∃ ss : List (List Int), ds = [dII ss] ∧ ss.length ≤ 1000 ∧ Q (dI (shapeL ss))
theorem m_f_shape_of : MonoF f_shape_of := fun ds Q Q' h ⟨n, a, b, q⟩ => ⟨n, a, b, h _ q⟩
def f_reading : Fn := fun ds Q => ∃ ss : List (List Int), ds = [dII ss] ∧ ss.length ≤ 1000 ∧ sumL ss ≤ 1000 ∧ Q (dI (readL ss))
theorem m_f_reading : MonoF f_reading := fun ds Q Q' h ⟨n, a, b, c, q⟩ => ⟨n, a, b, c, h _ q⟩
abbrev f__law_read : Fn := f_reading
theorem m_f__law_read : MonoF f__law_read := m_f_reading
def f__law_copy : Fn := fun ds Q => ∃ ss : List (List Int), ds = [dII ss] ∧ ss.length ≤ 1000 ∧ Q (dII ss)
theorem m_f__law_copy : MonoF f__law_copy := fun ds Q Q' h ⟨n, a, b, q⟩ => ⟨n, a, b, h _ q⟩
def f_check_together : FnX := fun ds Q R => ∃ ss tt : List (List Int), ds = [dII ss, dII tt] ∧ ss.length ≤ 1000 ∧ tt.length ≤ 1000 ∧ if sumL ss + sumL tt > 14 then R "TooMany" "limit" 14 else Q .non
theorem m_f_check_together : MonoFX f_check_together := fun ds Q Q' R R' h1 h2 ⟨ss, tt, a, b, c, w⟩ => ⟨ss, tt, a, b, c, by
  by_cases z : sumL ss + sumL tt > 14
  · rw [if_pos z] at w ⊢; exact h2 _ _ _ w
  · rw [if_neg z] at w ⊢; exact h1 _ w⟩
def f_product : FnX := fun ds Q R => ∃ ss tt : List (List Int), ds = [dII ss, dII tt] ∧ ss.length ≤ 1000 ∧ tt.length ≤ 1000 ∧ sumL ss ≤ 500 ∧ sumL tt ≤ 500 ∧ if sumL ss + sumL tt > 14 then R "TooMany" "limit" 14 else Q (dII (fillL (readL ss ++ readL tt)))
theorem m_f_product : MonoFX f_product := fun ds Q Q' R R' h1 h2 ⟨ss, tt, a, b, c, d, e, w⟩ => ⟨ss, tt, a, b, c, d, e, by
  by_cases z : sumL ss + sumL tt > 14
  · rw [if_pos z] at w ⊢; exact h2 _ _ _ w
  · rw [if_neg z] at w ⊢; exact h1 _ w⟩
end DL
end

/-! part: BC1 -/
section
set_option linter.all false
set_option maxRecDepth 100000
namespace DL
open PySem L2
def N__law_same : List Str := ["actual", "due", "k"]
def b__law_same (fnSelf : Fn) : SD :=
  (sSeq (sIf (tBd (eIsi "list" (eVar 1)))
    (sSeq (sIf (tOrD (tNotD (tBd (eIsi "list" (eVar 0)))) (tBd (e2 gNe (eA gLen (aCons (eVar 0) aNil)) (eA gLen (aCons (eVar 1) aNil)))))
    (sRet (eC (.bl false)))
    sNext)
    (sRet (eA gAll (aCons (eLc (wR1 (aCons (eA gLen (aCons (eVar 1) aNil)) aNil)) (.one 2) tYesD (eA fnSelf (aCons (e2 gIx (eVar 0) (eVar 2)) (aCons (e2 gIx (eVar 1) (eVar 2)) aNil))) [2]) aNil))))
    sNext)
    (sSeq (sIf (tBd (eIsi "tuple" (eVar 1)))
    (sSeq (sIf (tOrD (tNotD (tBd (eIsi "tuple" (eVar 0)))) (tBd (e2 gNe (eA gLen (aCons (eVar 0) aNil)) (eA gLen (aCons (eVar 1) aNil)))))
    (sRet (eC (.bl false)))
    sNext)
    (sRet (eA gAll (aCons (eLc (wR1 (aCons (eA gLen (aCons (eVar 1) aNil)) aNil)) (.one 2) tYesD (eA fnSelf (aCons (e2 gIx (eVar 0) (eVar 2)) (aCons (e2 gIx (eVar 1) (eVar 2)) aNil))) [2]) aNil))))
    sNext)
    (sSeq (sIf (tBd (e2 gIsN (eVar 1) (eC .non)))
    (sRet (e2 gIsN (eVar 0) (eC .non)))
    sNext)
    (sSeq (sIf (tBd (eIsi "bool" (eVar 1)))
    (sRet (eAndD (eIsi "bool" (eVar 0)) (e2 gEq (eVar 0) (eVar 1))))
    sNext)
    (sSeq (sIf (tBd (eIsi "str" (eVar 1)))
    (sRet (eAndD (eIsi "str" (eVar 0)) (e2 gEq (eVar 0) (eVar 1))))
    sNext)
    (sRet (eAndD (eIsi "int" (eVar 0)) (eAndD (eNotD (eIsi "bool" (eVar 0))) (e2 gEq (eVar 0) (eVar 1))))))))))
def N__law_row : List Str := ["feed", "size", "greatest", "kind", "row", "half", "k"]
def b__law_row : SD :=
  (sSeq (sSet 2 (e2 gAdd (eC (.int 1)) (eA f_draw (aCons (eVar 0) (aCons (eC (.int 9)) aNil)))))
    (sSeq (sSet 3 (eA f_draw (aCons (eVar 0) (aCons (eC (.int 6)) aNil))))
    (sSeq (sSet 4 (eLc (wR1 (aCons (eVar 1) aNil)) (.one 6) tYesD (e2 gAdd (eC (.int 1)) (eA f_draw (aCons (eVar 0) (aCons (eVar 2) aNil)))) [6]))
    (sSeq (sIf (tBd (e2 gEq (eVar 3) (eC (.int 0))))
    (sRet (eA gSorted (aCons (eVar 4) aNil)))
    sNext)
    (sSeq (sIf (tBd (e2 gEq (eVar 3) (eC (.int 1))))
    (sRet (eSortedR (eVar 4)))
    sNext)
    (sSeq (sIf (tBd (e2 gEq (eVar 3) (eC (.int 2))))
    (sSeq (sSet 5 (e2 gFdiv (eVar 1) (eC (.int 2))))
    (sRet (e2 gCat (eA gSorted (aCons (eSl (eVar 4) (oSome (eVar 5)) oNo) aNil)) (eA gSorted (aCons (eSl (eVar 4) oNo (oSome (eVar 5))) aNil)))))
    sNext)
    (sRet (eVar 4))))))))
def N_place_for : List Str := ["shelf", "jar", "at", "other"]
def b_place_for : SD :=
  (sSeq (sFor (wE (aCons (eVar 0) aNil)) (.many [2, 3])
    (sIf (tBd (e2 gGt (eVar 3) (eVar 1)))
    (sRet (eVar 2))
    sNext))
    (sRet (eA gLen (aCons (eVar 0) aNil))))
def N_fill : List Str := ["row"]
def b_fill : SD :=
  (sRet (eItR (eA f_fill_with_record (aCons (eVar 0) aNil)) 0))
def N_shape_of : List Str := ["shelves", "shelf"]
def b_shape_of : SD :=
  (sRet (eLc (wL (eVar 0)) (.one 1) tYesD (eA gLen (aCons (eVar 1) aNil)) [1]))
def N_reading : List Str := ["shelves", "row", "shelf"]
def b_reading : SD :=
  (sSeq (sSet 1 (eA gMkL aNil))
    (sSeq (sFor (wV (aCons (eVar 0) aNil)) (.one 2)
    (sExt 1 (eVar 2)))
    (sRet (eVar 1))))
def N__law_copy : List Str := ["lines", "line"]
def b__law_copy : SD :=
  (sRet (eLc (wL (eVar 0)) (.one 1) tYesD (eA gList (aCons (eVar 1) aNil)) [1]))
def N__law_read : List Str := ["lines", "row", "k", "jar"]
def b__law_read : SD :=
  (sSeq (sSet 1 (eA gMkL aNil))
    (sSeq (sFor (wR1 (aCons (eA gLen (aCons (eVar 0) aNil)) aNil)) (.one 2)
    (sSet 1 (e2 gCat (eVar 1) (eLc (wL (e2 gIx (eVar 0) (e2 gSub (e2 gSub (eA gLen (aCons (eVar 0) aNil)) (eC (.int 1))) (eVar 2)))) (.one 3) (tBd (e2 gNotN (eVar 3) (eC .non))) (eVar 3) [3]))))
    (sRet (eVar 1))))
def N_check_together : List Str := ["shelves", "other"]
def b_check_together : SDX :=
  (sSeqX (sIfX (tBd (e2 gGt (e2 gAdd (eA gSum (aCons (eA f_shape_of (aCons (eVar 0) aNil)) aNil)) (eA gSum (aCons (eA f_shape_of (aCons (eVar 1) aNil)) aNil))) (eC (.int 14))))
    (sRaiseX "TooMany" "limit" (eC (.int 14)))
    (sOK sNext))
    (sOK sNext))
def N_product : List Str := ["shelves", "other"]
def b_product : SDX :=
  (sSeqX (sDropX (eAX f_check_together (aCons (eVar 0) (aCons (eVar 1) aNil))))
    (sOK (sRet (eA f_fill (aCons (e2 gCat (eA f_reading (aCons (eVar 0) aNil)) (eA f_reading (aCons (eVar 1) aNil))) aNil)))))
end DL
end

/-! part: MC1 -/
section
set_option linter.all false
set_option maxRecDepth 100000
set_option maxHeartbeats 2000000
namespace DL
open PySem PySem.Spec L2
open PyProof.Rows hiding St
def rgI (lo : Int) (n : Nat) : List Int := (List.range n).map fun (k : Nat) => lo + (k : Int)
theorem rgD_I (lo : Int) (n : Nat) : rgD lo n = (rgI lo n).map D.int := rgD_ints lo n
theorem rgI_length (lo : Int) (n : Nat) : (rgI lo n).length = n := by simp [rgI]
theorem rgI_mem {lo : Int} {n : Nat} {a : Int} : a ∈ rgI lo n ↔ lo ≤ a ∧ a < lo + n := by
  simp only [rgI, List.mem_map, List.mem_range]
  constructor
  · rintro ⟨k, h, rfl⟩; omega
  · rintro ⟨h1, h2⟩; exact ⟨(a - lo).toNat, by omega, by omega⟩
def isLd : D → Bool | .lst _ => true | _ => false
def isUd : D → Bool | .tup _ => true | _ => false
def isBd : D → Bool | .bl _ => true | _ => false
def isSd : D → Bool | .str _ => true | _ => false
def isId : D → Bool | .int _ => true | .bl _ => true | _ => false
theorem isT_list {n : Nat} {d : D} (h : okD n d) : isT d "list" = some (isLd d) := by
  cases d with
  | fd => exact absurd h.1 (by decide)
  | ob _ _ _ _ => exact absurd h.1 (by unfold pyD PyData.canLay0; decide)
  | dct l => exact absurd h.1 (by unfold pyD PyData.canLay0; decide)
  | _ => rfl
theorem isT_tuple {n : Nat} {d : D} (h : okD n d) : isT d "tuple" = some (isUd d) := by
  cases d with
  | fd => exact absurd h.1 (by decide)
  | ob _ _ _ _ => exact absurd h.1 (by unfold pyD PyData.canLay0; decide)
  | dct l => exact absurd h.1 (by unfold pyD PyData.canLay0; decide)
  | _ => rfl
theorem isT_bool {n : Nat} {d : D} (h : okD n d) : isT d "bool" = some (isBd d) := by
  cases d with
  | fd => exact absurd h.1 (by decide)
  | ob _ _ _ _ => exact absurd h.1 (by unfold pyD PyData.canLay0; decide)
  | dct l => exact absurd h.1 (by unfold pyD PyData.canLay0; decide)
  | _ => rfl
theorem isT_str {n : Nat} {d : D} (h : okD n d) : isT d "str" = some (isSd d) := by
  cases d with
  | fd => exact absurd h.1 (by decide)
  | ob _ _ _ _ => exact absurd h.1 (by unfold pyD PyData.canLay0; decide)
  | dct l => exact absurd h.1 (by unfold pyD PyData.canLay0; decide)
  | _ => rfl
theorem isT_int {n : Nat} {d : D} (h : okD n d) : isT d "int" = some (isId d) := by
  cases d with
  | fd => exact absurd h.1 (by decide)
  | ob _ _ _ _ => exact absurd h.1 (by unfold pyD PyData.canLay0; decide)
  | dct l => exact absurd h.1 (by unfold pyD PyData.canLay0; decide)
  | _ => rfl
theorem sameL_all : ∀ {l m : List D}, l.length = m.length → sameL l m = (List.range m.length).all fun k => sameB (l.getD k .non) (m.getD k .non)
  | [], [], _ => rfl
  | a :: l, b :: m, h => by
    rw [sameL, sameL_all (l := l) (m := m) (by simpa using h), List.length_cons, List.range_succ_eq_map, List.all_cons, List.all_map]
    rfl
  | [], _ :: _, h => by simp at h
  | _ :: _, [], h => by simp at h
theorem sameL_ne {l m : List D} (h : l.length ≠ m.length) : sameL l m = false := by
  cases z : sameL l m with
  | false => rfl
  | true => exact absurd (sameL_len z) h
theorem sem__law_same : ∀ n, ∀ ds (Q : D → Prop), ds.length = 2 → f_sameL (n + 1) ds Q → b__law_same (f_sameL n) { nx := fun _ => (Kd.fz ≠ .nw) ∧ Q .non, rt := Q } (startD N__law_same ds) := by
  rintro n ds Q _ ⟨a, d, rfl, ha, hd, q⟩
  have body : ∀ (l m : List D) (A B : D), (∃ n', n = n' + 1 ∧ (∀ d ∈ l, okD 60 d) ∧ (∀ d ∈ m, okW n' d)) → l.length = m.length → m.length ≤ 1000000 → (A = .lst l ∨ A = .tup l) → (B = .lst m ∨ B = .tup m) → Q (.bl (sameL l m)) →
      lcRun (.one 2) tYesD (eA (f_sameL n) (aCons (e2 gIx (eVar 0) (eVar 2)) (aCons (e2 gIx (eVar 1) (eVar 2)) aNil))) [some A, some B, none] (fun ys => ∃ bs : List Bool, [D.lst ys] = [.lst (bs.map D.bl)] ∧ Q (.bl (bs.all id))) (rgD 0 m.length) [] := by
    rintro l m A B ⟨n', rfl, hl, hm⟩ e hs hA hB q
    rw [rgD_I]
    refine lc_mapI (fun k => some (.bl (sameB (l.getD k.toNat .non) (m.getD k.toNat .non)))) _ [] (by have := line_ge; rw [rgI_length]; simp; omega) (fun x hx R hR => ?_) ?_
    · rw [rgI_mem] at hx
      have h1 := atI_L (ns := l) (i := x) (by omega) (by omega)
      have h2 := atI_L (ns := m) (i := x) (by omega) (by omega)
      have g1 : l.getD x.toNat .non = l[x.toNat]'(by omega) := by rw [List.getD_eq_getElem?_getD, List.getElem?_eq_getElem (by omega)]; rfl
      have g2 : m.getD x.toNat .non = m[x.toNat]'(by omega) := by rw [List.getD_eq_getElem?_getD, List.getElem?_eq_getElem (by omega)]; rfl
      refine ⟨_, rfl, _, rfl, _, _, _, hA, rfl, h1, _, rfl, _, rfl, _, _, _, hB, rfl, h2, _, _, rfl, hl _ (List.getElem_mem _), hm _ (List.getElem_mem _), ?_⟩
      rw [g1, g2] at hR; exact hR
    · rw [List.nil_append]
      refine ⟨(List.range m.length).map fun k => sameB (l.getD k .non) (m.getD k .non), ?_, ?_⟩
      · have e : (rgI 0 m.length).filterMap (fun k => some (D.bl (sameB (l.getD k.toNat .non) (m.getD k.toNat .non)))) = ((List.range m.length).map fun k => sameB (l.getD k .non) (m.getD k .non)).map D.bl := by
          rw [rgI, List.filterMap_map, List.map_map, ← List.filterMap_eq_map]
          congr 1
          funext k
          simp
        rw [e]
      · rw [List.all_map]
        have := sameL_all e
        rw [this] at q
        exact q
  have dn : ∀ m, (d = .lst m ∨ d = .tup m) → m.length ≤ 1000000 ∧ ∃ n', n = n' + 1 ∧ (∀ d ∈ m, okW n' d) := by
    rintro m (rfl | rfl)
    · cases n with
      | zero => exact absurd hd.1.2 (by rw [pyD, PyData.depth]; omega)
      | succ n => exact ⟨(okW_lst_inv hd).1, n, rfl, (okW_lst_inv hd).2⟩
    · cases n with
      | zero => exact absurd hd.1.2 (by rw [pyD, PyData.depth]; omega)
      | succ n => exact ⟨(okW_tup_inv hd).1, n, rfl, (okW_tup_inv hd).2⟩
  have an : ∀ m, (a = .lst m ∨ a = .tup m) → (∀ d ∈ m, okD 60 d) := by
    rintro m (rfl | rfl)
    · exact fun d h => (okD_lst_inv ha d h).mono (by decide)
    · exact fun d h => (okD_tup_inv ha d h).mono (by decide)
  have sl := line_ge
  refine ⟨_, rfl, _, isT_list hd.1, _, rfl, ?_⟩
  by_cases c1 : ∃ m, d = .lst m
  · obtain ⟨m, rfl⟩ := c1
    refine iteT ?_
    obtain ⟨hm, n', en, hm'⟩ := dn m (.inl rfl)
    refine ⟨_, rfl, _, isT_list ha, _, rfl, ?_⟩
    by_cases c2 : ∃ l, a = .lst l
    · obtain ⟨l, rfl⟩ := c2
      refine iteF ⟨_, rfl, _, .inl rfl, _, rfl, _, .inl rfl, shD_int _, shD_int _, _, rfl, ?_⟩
      rw [eqD_int]
      by_cases c3 : l.length = m.length
      · rw [decide_eq_true (by omega)]
        refine iteF ⟨_, rfl, _, .inl rfl, _, rfl, by omega, by omega, ?_⟩
        exact body l m _ _ ⟨n', en, an l (.inl rfl), hm'⟩ c3 hm (.inl rfl) (.inl rfl) q
      · rw [decide_eq_false (by omega)]
        refine iteT ?_
        rw [sameB, sameL_ne c3] at q
        exact q
    · have : sameB a (.lst m) = false := by
        cases a <;> first | rfl | exact absurd ⟨_, rfl⟩ c2
      rw [this] at q
      cases a <;> first | exact iteT (iteT q) | exact absurd ⟨_, rfl⟩ c2
  have e1 : (isLd d) = false := by
    cases d <;> first | rfl | exact absurd ⟨_, rfl⟩ c1
  rw [e1]
  refine iteF ?_
  refine ⟨_, rfl, _, isT_tuple hd.1, _, rfl, ?_⟩
  by_cases c1' : ∃ m, d = .tup m
  · obtain ⟨m, rfl⟩ := c1'
    refine iteT ?_
    obtain ⟨hm, n', en, hm'⟩ := dn m (.inr rfl)
    refine ⟨_, rfl, _, isT_tuple ha, _, rfl, ?_⟩
    by_cases c2 : ∃ l, a = .tup l
    · obtain ⟨l, rfl⟩ := c2
      refine iteF ⟨_, rfl, _, .inr rfl, _, rfl, _, .inr rfl, shD_int _, shD_int _, _, rfl, ?_⟩
      rw [eqD_int]
      by_cases c3 : l.length = m.length
      · rw [decide_eq_true (by omega)]
        refine iteF ⟨_, rfl, _, .inr rfl, _, rfl, by omega, by omega, ?_⟩
        exact body l m _ _ ⟨n', en, an l (.inr rfl), hm'⟩ c3 hm (.inr rfl) (.inr rfl) q
      · rw [decide_eq_false (by omega)]
        refine iteT ?_
        rw [sameB, sameL_ne c3] at q
        exact q
    · have : sameB a (.tup m) = false := by
        cases a <;> first | rfl | exact absurd ⟨_, rfl⟩ c2
      rw [this] at q
      cases a <;> first | exact iteT (iteT q) | exact absurd ⟨_, rfl⟩ c2
  have e2 : (isUd d) = false := by
    cases d <;> first | rfl | exact absurd ⟨_, rfl⟩ c1'
  rw [e2]
  refine iteF ?_
  refine ⟨_, rfl, rfl, _, rfl, ?_⟩
  by_cases c4 : d = .non
  · subst c4
    refine iteT ⟨_, rfl, rfl, ?_⟩
    have : sameB a .non = isN a := by cases a <;> rfl
    rw [this] at q
    exact q
  have e3 : isN d = false := by cases d <;> first | rfl | exact absurd rfl c4
  rw [e3]
  refine iteF ?_
  refine ⟨_, rfl, _, isT_bool hd.1, _, rfl, ?_⟩
  by_cases c5 : ∃ b, d = .bl b
  · obtain ⟨b, rfl⟩ := c5
    refine iteT ⟨_, rfl, _, isT_bool ha, _, rfl, ?_⟩
    by_cases c6 : ∃ b, a = .bl b
    · obtain ⟨a, rfl⟩ := c6
      exact iteT ⟨_, rfl, _, rfl, shD_bl _, shD_bl _, q⟩
    · have : sameB a (.bl b) = false := by
        cases a <;> first | rfl | exact absurd ⟨_, rfl⟩ c6
      rw [this] at q
      cases a <;> first | exact iteF q | exact absurd ⟨_, rfl⟩ c6
  have e4 : (isBd d) = false := by
    cases d <;> first | rfl | exact absurd ⟨_, rfl⟩ c5
  rw [e4]
  refine iteF ?_
  refine ⟨_, rfl, _, isT_str hd.1, _, rfl, ?_⟩
  by_cases c7 : ∃ b, d = .str b
  · obtain ⟨b, rfl⟩ := c7
    refine iteT ⟨_, rfl, _, isT_str ha, _, rfl, ?_⟩
    by_cases c6 : ∃ b, a = .str b
    · obtain ⟨a, rfl⟩ := c6
      exact iteT ⟨_, rfl, _, rfl, ha.sh (by decide), okD.sh (n := 64) ⟨hd.1.1, Nat.zero_le _⟩ (by decide), q⟩
    · have : sameB a (.str b) = false := by
        cases a <;> first | rfl | exact absurd ⟨_, rfl⟩ c6
      rw [this] at q
      cases a <;> first | exact iteF q | exact absurd ⟨_, rfl⟩ c6
  have e5 : (isSd d) = false := by
    cases d <;> first | rfl | exact absurd ⟨_, rfl⟩ c7
  rw [e5]
  refine iteF ?_
  obtain ⟨b, rfl⟩ : ∃ b, d = .int b := by
    cases d with
    | int b => exact ⟨b, rfl⟩
    | fd => exact absurd hd.1.1 (by decide)
    | ob _ _ _ _ => exact absurd hd.1.1 (by unfold pyD PyData.canLay0; decide)
    | dct l => exact absurd hd.1.1 (by unfold pyD PyData.canLay0; decide)
    | non => exact absurd rfl c4
    | bl _ => exact absurd ⟨_, rfl⟩ c5
    | str _ => exact absurd ⟨_, rfl⟩ c7
    | lst _ => exact absurd ⟨_, rfl⟩ c1
    | tup _ => exact absurd ⟨_, rfl⟩ c1'
  refine ⟨_, rfl, _, isT_int ha, _, rfl, ?_⟩
  by_cases c6 : ∃ b, a = .int b
  · obtain ⟨a, rfl⟩ := c6
    exact iteT ⟨_, rfl, _, rfl, _, rfl, _, rfl, iteT ⟨_, rfl, _, rfl, shD_int _, shD_int _, q⟩⟩
  · have : sameB a (.int b) = false := by
      cases a <;> first | rfl | exact absurd ⟨_, rfl⟩ c6
    rw [this] at q
    by_cases c8 : ∃ b, a = .bl b
    · obtain ⟨a, rfl⟩ := c8
      exact iteT ⟨_, rfl, _, rfl, _, rfl, _, rfl, iteF q⟩
    · cases a <;> first | exact iteF q | exact absurd ⟨_, rfl⟩ c6 | exact absurd ⟨_, rfl⟩ c8
theorem sem__law_row : ∀ ds (Q : D → Prop), ds.length = 2 → f_row ds Q → b__law_row { nx := fun _ => (Kd.fz ≠ .nw) ∧ Q .non, rt := Q } (startD N__law_row ds) := by
  rintro ds Q _ ⟨n, rfl, h0, h1, q⟩
  refine ⟨_, rfl, 9, rfl, by decide, by decide, fun g g0 g1 => ?_⟩
  refine ⟨_, _, rfl, rfl, ?_⟩
  refine ⟨_, rfl, 6, rfl, by decide, by decide, fun kd k0 k1 => ?_⟩
  refine ⟨_, rfl, n, rfl, by omega, by omega, ?_⟩
  have sl := line_ge
  refine lc_any (fun y => ∃ j : Int, y = .int j ∧ 1 ≤ j ∧ j ≤ 9) _ [] (by simp [rgD]; omega) (fun x hx R hR => ?_) (fun ys hy hs => ?_)
  · refine ⟨_, rfl, _, rfl, 1 + g, rfl, by omega, by omega, fun r r0 r1 => ⟨_, _, rfl, rfl, hR _ ⟨_, rfl, by omega, by omega⟩⟩⟩
  · obtain ⟨row, rfl, hr⟩ : ∃ row : List Int, ys = row.map D.int ∧ ∀ j ∈ row, 1 ≤ j ∧ j ≤ 9 := by
      clear hy q
      induction ys with
      | nil => exact ⟨[], rfl, by simp⟩
      | cons y ys ih =>
        obtain ⟨j, rfl, a, b⟩ := hs y List.mem_cons_self
        obtain ⟨row, rfl, h⟩ := ih fun z hz => hs z (List.mem_cons_of_mem _ hz)
        exact ⟨j :: row, rfl, fun z hz => by
          rcases List.mem_cons.mp hz with rfl | hz
          · exact ⟨a, b⟩
          · exact h z hz⟩
    have hlen : (row.length : Int) = n := by
      have : row.length = (rgD 0 n.toNat).length := by simpa using hy
      rw [this]; simp [rgD]; omega
    have qp : ∀ row' : List Int, row'.Perm row → Q (dI row') := fun row' p => q row' (by rw [p.length_eq]; exact hlen) fun j hj => hr j (p.mem_iff.mp hj)
    rw [List.nil_append]
    refine ⟨_, rfl, shD_int _, shD_int _, _, rfl, ?_⟩
    rw [eqD_int]
    by_cases c0 : kd = 0
    · rw [decide_eq_true c0]
      exact iteT ⟨_, rfl, row, rfl, fun ns' p _ => qp ns' p⟩
    rw [decide_eq_false c0]
    refine iteF ?_
    refine ⟨_, rfl, shD_int _, shD_int _, _, rfl, ?_⟩
    rw [eqD_int]
    by_cases c1 : kd = 1
    · rw [decide_eq_true c1]
      exact iteT ⟨_, rfl, row, rfl, fun ns' p _ => qp ns' p⟩
    rw [decide_eq_false c1]
    refine iteF ?_
    refine ⟨_, rfl, shD_int _, shD_int _, _, rfl, ?_⟩
    rw [eqD_int]
    by_cases c2 : kd = 2
    · rw [decide_eq_true c2]
      refine iteT ?_
      refine ⟨_, rfl, n, 2, rfl, rfl, ⟨by decide, by decide⟩, ?_⟩
      have hf : n.fdiv 2 = ((n / 2).toNat : Nat) := by rw [Int.fdiv_eq_ediv_of_nonneg _ (by decide)]; omega
      refine ⟨_, rfl, .int ((n / 2).toNat : Nat), congrArg (fun z => some (some (D.int z))) hf, _, rfl, _, rfl, ?_⟩
      rw [cut_map, cut_lo]
      refine ⟨_, rfl, fun a pa _ => ?_⟩
      refine ⟨_, rfl, .int ((n / 2).toNat : Nat), congrArg (fun z => some (some (D.int z))) hf, _, rfl, _, rfl, ?_⟩
      rw [cut_map, cut_hi]
      refine ⟨_, rfl, fun b pb _ => ?_⟩
      refine ⟨_, _, rfl, rfl, ?_, ?_⟩
      · rw [List.length_map, List.length_map, pa.length_eq, pb.length_eq]
        simp
        omega
      · rw [← List.map_append]
        refine qp _ (((pa.append pb).trans List.perm_append_comm).trans ?_)
        rw [List.take_append_drop]
    · rw [decide_eq_false c2]
      exact iteF ⟨_, rfl, qp row (.refl _)⟩
theorem dI_nil : dI [] = .lst [] := rfl
theorem for_enI {T : Tg} {tb : SD} {E : En} {ns : List Int} {δ : DS} (I : Nat → DS → Prop) (h0 : I 0 δ)
    (hs : ∀ i (hi : i < ns.length) δ, I i δ → ∀ N : DS → Prop, (∀ δ', I (i + 1) δ' → N δ') → gd T (.tup [.int (i : Nat), .int ns[i]]) δ fun δ1 => tb { nx := N, rt := E.rt, bk := E.nx, ct := N } δ1) (hd : ∀ δ, I ns.length δ → E.nx δ) : forRun T tb E (enumD 0 (ns.map D.int)) δ := by
  refine for_inv (fun pre δ => I pre.length δ) h0 (fun pre x post δ e h N hN => ?_) (fun δ h => hd δ (by simpa [enumD_length] using h))
  have hl : pre.length < ns.length := by
    have := congrArg List.length e
    simp [enumD_length] at this
    omega
  have hx : x = .tup [.int (pre.length : Nat), .int ns[pre.length]] := by
    have h1 : (enumD 0 (ns.map D.int))[pre.length]? = some x := by rw [e]; simp
    rw [enumD_get, List.getElem?_map, List.getElem?_eq_getElem hl] at h1
    simp at h1
    exact h1.symm
  subst hx
  exact hs pre.length hl δ h N fun δ' h' => hN δ' (by simpa using h')
theorem sem_place_for : ∀ ds (Q : D → Prop), ds.length = 2 → f_place_for ds Q → b_place_for { nx := fun _ => ((Kd.fz : Kd) ≠ .nw) ∧ Q .non, rt := Q } (startD N_place_for ds) := by
  rintro ds Q _ ⟨ns, j, rfl, hl, q⟩
  refine ⟨_, rfl, _, rfl, ?_⟩
  refine for_enI (fun i δ => (∃ o2 o3 : Option D, δ = [some (dI ns), some (.int j), o2, o3]) ∧ ∀ k (hk : k < i) (hk' : k < ns.length), ¬ ns[k] > j) ⟨⟨_, _, rfl⟩, fun k hk => absurd hk (Nat.not_lt_zero k)⟩ (fun i hi δ ⟨⟨o2, o3, e⟩, hk⟩ N hN => ?_) (fun δ ⟨⟨o2, o3, e⟩, hk⟩ => ?_)
  · subst e
    refine ⟨_, rfl, rfl, ?_⟩
    refine ⟨_, rfl, _, rfl, _, _, rfl, rfl, _, rfl, ?_⟩
    by_cases hgt : j < ns[i]
    · rw [decide_eq_true hgt]
      have hp := place_eq hi hgt fun k hk' => hk k hk' (by omega)
      rw [hp] at q
      exact iteT ⟨_, rfl, q⟩
    · rw [decide_eq_false hgt]
      refine iteF (hN _ ⟨⟨_, _, rfl⟩, fun k hk1 hk2 => ?_⟩)
      by_cases hki : k = i
      · subst hki; omega
      · exact hk k (by omega) hk2
  · subst e
    rw [place_none fun k hk' => hk k hk' hk'] at q
    refine ⟨_, rfl, _, .inl rfl, ?_⟩
    rw [List.length_map]
    exact q
theorem sem_fill : ∀ ds (Q : D → Prop), ds.length = 1 → f_fill ds Q → b_fill { nx := fun _ => ((Kd.dp 2 : Kd) ≠ .nw) ∧ Q .non, rt := Q } (startD N_fill ds) := by
  rintro ds Q _ ⟨ns, rfl, hl, q⟩
  exact ⟨_, rfl, ns, rfl, hl, _, _, .inr rfl, rfl, q⟩
/-- a comprehension over mapped items -/
theorem lc_mapG {α : Type} (f : α → D) {T : Tg} {c : TD} {elt : ED} {δ : DS} {Q : List D → Prop} (g : α → Option D) : ∀ (ns : List α) (acc : List D), acc.length + ns.length ≤ sizeLine →
    (∀ x ∈ ns, ∀ R : Option D → Prop, R (g x) → gd T (f x) δ fun δ1 => c δ1 fun b => if b = true then elt δ1 fun y => R (some y) else R none) → Q (acc ++ ns.filterMap g) → lcRun T c elt δ Q (ns.map f) acc
  | [], acc, _, _, q => by show Q acc; simpa using q
  | x :: xs, acc, hl, h, q => by
    simp only [List.length_cons] at hl
    refine h x List.mem_cons_self (fun o => match o with | some y => acc.length < sizeLine ∧ lcRun T c elt δ Q (xs.map f) (acc ++ [y]) | none => lcRun T c elt δ Q (xs.map f) acc) ?_
    cases e : g x with
    | none => exact lc_mapG f g xs acc (by omega) (fun z hz => h z (List.mem_cons_of_mem _ hz)) (by simpa [List.filterMap_cons, e] using q)
    | some y => exact ⟨by omega, lc_mapG f g xs (acc ++ [y]) (by simp; omega) (fun z hz => h z (List.mem_cons_of_mem _ hz)) (by simpa [List.filterMap_cons, e] using q)⟩
theorem lc_allG {α : Type} (f : α → D) {T : Tg} {elt : ED} {δ : DS} {Q : List D → Prop} (g : α → D) (ns : List α) (hl : ns.length ≤ 1000000)
    (h : ∀ x ∈ ns, ∀ R : D → Prop, R (g x) → gd T (f x) δ fun δ1 => elt δ1 R) (q : Q (ns.map g)) : lcRun T tYesD elt δ Q (ns.map f) [] := by
  refine lc_mapG f (fun x => some (g x)) ns [] (by have := line_ge; simp; omega) (fun x hx R hR => ?_) ?_
  · exact h x hx (fun y => R (some y)) hR
  · rw [List.nil_append, List.filterMap_eq_map']; exact q
/-- a loop over mapped items -/
theorem for_mapG {α : Type} (f : α → D) {T : Tg} {tb : SD} {E : En} {ns : List α} {δ : DS} (I : List α → DS → Prop) (h0 : I [] δ)
    (hs : ∀ pre x post δ, ns = pre ++ x :: post → I pre δ → ∀ N : DS → Prop, (∀ δ', I (pre ++ [x]) δ' → N δ') → gd T (f x) δ fun δ1 => tb { nx := N, rt := E.rt, bk := E.nx, ct := N } δ1) (hd : ∀ δ, I ns δ → E.nx δ) : forRun T tb E (ns.map f) δ := by
  have go : ∀ (post pre : List α) (δ : DS), ns = pre ++ post → I pre δ → forRun T tb E (post.map f) δ := by
    intro post
    induction post with
    | nil =>
      intro pre δ e h
      rw [List.append_nil] at e
      subst e
      exact hd δ h
    | cons x post ih =>
      intro pre δ e h
      exact hs pre x post δ e h _ fun δ' h' => ih (pre ++ [x]) δ' (by rw [e]; simp) h'
  exact go ns [] δ rfl h0
theorem sem_shape_of : ∀ ds (Q : D → Prop), ds.length = 1 → f_shape_of ds Q → b_shape_of { nx := fun _ => ((Kd.fz : Kd) ≠ .nw) ∧ Q .non, rt := Q } (startD N_shape_of ds) := by
  rintro ds Q _ ⟨ss, rfl, hl, q⟩
  refine ⟨_, rfl, _, rfl, ?_⟩
  refine lc_allG dI (fun s => .int (s.length : Int)) ss (by omega) (fun s hs R hR => ?_) ?_
  · refine ⟨_, rfl, _, .inl rfl, ?_⟩
    rw [List.length_map]; exact hR
  · rw [show ss.map (fun s => D.int (s.length : Int)) = (shapeL ss).map D.int by simp [shapeL]]
    exact q
theorem sem__law_copy : ∀ ds (Q : D → Prop), ds.length = 1 → f__law_copy ds Q → b__law_copy { nx := fun _ => ((Kd.fz : Kd) ≠ .nw) ∧ Q .non, rt := Q } (startD N__law_copy ds) := by
  rintro ds Q _ ⟨ss, rfl, hl, q⟩
  refine ⟨_, rfl, _, rfl, ?_⟩
  exact lc_allG dI dI ss (by omega) (fun s hs R hR => ⟨_, rfl, _, .inl rfl, hR⟩) q
theorem flat_len (ss : List (List Int)) : ss.flatten.length = sumL ss := by
  unfold sumL; rw [List.length_flatten]
theorem sumL_rev (ss : List (List Int)) : sumL ss.reverse = sumL ss := by
  unfold sumL; rw [List.map_reverse, List.sum_reverse]
theorem readL_len (ss : List (List Int)) : (readL ss).length = sumL ss := by
  unfold readL; rw [flat_len, sumL_rev]
theorem sem_reading : ∀ ds (Q : D → Prop), ds.length = 1 → f_reading ds Q → b_reading { nx := fun _ => ((Kd.fz : Kd) ≠ .nw) ∧ Q .non, rt := Q } (startD N_reading ds) := by
  rintro ds Q _ ⟨ss, rfl, hl, hsum, q⟩
  have sl := line_ge
  refine ⟨Nat.zero_le _, _, rfl, _, rfl, ?_⟩
  rw [← List.map_reverse]
  refine for_mapG dI (fun pre δ => ∃ o2 : Option D, δ = [some (dII ss), some (dI pre.flatten), o2]) ⟨_, rfl⟩ (fun pre s post δ e ⟨o2, hδ⟩ N hN => ?_) (fun δ ⟨o2, hδ⟩ => ?_)
  · subst hδ
    have h1 : sumL ss = (pre.flatten ++ s ++ post.flatten).length := by
      rw [← sumL_rev, ← flat_len, e]; simp
    refine ⟨_, rfl, _, rfl, _, rfl, ?_, hN _ ⟨some (dI s), ?_⟩⟩
    · rw [List.length_map, List.length_map]
      rw [List.length_append, List.length_append] at h1
      omega
    · show [_, some (D.lst (pre.flatten.map D.int ++ s.map D.int)), _] = _
      rw [← List.map_append]
      rw [show pre.flatten ++ s = (pre ++ [s]).flatten by simp]
  · subst hδ
    exact ⟨_, rfl, q⟩
theorem sem__law_read : ∀ ds (Q : D → Prop), ds.length = 1 → f__law_read ds Q → b__law_read { nx := fun _ => ((Kd.fz : Kd) ≠ .nw) ∧ Q .non, rt := Q } (startD N__law_read ds) := by
  rintro ds Q _ ⟨ss, rfl, hl, hsum, q⟩
  have sl := line_ge
  refine ⟨Nat.zero_le _, _, rfl, _, .inl rfl, _, rfl, by rw [List.length_map]; omega, by rw [List.length_map]; omega, ?_⟩
  rw [show (((ss.map dI).length : Nat) : Int).toNat = ss.length by simp]
  refine for_rg (fun i δ => ∃ o2 o3 : Option D, δ = [some (dII ss), some (dI (ss.reverse.take i).flatten), o2, o3]) ⟨_, _, rfl⟩ (fun i δ hi ⟨o2, o3, hδ⟩ N hN => ?_) (fun δ ⟨o2, o3, hδ⟩ => ?_)
  · subst hδ
    have hk : ss.length - 1 - i < ss.length := by omega
    have hat : L2.atI (ss.map dI) (((ss.map dI).length : Int) - 1 - (0 + (i : Int))) = some (dI ss[ss.length - 1 - i]) := by
      have z : L2.atI (ss.map dI) (((ss.length - 1 - i : Nat)) : Int) = some (dI ss[ss.length - 1 - i]) := atI_nat (by rw [List.getElem?_map, List.getElem?_eq_getElem hk]; rfl)
      rw [← z]; congr 1
      rw [List.length_map]; omega
    have htk : ss.reverse.take (i + 1) = ss.reverse.take i ++ [ss[ss.length - 1 - i]] := by
      rw [List.take_succ, List.getElem?_reverse hi, List.getElem?_eq_getElem hk]; rfl
    have hle : ((ss.reverse.take i).flatten ++ ss[ss.length - 1 - i]).length ≤ sumL ss := by
      have : ((ss.reverse.take i).flatten ++ ss[ss.length - 1 - i]) = (ss.reverse.take (i + 1)).flatten := by rw [htk]; simp
      rw [this, ← sumL_rev, ← flat_len]
      have h2 : (ss.reverse).flatten = (ss.reverse.take (i + 1)).flatten ++ (ss.reverse.drop (i + 1)).flatten := by rw [← List.flatten_append, List.take_append_drop]
      rw [h2, List.length_append]; omega
    rw [List.length_append] at hle
    refine ⟨_, rfl, _, rfl, _, rfl, _, .inl rfl, _, _, rfl, rfl, _, rfl, _, _, rfl, rfl, _, _, _, .inl rfl, rfl, hat, _, rfl, ?_⟩
    refine lc_filter (fun _ => true) _ (by omega) (Nat.lt_succ_self 3) (fun x hx R hR => ?_) ?_
    · exact ⟨_, rfl, rfl, _, rfl, hR⟩
    · rw [List.filter_eq_self.mpr (fun _ _ => rfl)]
      refine ⟨_, _, rfl, rfl, ?_, hN _ ⟨some (.int (0 + (i : Int))), o3, ?_⟩⟩
      · rw [List.length_map, List.length_map]; omega
      · show [_, some (D.lst (((ss.reverse.take i).flatten).map D.int ++ (ss[ss.length - 1 - i]).map D.int)), _, _] = _
        rw [← List.map_append, htk]
        rw [show (ss.reverse.take i).flatten ++ ss[ss.length - 1 - i] = (ss.reverse.take i ++ [ss[ss.length - 1 - i]]).flatten by simp]
  · subst hδ
    refine ⟨_, rfl, ?_⟩
    rw [List.take_of_length_le (by simp)]
    exact q
theorem shapeL_sum (ss : List (List Int)) : (shapeL ss).sum = (sumL ss : Int) := by
  induction ss with
  | nil => rfl
  | cons s ss ih =>
    simp only [shapeL, sumL, List.map_cons, List.sum_cons] at ih ⊢
    rw [ih]; omega
theorem sem_check_together : ∀ ds (Q : D → Prop) (R : Str → Str → Int → Prop), ds.length = 2 → f_check_together ds Q R → b_check_together { nx := fun _ => ((Kd.fz : Kd) ≠ .nw) ∧ Q .non, rt := Q } R (startD N_check_together ds) := by
  rintro ds Q R _ ⟨ss, tt, rfl, h1, h2, q⟩
  refine ⟨_, rfl, ss, rfl, h1, _, rfl, _, rfl, tt, rfl, h2, _, rfl, _, _, rfl, rfl, _, _, rfl, rfl, _, rfl, ?_⟩
  rw [shapeL_sum, shapeL_sum]
  by_cases c : sumL ss + sumL tt > 14
  · rw [if_pos c] at q
    rw [decide_eq_true (by omega)]
    exact iteT ⟨_, rfl, q⟩
  · rw [if_neg c] at q
    rw [decide_eq_false (by omega)]
    exact iteF ⟨by decide, q⟩
theorem sem_product : ∀ ds (Q : D → Prop) (R : Str → Str → Int → Prop), ds.length = 2 → f_product ds Q R → b_product { nx := fun _ => ((Kd.dp 2 : Kd) ≠ .nw) ∧ Q .non, rt := Q } R (startD N_product ds) := by
  rintro ds Q R _ ⟨ss, tt, rfl, h1, h2, h3, h4, q⟩
  have sl := line_ge
  refine ⟨_, rfl, _, rfl, ss, tt, rfl, h1, h2, ?_⟩
  by_cases c : sumL ss + sumL tt > 14
  · rw [if_pos c] at q ⊢
    exact q
  · rw [if_neg c] at q ⊢
    have l1 := readL_len ss
    have l2 := readL_len tt
    refine ⟨_, rfl, ss, rfl, h1, by omega, _, rfl, tt, rfl, h2, by omega, _, _, rfl, rfl, by rw [List.length_map, List.length_map]; omega, ?_⟩
    rw [← List.map_append]
    exact ⟨_, rfl, by rw [List.length_append]; omega, q⟩
end DL
end

/-! part: FT -/
section
set_option linter.all false
set_option maxRecDepth 100000
namespace DL
/-! ### 26. what is filled is standard in rows and columns; its reading fills it again -/
def RowUp (r : List Int) : Prop := r.Pairwise (· ≤ ·)
/-- row over row -/
def Over (r s : List Int) : Prop := s.length ≤ r.length ∧ ∀ (i : Nat) (h1 : i < s.length) (h2 : i < r.length), r[i] < s[i]
def Tab : List (List Int) → Prop
  | [] => True
  | r :: T => RowUp r ∧ r ≠ [] ∧ (∀ s ∈ T.head?, Over r s) ∧ Tab T
theorem place_lt {r : List Int} {j : Int} {k : Nat} (h : k < placeL r j) (hk : k < r.length) : r[k] ≤ j := by
  have := List.not_of_lt_findIdx (p := fun o => decide (o > j)) (xs := r) h
  simp at this
  exact this
theorem place_gt {r : List Int} {j : Int} (h : placeL r j < r.length) : j < r[placeL r j] := by
  exact of_decide_eq_true (List.findIdx_getElem (p := fun o => decide (o > j)) (xs := r) (w := h))
theorem place_le_of {r : List Int} {j : Int} {k : Nat} (hk : k < r.length) (h : j < r[k]) : placeL r j ≤ k := by
  apply Nat.le_of_not_lt
  intro h2
  have := place_lt h2 hk
  omega
theorem rowUp_get {r : List Int} (h : RowUp r) {i k : Nat} (hik : i < k) (hk : k < r.length) : r[i] ≤ r[k] := List.pairwise_iff_getElem.mp h i k (by omega) hk hik
theorem rowUp_of {r : List Int} (h : ∀ i k (h1 : i < k) (h2 : k < r.length), r[i] ≤ r[k]) : RowUp r := List.pairwise_iff_getElem.mpr fun i k _ hk hik => h i k hik hk
theorem rowUp_set {r : List Int} (h : RowUp r) {j : Int} (hp : placeL r j < r.length) : RowUp (r.set (placeL r j) j) := by
  refine rowUp_of fun i k h1 h2 => ?_
  rw [List.length_set] at h2
  rw [List.getElem_set, List.getElem_set]
  by_cases a : placeL r j = i
  · rw [if_pos a, if_neg (by omega)]
    have := place_gt hp
    have z := rowUp_get h (i := i) (k := k) h1 h2
    simp only [a] at this
    omega
  · rw [if_neg a]
    by_cases b : placeL r j = k
    · rw [if_pos b]; exact place_lt (by omega) (by omega)
    · rw [if_neg b]; exact rowUp_get h h1 h2
theorem rowUp_app {r : List Int} (h : RowUp r) {j : Int} (hp : ¬ placeL r j < r.length) : RowUp (r ++ [j]) := by
  refine List.pairwise_append.mpr ⟨h, List.pairwise_singleton _ _, fun a ha b hb => ?_⟩
  rw [List.mem_singleton.mp hb]
  obtain ⟨k, hk, rfl⟩ := List.getElem_of_mem ha
  have := placeL_le r j
  exact place_lt (by omega) hk
/-- a bumped jar goes no further to the right -/
theorem over_put {r s : List Int} {T : List (List Int)} {j : Int} (hr : RowUp r) (ho : Over r s) (hp : placeL r j < r.length) : ∀ s' ∈ (putL (s :: T) r[placeL r j]).1.head?, Over (r.set (placeL r j) j) s' := by
  intro s' hs'
  have hb := place_gt hp
  have hq : placeL s r[placeL r j] ≤ placeL r j := by
    by_cases c : placeL r j < s.length
    · exact place_le_of c (ho.2 _ c hp)
    · have := placeL_le s r[placeL r j]; omega
  by_cases c : placeL s r[placeL r j] < s.length
  · rw [putL_go c] at hs'
    simp at hs'
    subst hs'
    refine ⟨by rw [List.length_set, List.length_set]; exact ho.1, fun i h1 h2 => ?_⟩
    rw [List.length_set] at h1 h2
    rw [List.getElem_set, List.getElem_set]
    have o1 := ho.2 i h1 h2
    by_cases a : placeL r j = i
    · rw [if_pos a]
      by_cases b : placeL s r[placeL r j] = i
      · rw [if_pos b]; exact hb
      · rw [if_neg b]
        have : r[placeL r j] = r[i] := by simp only [a]
        omega
    · rw [if_neg a]
      by_cases b : placeL s r[placeL r j] = i
      · rw [if_pos b]
        have := place_lt (r := r) (j := j) (k := i) (by omega) h2
        omega
      · rw [if_neg b]; exact o1
  · rw [putL_end c] at hs'
    simp at hs'
    subst hs'
    have hlen := placeL_le s r[placeL r j]
    refine ⟨by rw [List.length_set]; simp; omega, fun i h1 h2 => ?_⟩
    rw [List.length_set] at h2
    rw [List.getElem_set]
    by_cases hi : i < s.length
    · rw [List.getElem_append_left hi]
      have o1 := ho.2 i hi h2
      by_cases a : placeL r j = i
      · rw [if_pos a]
        have : r[placeL r j] = r[i] := by simp only [a]
        omega
      · rw [if_neg a]; exact o1
    · have hi' : i = s.length := by simp at h1; omega
      subst hi'
      rw [List.getElem_append_right (Nat.le_refl _)]
      simp
      by_cases a : placeL r j = s.length
      · rw [if_pos a]; exact hb
      · rw [if_neg a]
        have := place_lt (r := r) (j := j) (k := s.length) (by omega) h2
        omega
theorem putL_tab : ∀ (T : List (List Int)) (j : Int), Tab T → Tab (putL T j).1
  | [], j, _ => ⟨List.pairwise_singleton _ _, by simp, by simp, trivial⟩
  | r :: T, j, ⟨h1, h2, h3, h4⟩ => by
    by_cases c : placeL r j < r.length
    · rw [putL_go c]
      refine ⟨rowUp_set h1 c, fun e => h2 (by have := congrArg List.length e; simpa using this), ?_, putL_tab T _ h4⟩
      cases T with
      | nil =>
        intro s' hs'
        simp [putL] at hs'
        subst hs'
        refine ⟨by simp; have := List.length_pos_iff.mpr h2; omega, fun i g1 g2 => ?_⟩
        have hi : i = 0 := by simp at g1; omega
        subst hi
        rw [List.getElem_set]
        have := place_gt c
        by_cases a : placeL r j = 0
        · rw [if_pos a]; exact this
        · rw [if_neg a]
          have := place_lt (r := r) (j := j) (k := 0) (by omega) (by omega)
          simp; omega
      | cons s T => exact over_put h1 (h3 s (by simp)) c
    · rw [putL_end c]
      refine ⟨rowUp_app h1 c, by simp, fun s hs => ?_, h4⟩
      have o := h3 s hs
      refine ⟨by simp; exact Nat.le_succ_of_le o.1, fun i g1 g2 => ?_⟩
      have := o.1
      rw [List.getElem_append_left (by omega)]
      exact o.2 i g1 (by omega)
theorem fillL_tab (row : List Int) : Tab (fillL row) := by
  refine snocInd (P := fun row => Tab (fillL row)) trivial (fun l j ih => ?_) row
  rw [fillL_append]
  exact putL_tab _ _ ih
def putAll (T : List (List Int)) (row : List Int) : List (List Int) := row.foldl (fun ss j => (putL ss j).1) T
theorem putAll_append (T : List (List Int)) (a b : List Int) : putAll T (a ++ b) = putAll (putAll T a) b := List.foldl_append
theorem fillL_eq (row : List Int) : fillL row = putAll [] row := rfl
/-- a row over a tableau -/
theorem putAll_row {r s : List Int} {T : List (List Int)} (hr : RowUp r) (ho : Over r s) : ∀ i, i ≤ r.length → putAll (s :: T) (r.take i) = (r.take i ++ s.drop i) :: putAll T (s.take i)
  | 0, _ => by simp [putAll]
  | i + 1, h => by
    have hi : i < r.length := by omega
    have ih := putAll_row (T := T) hr ho i (by omega)
    have tk : r.take (i + 1) = r.take i ++ [r[i]] := by rw [List.take_succ, List.getElem?_eq_getElem hi]; rfl
    have tl : (r.take i).length = i := by rw [List.length_take]; omega
    rw [tk, putAll_append, ih]
    show (putL ((r.take i ++ s.drop i) :: putAll T (s.take i)) r[i]).1 = _
    have small : ∀ k (hk : k < i) (hk2 : k < (r.take i ++ s.drop i).length), ¬ (r.take i ++ s.drop i)[k] > r[i] := fun k hk hk2 => by
      rw [List.getElem_append_left (by omega), List.getElem_take]
      have := rowUp_get hr (i := k) (k := i) hk hi
      omega
    by_cases c : i < s.length
    · have hl : i < (r.take i ++ s.drop i).length := by rw [List.length_append, tl, List.length_drop]; omega
      have hg : (r.take i ++ s.drop i)[i] = s[i] := by
        rw [List.getElem_append_right (by omega)]
        simp [tl]
      have hp : placeL (r.take i ++ s.drop i) r[i] = i := place_eq hl (by rw [hg]; exact ho.2 i c hi) fun k hk => small k hk (by omega)
      rw [putL_go (by rw [hp]; exact hl)]
      simp only [hp, hg]
      have sk : s.take (i + 1) = s.take i ++ [s[i]] := by rw [List.take_succ, List.getElem?_eq_getElem c]; rfl
      rw [sk, putAll_append]
      congr 1
      rw [List.set_append_right _ _ (by omega), tl, Nat.sub_self]
      rw [List.drop_eq_getElem_cons c, List.set_cons_zero]
      first | (rw [tk, List.append_assoc]; rfl) | (rw [List.append_assoc]; rfl)
    · have hd : s.drop i = [] := List.drop_eq_nil_of_le (by omega)
      rw [hd, List.append_nil] at small ⊢
      have hp : placeL (r.take i) r[i] = (r.take i).length := place_none fun k hk => small k (by omega) hk
      rw [putL_end (by omega)]
      rw [List.drop_eq_nil_of_le (by omega), List.append_nil, List.take_of_length_le (show s.length ≤ i by omega), List.take_of_length_le (show s.length ≤ i + 1 by omega)]
theorem putAll_one {r : List Int} (hr : RowUp r) (hne : r ≠ []) : putAll [] r = [r] := by
  cases r with
  | nil => exact absurd rfl hne
  | cons x r =>
    show putAll [[x]] r = _
    have : ∀ i, i ≤ r.length → putAll [[x]] (r.take i) = [x :: r.take i] := by
      intro i
      induction i with
      | zero => intro _; simp [putAll]
      | succ i ih =>
        intro h
        have hi : i < r.length := by omega
        have tk : r.take (i + 1) = r.take i ++ [r[i]] := by rw [List.take_succ, List.getElem?_eq_getElem hi]; rfl
        rw [tk, putAll_append, ih (by omega)]
        show (putL [x :: r.take i] r[i]).1 = _
        have hp : placeL (x :: r.take i) r[i] = (x :: r.take i).length := place_none fun k hk => by
          have e : (x :: r.take i)[k] = (x :: r)[k]'(by simp at hk ⊢; omega) := by
            cases k with
            | zero => rfl
            | succ k => simp
          rw [e]
          have hk' : k < i + 1 := by simp at hk; omega
          have := rowUp_get hr (i := k) (k := i + 1) hk' (by simp; omega)
          simp at this
          omega
        rw [putL_end (by omega)]
        simp
    have z := this r.length (Nat.le_refl _)
    rw [List.take_length] at z
    exact z
theorem putAll_read : ∀ (T : List (List Int)), Tab T → putAll [] (readL T) = T
  | [], _ => rfl
  | r :: T, ⟨h1, h2, h3, h4⟩ => by
    have e : readL (r :: T) = readL T ++ r := by simp [readL]
    rw [e, putAll_append, putAll_read T h4]
    cases T with
    | nil => exact putAll_one h1 h2
    | cons s T =>
      have ho := h3 s (by simp)
      have := putAll_row (T := T) h1 ho r.length (Nat.le_refl _)
      rw [List.take_length, List.drop_eq_nil_of_le ho.1, List.append_nil, List.take_of_length_le ho.1] at this
      rw [this]
      congr 1
      -- the row below over what is below it
      have ih := putAll_read (s :: T) h4
      have e2 : readL (s :: T) = readL T ++ s := by simp [readL]
      rw [e2, putAll_append, putAll_read T h4.2.2.2] at ih
      exact ih
end DL
end

/-! part: FK -/
section
set_option linter.all false
set_option maxRecDepth 100000
namespace DL
/-! ### 27. exchanges change no filling -/
/-- x at place p, which is one of the row's or the next -/
def updR (r : List Int) (p : Nat) (x : Int) : List Int := if p < r.length then r.set p x else r ++ [x]
theorem updR_get {r : List Int} {p : Nat} (hp : p ≤ r.length) (x : Int) (k : Nat) : (updR r p x)[k]? = if k = p then some x else r[k]? := by
  unfold updR
  by_cases h : p < r.length
  · rw [if_pos h]
    by_cases e : k = p
    · subst e; rw [if_pos rfl, List.getElem?_set_self h]
    · rw [if_neg e, List.getElem?_set_ne (Ne.symm e)]
  · rw [if_neg h]
    have hp' : p = r.length := by omega
    by_cases e : k = p
    · subst e; rw [if_pos rfl, hp']; simp
    · rw [if_neg e]
      by_cases hk : k < r.length
      · rw [List.getElem?_append_left hk]
      · rw [List.getElem?_append_right (by omega), List.getElem?_eq_none (by simp; omega), List.getElem?_eq_none (by omega)]
theorem updR_len {r : List Int} {p : Nat} (hp : p ≤ r.length) (x : Int) : (updR r p x).length = if p = r.length then r.length + 1 else r.length := by
  unfold updR
  by_cases h : p < r.length
  · rw [if_pos h, if_neg (by omega)]; simp
  · rw [if_neg h, if_pos (by omega)]; simp
/-- one jar into a row: the row, and what is bumped -/
def ins (r : List Int) (x : Int) : List Int × List Int := (updR r (placeL r x) x, (r[placeL r x]?).toList)
def insW : List Int → List Int → List Int × List Int
  | r, [] => (r, [])
  | r, x :: w => ((insW (ins r x).1 w).1, (ins r x).2 ++ (insW (ins r x).1 w).2)
theorem putAll_ins (r : List Int) (T : List (List Int)) (x : Int) : (putL (r :: T) x).1 = (ins r x).1 :: putAll T (ins r x).2 := by
  have hle := placeL_le r x
  by_cases c : placeL r x < r.length
  · rw [putL_go c]
    unfold ins updR
    rw [if_pos c, List.getElem?_eq_getElem c]
    rfl
  · rw [putL_end c]
    unfold ins updR
    rw [if_neg c, List.getElem?_eq_none (by omega)]
    rfl
theorem putAll_cons (T : List (List Int)) (x : Int) (w : List Int) : putAll T (x :: w) = putAll (putL T x).1 w := rfl
theorem putAll_insW : ∀ (w r : List Int) (T : List (List Int)), putAll (r :: T) w = (insW r w).1 :: putAll T (insW r w).2
  | [], r, T => rfl
  | x :: w, r, T => by
    rw [putAll_cons, putAll_ins, putAll_insW w]
    show _ = _ :: putAll T ((ins r x).2 ++ (insW (ins r x).1 w).2)
    rw [putAll_append]
    rfl
theorem place_of {r : List Int} {x : Int} {p : Nat} (hp : p ≤ r.length) (h1 : ∀ k v, k < p → r[k]? = some v → v ≤ x) (h2 : ∀ v, r[p]? = some v → x < v) : placeL r x = p := by
  by_cases c : p < r.length
  · refine place_eq c (h2 _ (List.getElem?_eq_getElem c)) fun k hk => ?_
    have := h1 k _ hk (List.getElem?_eq_getElem (by omega))
    omega
  · have e : p = r.length := by omega
    rw [e]
    exact place_none fun k hk => by
      have := h1 k _ (by omega) (List.getElem?_eq_getElem hk)
      omega
theorem place_below {r : List Int} {x : Int} {k : Nat} {v : Int} (h : k < placeL r x) (e : r[k]? = some v) : v ≤ x := by
  obtain ⟨hk, rfl⟩ := List.getElem?_eq_some_iff.mp e
  exact place_lt h hk
theorem place_above {r : List Int} {x : Int} {v : Int} (e : r[placeL r x]? = some v) : x < v := by
  obtain ⟨hk, rfl⟩ := List.getElem?_eq_some_iff.mp e
  exact place_gt hk
theorem up_get {r : List Int} (h : RowUp r) {i k : Nat} {a b : Int} (hik : i ≤ k) (ha : r[i]? = some a) (hb : r[k]? = some b) : a ≤ b := by
  obtain ⟨h1, rfl⟩ := List.getElem?_eq_some_iff.mp ha
  obtain ⟨h2, rfl⟩ := List.getElem?_eq_some_iff.mp hb
  by_cases e : i = k
  · subst e; exact Int.le_refl _
  · exact rowUp_get h (by omega) h2
/-- the exchanges -/
inductive Kn : List Int → List Int → Prop
  | a {x y z : Int} : x ≤ y → y < z → Kn [x, z, y] [z, x, y]
  | b {x y z : Int} : x < y → y ≤ z → Kn [y, z, x] [y, x, z]
theorem ins_at {r : List Int} {x : Int} {p : Nat} (h : placeL r x = p) : ins r x = (updR r p x, (r[p]?).toList) := by unfold ins; rw [h]
theorem insW3 (r : List Int) (x y z : Int) {r1 r2 r3 b1 b2 b3 : List Int} (h1 : ins r x = (r1, b1)) (h2 : ins r1 y = (r2, b2)) (h3 : ins r2 z = (r3, b3)) : insW r [x, y, z] = (r3, b1 ++ (b2 ++ b3)) := by
  simp [insW, h1, h2, h3]
theorem row_a {r : List Int} (hr : RowUp r) {x y z : Int} (hxy : x ≤ y) (hyz : y < z) : (insW r [x, z, y]).1 = (insW r [z, x, y]).1 ∧ ((insW r [x, z, y]).2 = (insW r [z, x, y]).2 ∨ Kn (insW r [x, z, y]).2 (insW r [z, x, y]).2) := by
  have hp := placeL_le r x
  have hq := placeL_le r z
  generalize ep : placeL r x = p at hp
  generalize eq : placeL r z = q at hq
  have hpq : p ≤ q := by
    apply Nat.le_of_not_lt
    intro h
    have hq' : q < r.length := by omega
    have h1 := place_below (x := x) (r := r) (k := q) (by omega) (List.getElem?_eq_getElem hq')
    have h2 := place_above (r := r) (x := z) (by rw [eq]; exact List.getElem?_eq_getElem hq')
    omega
  -- x first
  have lp := updR_len hp x
  have lq := updR_len hq z
  by_cases c : p < q
  · -- apart
    have hpl : p < r.length := by omega
    have hga := List.getElem?_eq_getElem hpl
    have haz : r[p] ≤ z := place_below (by omega) hga
    have hxa : x < r[p] := place_above (by rw [ep]; exact hga)
    have pz : placeL (updR r p x) z = q := by
      refine place_of (by rw [lp]; split <;> omega) (fun k v hk e => ?_) (fun v e => ?_)
      · rw [updR_get hp] at e
        split at e
        · cases e; omega
        · exact place_below (by omega) e
      · rw [updR_get hp, if_neg (by omega)] at e
        exact place_above (by rw [eq]; exact e)
    have px : placeL (updR r q z) x = p := by
      refine place_of (by rw [lq]; split <;> omega) (fun k v hk e => ?_) (fun v e => ?_)
      · rw [updR_get hq, if_neg (by omega)] at e
        exact place_below (by omega) e
      · rw [updR_get hq, if_neg (by omega)] at e
        exact place_above (by rw [ep]; exact e)
    have hq1 : q ≤ (updR r p x).length := by rw [lp]; split <;> omega
    have hp1 : p ≤ (updR r q z).length := by rw [lq]; split <;> omega
    have er : updR (updR r p x) q z = updR (updR r q z) p x := by
      apply List.ext_getElem?
      intro k
      rw [updR_get hq1, updR_get hp, updR_get hp1, updR_get hq]
      by_cases a : k = p
      · subst a; rw [if_neg (by omega), if_pos rfl, if_pos rfl]
      · by_cases b : k = q
        · subst b; rw [if_pos rfl, if_neg a, if_pos rfl]
        · rw [if_neg b, if_neg a, if_neg a, if_neg b]
    have i1 := insW3 r x z y (ins_at ep) (ins_at pz) (ins_at (rfl : placeL (updR (updR r p x) q z) y = _))
    have i2 := insW3 r z x y (ins_at eq) (ins_at px) (ins_at (rfl : placeL (updR (updR r q z) p x) y = _))
    rw [i1, i2, ← er]
    refine ⟨rfl, ?_⟩
    rw [updR_get hp, if_neg (show ¬ q = p by omega), updR_get hq, if_neg (show ¬ p = q by omega), hga]
    generalize er2 : updR (updR r p x) q z = r2
    have g2 : ∀ k, r2[k]? = if k = q then some z else if k = p then some x else r[k]? := fun k => by rw [← er2, updR_get hq1, updR_get hp]
    cases hb : r[q]? with
    | none => left; simp
    | some b =>
      -- what y bumps
      have hzb : z < b := place_above (by rw [eq]; exact hb)
      have l2 : q < r2.length := by
        rw [← er2, updR_len hq1, lp]
        have := (List.getElem?_eq_some_iff.mp hb).1
        rw [if_neg (show ¬ p = r.length by omega), if_neg (by omega)]
        exact this
      have ps : placeL r2 y ≤ q := by
        obtain ⟨h1, h2⟩ := List.getElem?_eq_some_iff.mp (show r2[q]? = some z by rw [g2, if_pos rfl])
        exact place_le_of h1 (by rw [h2]; exact hyz)
      have hs : placeL r2 y < r2.length := by omega
      obtain ⟨cv, hgs⟩ : ∃ cv, r2[placeL r2 y]? = some cv := ⟨_, List.getElem?_eq_getElem hs⟩
      have hy : y < cv := place_above hgs
      have hpsl : p < placeL r2 y := by
        apply Nat.lt_of_not_le
        intro h
        by_cases e : placeL r2 y = p
        · have e3 := hgs
          rw [g2, if_neg (by omega), if_pos e] at e3
          have := Option.some.inj e3
          omega
        · -- an earlier place: r's own, at most x
          have e3 := hgs
          rw [g2, if_neg (by omega), if_neg e] at e3
          have := place_below (r := r) (x := x) (k := placeL r2 y) (by omega) e3
          omega
      right
      rw [hgs]
      have hcz : cv ≤ z := by
        have e3 := hgs
        rw [g2] at e3
        by_cases e : placeL r2 y = q
        · rw [if_pos e] at e3
          have := Option.some.inj e3; omega
        · rw [if_neg e, if_neg (by omega)] at e3
          exact place_below (by omega) e3
      have hac : r[p] ≤ cv := by
        have e3 := hgs
        rw [g2] at e3
        by_cases e : placeL r2 y = q
        · rw [if_pos e] at e3
          have := Option.some.inj e3; omega
        · rw [if_neg e, if_neg (by omega)] at e3
          exact up_get hr (by omega) hga e3
      exact Kn.a hac (by omega)
  · -- at the same place
    have e0 : q = p := by omega
    subst e0
    have hq1 : q + 1 ≤ (updR r q x).length := by rw [lp]; split <;> omega
    have hq2 : q ≤ (updR r q z).length := by rw [lq]; split <;> omega
    -- x, then z behind it, then y on z
    have pz : placeL (updR r q x) z = q + 1 := by
      refine place_of hq1 (fun k v hk e => ?_) (fun v e => ?_)
      · rw [updR_get hp] at e
        split at e
        · cases e; omega
        · exact place_below (by omega) e
      · rw [updR_get hp, if_neg (by omega)] at e
        cases hb : r[q]? with
        | none =>
          have := List.getElem?_eq_none_iff.mp hb
          rw [List.getElem?_eq_none (by omega)] at e; cases e
        | some b =>
          have h1 := place_above (r := r) (x := z) (by rw [eq]; exact hb)
          have h2 := up_get hr (Nat.le_succ q) hb e
          omega
    have px : placeL (updR r q z) x = q := by
      refine place_of hq2 (fun k v hk e => ?_) (fun v e => ?_)
      · rw [updR_get hp, if_neg (by omega)] at e
        exact place_below (by omega) e
      · rw [updR_get hp, if_pos rfl] at e
        cases e; omega
    have g1 : ∀ k, (updR (updR r q x) (q + 1) z)[k]? = if k = q + 1 then some z else if k = q then some x else r[k]? := fun k => by rw [updR_get hq1, updR_get hp]
    have g2 : ∀ k, (updR (updR r q z) q x)[k]? = if k = q then some x else r[k]? := fun k => by
      rw [updR_get hq2, updR_get hp]
      by_cases e : k = q
      · rw [if_pos e, if_pos e]
      · rw [if_neg e, if_neg e, if_neg e]
    have l1 : q + 1 < (updR (updR r q x) (q + 1) z).length := by
      have := (List.getElem?_eq_some_iff.mp (show (updR (updR r q x) (q + 1) z)[q + 1]? = some z by rw [g1, if_pos rfl])).1
      exact this
    have l2 : q < (updR (updR r q z) q x).length := (List.getElem?_eq_some_iff.mp (show (updR (updR r q z) q x)[q]? = some x by rw [g2, if_pos rfl])).1
    have py1 : placeL (updR (updR r q x) (q + 1) z) y = q + 1 := by
      refine place_of (by omega) (fun k v hk e => ?_) (fun v e => ?_)
      · rw [g1, if_neg (by omega)] at e
        split at e
        · cases e; exact hxy
        · have := place_below (r := r) (x := x) (by omega) e
          omega
      · rw [g1, if_pos rfl] at e
        cases e; exact hyz
    have py2 : placeL (updR (updR r q z) q x) y = q + 1 := by
      refine place_of (by omega) (fun k v hk e => ?_) (fun v e => ?_)
      · rw [g2] at e
        split at e
        · cases e; exact hxy
        · have := place_below (r := r) (x := x) (by omega) e
          omega
      · rw [g2, if_neg (by omega)] at e
        cases hb : r[q]? with
        | none =>
          have := List.getElem?_eq_none_iff.mp hb
          rw [List.getElem?_eq_none (by omega)] at e; cases e
        | some b =>
          have h1 := place_above (r := r) (x := z) (by rw [eq]; exact hb)
          have h2 := up_get hr (Nat.le_succ q) hb e
          omega
    have i1 := insW3 r x z y (ins_at ep) (ins_at pz) (ins_at py1)
    have i2 := insW3 r z x y (ins_at eq) (ins_at px) (ins_at py2)
    rw [i1, i2]
    refine ⟨?_, ?_⟩
    · apply List.ext_getElem?
      intro k
      show (updR (updR (updR r q x) (q + 1) z) (q + 1) y)[k]? = (updR (updR (updR r q z) q x) (q + 1) y)[k]?
      rw [updR_get (r := updR (updR r q x) (q + 1) z) (by omega), updR_get (r := updR (updR r q z) q x) (by omega), g1, g2]
      by_cases e : k = q + 1
      · rw [if_pos e, if_pos e]
      · rw [if_neg e, if_neg e, if_neg e]
    · show (r[q]?.toList ++ ((updR r q x)[q + 1]?.toList ++ (updR (updR r q x) (q + 1) z)[q + 1]?.toList)) = (r[q]?.toList ++ ((updR r q z)[q]?.toList ++ (updR (updR r q z) q x)[q + 1]?.toList)) ∨ Kn (r[q]?.toList ++ ((updR r q x)[q + 1]?.toList ++ (updR (updR r q x) (q + 1) z)[q + 1]?.toList)) (r[q]?.toList ++ ((updR r q z)[q]?.toList ++ (updR (updR r q z) q x)[q + 1]?.toList))
      rw [g1, if_pos rfl, g2, if_neg (by omega), updR_get hp, if_neg (by omega), updR_get hp, if_pos rfl]
      cases hb : r[q]? with
      | none =>
        have := List.getElem?_eq_none_iff.mp hb
        left
        rw [List.getElem?_eq_none (by omega)]
        rfl
      | some b =>
        cases hb2 : r[q + 1]? with
        | none => left; rfl
        | some b2 =>
          right
          have h1 := place_above (r := r) (x := z) (by rw [eq]; exact hb)
          have h2 := up_get hr (Nat.le_succ q) hb hb2
          exact Kn.b h1 h2
theorem row_b {r : List Int} (hr : RowUp r) {x y z : Int} (hxy : x < y) (hyz : y ≤ z) : (insW r [y, z, x]).1 = (insW r [y, x, z]).1 ∧ ((insW r [y, z, x]).2 = (insW r [y, x, z]).2 ∨ Kn (insW r [y, z, x]).2 (insW r [y, x, z]).2) := by
  have hp := placeL_le r y
  generalize ep : placeL r y = p at hp
  have lp := updR_len hp y
  have g1 : ∀ k, (updR r p y)[k]? = if k = p then some y else r[k]? := fun k => updR_get hp y k
  have hpl : p < (updR r p y).length := (List.getElem?_eq_some_iff.mp (show (updR r p y)[p]? = some y by rw [g1, if_pos rfl])).1
  have hq := placeL_le (updR r p y) z
  generalize eq : placeL (updR r p y) z = q at hq
  have hs := placeL_le (updR r p y) x
  generalize es : placeL (updR r p y) x = s at hs
  have hsp : s ≤ p := by
    obtain ⟨h1, h2⟩ := List.getElem?_eq_some_iff.mp (show (updR r p y)[p]? = some y by rw [g1, if_pos rfl])
    rw [← es]
    exact place_le_of h1 (by rw [h2]; exact hxy)
  have hpq : p < q := by
    apply Nat.lt_of_not_le
    intro h
    have hq' : q < (updR r p y).length := by omega
    obtain ⟨v, hv⟩ : ∃ v, (updR r p y)[q]? = some v := ⟨_, List.getElem?_eq_getElem hq'⟩
    have h1 := place_above (r := updR r p y) (x := z) (by rw [eq]; exact hv)
    rw [g1] at hv
    by_cases e : q = p
    · rw [if_pos e] at hv
      have := Option.some.inj hv; omega
    · rw [if_neg e] at hv
      have := place_below (r := r) (x := y) (by omega) hv
      omega
  have lq := updR_len hq z
  have ls := updR_len hs x
  have hs1 : s ≤ (updR (updR r p y) q z).length := by rw [lq]; split <;> omega
  have hq1 : q ≤ (updR (updR r p y) s x).length := by rw [ls]; split <;> omega
  have px : placeL (updR (updR r p y) q z) x = s := by
    refine place_of hs1 (fun k v hk e => ?_) (fun v e => ?_)
    · rw [updR_get hq, if_neg (by omega)] at e
      exact place_below (by omega) e
    · rw [updR_get hq, if_neg (by omega)] at e
      exact place_above (by rw [es]; exact e)
  have pz : placeL (updR (updR r p y) s x) z = q := by
    refine place_of hq1 (fun k v hk e => ?_) (fun v e => ?_)
    · rw [updR_get hs] at e
      split at e
      · cases e; omega
      · exact place_below (by omega) e
    · rw [updR_get hs, if_neg (by omega)] at e
      exact place_above (by rw [eq]; exact e)
  have i1 := insW3 r y z x (ins_at ep) (ins_at eq) (ins_at px)
  have i2 := insW3 r y x z (ins_at ep) (ins_at es) (ins_at pz)
  rw [i1, i2]
  refine ⟨?_, ?_⟩
  · apply List.ext_getElem?
    intro k
    show (updR (updR (updR r p y) q z) s x)[k]? = (updR (updR (updR r p y) s x) q z)[k]?
    rw [updR_get hs1, updR_get hq, updR_get hq1, updR_get hs]
    by_cases a : k = s
    · subst a; rw [if_pos rfl, if_neg (by omega), if_pos rfl]
    · by_cases b : k = q
      · subst b; rw [if_neg a, if_pos rfl, if_pos rfl]
      · rw [if_neg a, if_neg b, if_neg b, if_neg a]
  · show (r[p]?.toList ++ ((updR r p y)[q]?.toList ++ (updR (updR r p y) q z)[s]?.toList)) = (r[p]?.toList ++ ((updR r p y)[s]?.toList ++ (updR (updR r p y) s x)[q]?.toList)) ∨ Kn (r[p]?.toList ++ ((updR r p y)[q]?.toList ++ (updR (updR r p y) q z)[s]?.toList)) (r[p]?.toList ++ ((updR r p y)[s]?.toList ++ (updR (updR r p y) s x)[q]?.toList))
    rw [updR_get hq, if_neg (show ¬ s = q by omega), updR_get hs, if_neg (show ¬ q = s by omega)]
    cases hb : (updR r p y)[q]? with
    | none => left; simp
    | some b =>
      rw [g1, if_neg (by omega)] at hb
      obtain ⟨a, ha⟩ : ∃ a, r[p]? = some a := ⟨_, List.getElem?_eq_getElem (by have := (List.getElem?_eq_some_iff.mp hb).1; omega)⟩
      obtain ⟨c, hc⟩ : ∃ c, (updR r p y)[s]? = some c := ⟨_, List.getElem?_eq_getElem (by omega)⟩
      right
      rw [ha, hc]
      have hab : a ≤ b := up_get hr (by omega) ha hb
      have hya : y < a := place_above (by rw [ep]; exact ha)
      have hcy : c ≤ y := by
        rw [g1] at hc
        by_cases e : s = p
        · rw [if_pos e] at hc
          have := Option.some.inj hc; omega
        · rw [if_neg e] at hc
          exact place_below (by omega) hc
      exact Kn.b (by omega) hab
theorem row_kn {r w v : List Int} (hr : RowUp r) (h : Kn w v) : (insW r w).1 = (insW r v).1 ∧ ((insW r w).2 = (insW r v).2 ∨ Kn (insW r w).2 (insW r v).2) := by
  cases h with
  | a h1 h2 => exact row_a hr h1 h2
  | b h1 h2 => exact row_b hr h1 h2
theorem Kn.len {w v : List Int} (h : Kn w v) : w.length = 3 := by cases h <;> rfl
theorem ins_len (r : List Int) (x : Int) : (ins r x).1.length + (ins r x).2.length = r.length + 1 := by
  unfold ins
  have hp := placeL_le r x
  rw [updR_len hp]
  by_cases c : placeL r x = r.length
  · rw [if_pos c, List.getElem?_eq_none (by omega)]; rfl
  · rw [if_neg c, List.getElem?_eq_getElem (by omega)]; rfl
theorem insW_len : ∀ (w r : List Int), (insW r w).1.length + (insW r w).2.length = r.length + w.length
  | [], r => by simp [insW]
  | x :: w, r => by
    have h1 := ins_len r x
    have h2 := insW_len w (ins r x).1
    simp [insW]
    omega
theorem insW_ne (x : Int) (w r : List Int) : (insW r (x :: w)).1 ≠ [] := by
  have : ∀ (w r : List Int), r ≠ [] → (insW r w).1 ≠ [] := by
    intro w
    induction w with
    | nil => intro r h; exact h
    | cons x w ih =>
      intro r h
      refine ih _ fun e => ?_
      have : (updR r (placeL r x) x)[placeL r x]? = some x := by rw [updR_get (placeL_le r x), if_pos rfl]
      have e' : updR r (placeL r x) x = [] := e
      rw [e'] at this
      simp at this
  refine this w _ fun e => ?_
  have h : (updR r (placeL r x) x)[placeL r x]? = some x := by rw [updR_get (placeL_le r x), if_pos rfl]
  have e' : updR r (placeL r x) x = [] := e
  rw [e'] at h
  simp at h
theorem putAll_nil1 (x : Int) (w : List Int) : putAll [] (x :: w) = putAll [[]] (x :: w) := rfl
/-- exchanges change no filling -/
theorem putAll_kn : ∀ (T : List (List Int)) {w v : List Int}, (∀ r ∈ T, RowUp r) → Kn w v → putAll T w = putAll T v
  | [], w, v, _, h => by
    have e : putAll [] w = putAll [[]] w ∧ putAll [] v = putAll [[]] v := by cases h <;> exact ⟨rfl, rfl⟩
    rw [e.1, e.2, putAll_insW, putAll_insW]
    obtain ⟨h1, h2⟩ := row_kn (r := []) List.Pairwise.nil h
    rw [h1]
    rcases h2 with h2 | h2
    · rw [h2]
    · exfalso
      have l1 := h2.len
      have l2 := insW_len w []
      have l3 := h.len
      have : (insW [] w).1 ≠ [] := by cases h <;> exact insW_ne _ _ _
      have := List.length_pos_iff.mpr this
      simp at l2
      omega
  | r :: T, w, v, hT, h => by
    rw [putAll_insW, putAll_insW]
    obtain ⟨h1, h2⟩ := row_kn (hT r List.mem_cons_self) h
    rw [h1]
    rcases h2 with h2 | h2
    · rw [h2]
    · rw [putAll_kn T (fun s hs => hT s (List.mem_cons_of_mem _ hs)) h2]
theorem Tab.rows : ∀ {T : List (List Int)}, Tab T → ∀ r ∈ T, RowUp r
  | [], _, r, h => by cases h
  | s :: T, ⟨h1, _, _, h4⟩, r, h => by
    rcases List.mem_cons.mp h with rfl | h
    · exact h1
    · exact Tab.rows h4 r h
/-- alike: the same shelves, whatever stands on either side -/
def Alike (w v : List Int) : Prop := ∀ T, Tab T → putAll T w = putAll T v
theorem Alike.refl (w : List Int) : Alike w w := fun _ _ => rfl
theorem Alike.trans {a b c : List Int} (h : Alike a b) (g : Alike b c) : Alike a c := fun T t => (h T t).trans (g T t)
theorem Alike.symm {a b : List Int} (h : Alike a b) : Alike b a := fun T t => (h T t).symm
theorem putAll_tab {T : List (List Int)} (w : List Int) (h : Tab T) : Tab (putAll T w) := by
  induction w generalizing T with
  | nil => exact h
  | cons x w ih => exact ih (putL_tab T x h)
theorem Alike.app {a b c d : List Int} (h : Alike a b) (g : Alike c d) : Alike (a ++ c) (b ++ d) := fun T t => by
  rw [putAll_append, putAll_append, h T t]
  exact g _ (putAll_tab b t)
theorem Alike.of {w v : List Int} (h : Kn w v) : Alike w v := fun T t => putAll_kn T t.rows h
theorem Alike.fill {w v : List Int} (h : Alike w v) : fillL w = fillL v := h [] trivial
/-- a row and the reading of its shelves -/
theorem Tab_nil : Tab [] := trivial
end DL
end

/-! part: F3 -/
section
set_option Elab.async false
set_option linter.all false
set_option maxRecDepth 100000
set_option maxHeartbeats 2000000
namespace DL
open PySem PySem.Spec L2
open PyProof.Rows hiding St
/-! ### 25. an answer is spoiled -/
theorem SR.setV {O : Os} {B : Bs} {C : Nat → Hp} {F : Hp} {σ : St} {H : Hp} {δ : DS} (s : SR O B C F σ H δ) (i : Nat) (v : Option V) : SR O B C F (σ.set i v) H (δ.set i none) := by
  refine ⟨s.f0, s.ext, by simp [s.len], s.sub, s.out, s.dis, fun j d e => ?_⟩
  by_cases hj : i = j
  · subst hj
    rw [List.getElem?_set] at e
    simp at e
  · rw [List.getElem?_set_ne hj] at e ⊢
    exact s.at_ j d e
theorem SR.spoil {O : Os} {B : Bs} {C : Nat → Hp} {F : Hp} {σ : St} {H H' : Hp} {δ : DS} (s : SR O B C F σ H δ) (i : Nat) (h : ∀ x o, H x = some o → C i x = none → H' x = some o) : ∃ C', SR O B C' F σ H' (δ.set i none) := by
  refine ⟨setC C i emp, s.f0, ⟨s.ext.ff, fun a q e n => ?_, s.ext.nw, ⟨fun a q e => ?_, fun a b e => ?_⟩⟩, by simp [s.len], fun j a q e => ?_, fun j a q e => ?_, fun j k a q ne e => ?_, fun j d e => ?_⟩
  · refine h a q (s.ext.hh a q e n) ?_
    cases z : C i a with
    | none => rfl
    | some u => rw [(s.out i a u z).2.1] at e; cases e
  · refine h a q (s.fr.fh a q e) ?_
    cases z : C i a with
    | none => rfl
    | some u => rw [(s.out i a u z).2.2] at e; cases e
  · obtain ⟨out, ns, k, x, r, g, q⟩ := s.fr.fd a b e
    refine ⟨out, ns, k, x, r, h _ _ g ?_, q⟩
    cases z : C i a with
    | none => rfl
    | some u => exact absurd e ((s.out i a u z).1 b)
  · by_cases hj : j = i
    · subst hj; rw [setC_same] at e; cases e
    · rw [setC_ne hj] at e
      exact h a q (s.sub j a q e) (s.dis j i a q hj e)
  · by_cases hj : j = i
    · subst hj; rw [setC_same] at e; cases e
    · rw [setC_ne hj] at e; exact s.out j a q e
  · by_cases hk : k = i
    · subst hk; rw [setC_same]; rfl
    · rw [setC_ne hk]
      by_cases hj : j = i
      · subst hj; rw [setC_same] at e; cases e
      · rw [setC_ne hj] at e; exact s.dis j k a q ne e
  · by_cases hj : i = j
    · subst hj
      rw [List.getElem?_set] at e
      simp at e
    · rw [List.getElem?_set_ne hj] at e
      obtain ⟨v, h1, h2⟩ := s.at_ j d e
      exact ⟨v, h1, by rw [setC_ne (Ne.symm hj)]; exact h2⟩
/-- if test: for line in told[1]: line.append(9); told[1].append([1]) -/
def sSpoil (tc : TD) (i il : Nat) : SD := fun E δ => tc δ fun b => if b = true then (∃ s Ns, δ[i]? = some (some (.tup [.str s, dII Ns])) ∧ Ns.length ≤ 1000 ∧ (∀ ns ∈ Ns, ns.length ≤ 1000) ∧ il < δ.length ∧ E.nx ((δ.set i none).set il none)) else E.nx δ
theorem dst_spoil {X : Cx} {κr : Kd} {Oc O : Os} {c : Expr} {body : List Stmt} {tc : TD} {i il : Nat} {k9 k1 : Int} {pos : Pos} (hO : O.getD i .fz = .dp 3) (hil : i ≠ il) (hc : DT X O c tc)
    (hb : PSs X body (tSeq (tFor (iList X.K (tOp (rIxT X.K) (tVar i) (tC (.int 1)))) (gName il) (tDrop (tBM X.K "list" rAppend (tVar il) (tCons (tC (.int k9)) tNil)))) (tDrop (tBM X.K "list" rAppend (tOp (rIxT X.K) (tVar i) (tC (.int 1))) (tCons (tLst (tCons (tC (.int k1)) tNil)) tNil))))) :
    DSt X κr Oc O O (.If c body [] pos) (sSpoil tc i il) := by
  refine ⟨ps_imp (ps_if hc.pt hb pss_nil) fun D σ H ⟨B, C, F, δ, s, w⟩ => ?_, fun E E' δ h w => hc.mono _ _ _ (fun b w => by
    cases b with
    | true =>
      obtain ⟨a, b, c, d, e, f, w⟩ := (show _ from w)
      exact ⟨a, b, c, d, e, f, h.nx _ w⟩
    | false => exact h.nx _ w) w⟩
  refine ⟨B, C, F, δ, s, hc.mono _ _ _ (fun b w F1 H1 x1 => ?_) w⟩
  have s1 := s.step x1
  cases b with
  | false => exact iteF (w C F1 σ H1 s1 x1.ff)
  | true =>
    obtain ⟨str, Ns, hd, hN, hn, hlen0, w⟩ := (show _ from w)
    refine iteT ?_
    have sl := line_ge
    obtain ⟨v, hv, r⟩ := s1.at_ i _ hd
    rw [hO] at r
    have r' : Un B.p F1 (C i) 3 v (.tup [.str str, dII Ns]) := r
    cases r' with
    | flat f _ => exact f.elim
    | tup gt lt ft =>
      rename_i t vs
      obtain ⟨v0, v1, rfl⟩ : ∃ v0 v1, vs = [v0, v1] := by
        match vs, lt with
        | [v0, v1], _ => exact ⟨v0, v1, rfl⟩
      have r1 := ft 1 v1 (dII Ns) rfl rfl
      cases r1 with
      | flat f _ => exact f.elim
      | lst ga la fa =>
        rename_i a cs
        -- each item: a list of the region
        have item : ∀ (k : Nat) (x : V), cs[k]? = some x → ∃ c xs, x = .ref c ∧ C i c = some (.lst xs) ∧ xs.length ≤ 1000 ∧ c ≠ a := by
          intro k x hx
          have hk : k < Ns.length := by
            have := (List.getElem?_eq_some_iff.mp hx).1
            simp at la
            omega
          have r2 := fa k x (dI Ns[k]) hx (by rw [List.getElem?_map, List.getElem?_eq_getElem hk]; rfl)
          cases r2 with
          | flat f _ => exact f.elim
          | lst gc lc fc =>
            rename_i c xs
            refine ⟨c, xs, rfl, gc, by have := hn Ns[k] (List.getElem_mem hk); simp at lc; omega, fun z => ?_⟩
            subst z
            rw [ga] at gc
            have e := HO.lst.inj (Option.some.inj gc)
            subst e
            obtain ⟨h1, h2⟩ := List.getElem?_eq_some_iff.mp hx
            have hx2 : k < Ns[k].length := by simp at lc; omega
            have := fc k (.ref c) (.int Ns[k][k]) hx (by rw [List.getElem?_map, List.getElem?_eq_getElem hx2]; rfl)
            cases this with
            | zero h => cases h
        have hal : cs.length ≤ 1000 := by simp at la; omega
        have Ha := s1.sub i _ _ ga
        have Ht := s1.sub i _ _ gt
        have hta : t ≠ a := fun z => by rw [z, ga] at gt; cases gt
        -- what stands while it goes
        let Pv : Nat → St → Hp → Prop := fun k σ' H' => (∃ o, σ' = σ.set il o) ∧ (∀ x o, H1 x = some o → C i x = none → H' x = some o) ∧ H' a = some (.lst cs) ∧ H' t = some (.tup [v0, .ref a]) ∧ ∀ (j : Nat) (c : Addr), cs[j]? = some (.ref c) → ∃ xs, H' c = some (.lst xs) ∧ xs.length ≤ 1000 + k
        have hi : i < σ.length := by rw [s1.len]; exact (List.getElem?_eq_some_iff.mp hd).1
        have vi : ∀ o, (σ.set il o)[i]? = some (some (.ref t)) := fun o => by rw [List.getElem?_set_ne (Ne.symm hil)]; exact hv
        refine ⟨_, hv, t, [v0, .ref a], (1 : Nat), _, rfl, rfl, SqT.of Ht, rfl, a, rfl, ⟨_, SqL.of Ha⟩, ?_⟩
        refine for_list (xs := cs) Pv ⟨⟨σ.getD il none, ?_⟩, fun x o e _ => e, Ha, Ht, fun j c hj => ?_⟩ (fun k σ' H' _ ⟨_, _, ha, _⟩ => SqL.of ha) (fun k x σ' H' hx ⟨⟨o, e⟩, hu, ha, ht, hcs⟩ => ?_) (fun σ' H' ⟨⟨o, e⟩, hu, ha, ht, hcs⟩ => ?_)
        · apply List.ext_getElem?
          intro k
          by_cases hk : il = k
          · subst hk
            by_cases hl : il < σ.length
            · rw [List.getElem?_set_self hl, List.getD_eq_getElem?_getD, List.getElem?_eq_getElem hl]; rfl
            · rw [List.getElem?_eq_none (by omega), List.getElem?_eq_none (by simp; omega)]
          · rw [List.getElem?_set_ne hk]
        · obtain ⟨c', xs, e, gc, hl, _⟩ := item j _ hj
          cases e
          exact ⟨xs, s1.sub i _ _ gc, by omega⟩
        · subst e
          obtain ⟨c, xs0, rfl, gc, hl0, hca⟩ := item k x hx
          obtain ⟨xs, hxs, hl⟩ := hcs k c hx
          have hct : c ≠ t := fun z => by rw [z, gt] at gc; cases gc
          have hkc := (List.getElem?_eq_some_iff.mp hx).1
          have hlen : il < σ.length := by rw [s1.len]; exact hlen0
          · refine ⟨.ref c, (by rw [List.getElem?_set_self (by simpa using hlen)]), .inl ⟨rfl, _, SqL.of hxs⟩, c, xs, _, rfl, rfl, hxs, by omega, ⟨some (.ref c), by rw [List.set_set]⟩, fun x o e z => ?_, by rw [upd_ne (Ne.symm hca)]; exact ha, by rw [upd_ne (Ne.symm hct)]; exact ht, fun j c' hj => ?_⟩
            · have : x ≠ c := fun e' => by rw [e', gc] at z; cases z
              rw [upd_ne this]; exact hu x o e z
            · by_cases e : c' = c
              · subst e
                exact ⟨xs ++ [.int k9], upd_same, by simp; omega⟩
              · obtain ⟨ys, h1, h2⟩ := hcs j c' hj
                exact ⟨ys, by rw [upd_ne e]; exact h1, by omega⟩
        · subst e
          refine ⟨_, vi o, t, [v0, .ref a], (1 : Nat), _, rfl, rfl, SqT.of ht, rfl, .inl ⟨rfl, _, SqL.of ha⟩, by show 1 ≤ sizeLine; omega, fun d hd' => ⟨a, cs, .ref d, rfl, rfl, ?_, by omega, ?_⟩⟩
          · have : a ≠ d := fun z => by rw [z, hd'] at ha; cases ha
            rw [upd_ne this]; exact ha
          · obtain ⟨C2, s2⟩ := s1.spoil (H' := upd (upd H' d (.lst [.int k1])) a (.lst (cs ++ [.ref d]))) i fun x o e z => by
              have h1 : x ≠ a := fun e' => by rw [e', ga] at z; cases z
              have h2 := hu x o e z
              have h3 : x ≠ d := fun e' => by rw [e', hd'] at h2; cases h2
              rw [upd_ne h1, upd_ne h3]; exact h2
            exact w C2 F1 _ _ (s2.setV il o) x1.ff
end DL
end

/-! part: S08 -/
section
set_option linter.all false
set_option maxRecDepth 100000
namespace DL
open PySem PySem.Spec L2
open PyProof.Rows hiding St
/-! ### k08 -/
/-- rows that are small, all jars positive -/
def okS (ss : List (List Int)) : Prop := ss.length ≤ 100 ∧ sumL ss ≤ 100 ∧ ∀ s ∈ ss, ∀ x ∈ s, 0 < x
def f_shelves_of_words : FnX := fun ds Q R => ∃ rows : List (List Int), ds = [dII rows] ∧ rows.length ≤ 1000 ∧ sumL rows ≤ 500 ∧ if sumL rows > 14 then R "TooMany" "limit" 14 else Q (dII (fillL rows.flatten))
theorem m_f_shelves_of_words : MonoFX f_shelves_of_words := fun ds Q Q' R R' h1 h2 ⟨ss, a, b, c, w⟩ => ⟨ss, a, b, c, by
  by_cases z : sumL ss > 14
  · rw [if_pos z] at w ⊢; exact h2 _ _ _ w
  · rw [if_neg z] at w ⊢; exact h1 _ w⟩
/-- from k on: the first index at which they differ -/
def alikeD (a b : List (List Int)) : D := match (List.range (min a.length b.length)).find? fun k => decide (fillL (a.getD k []) ≠ fillL (b.getD k [])) with
  | some k => .tup [.str "other", .int (k : Nat)]
  | none => if a.length ≠ b.length then .tup [.str "other", .int ((min a.length b.length : Nat) : Int)] else .tup [.str "same"]
def f_same_together : Fn := fun ds Q => ∃ a b : List (List Int), ds = [dII a, dII b] ∧ okS a ∧ okS b ∧ Q (alikeD a b)
theorem m_f_same_together : MonoF f_same_together := fun ds Q Q' h ⟨a, b, e, c, d, q⟩ => ⟨a, b, e, c, d, h _ q⟩
abbrev f__law_alike : Fn := f_same_together
theorem m_f__law_alike : MonoF f__law_alike := m_f_same_together
def leftL (row : List Int) (ss : List (List Int)) : List Int := (rgI 0 (row.length + 1)).filter fun k => decide (fillL (row.drop k.toNat) = ss)
def f_left_from : Fn := fun ds Q => ∃ (row : List Int) (ss : List (List Int)), ds = [dI row, dII ss] ∧ row.length ≤ 1000 ∧ Q (dI (leftL row ss))
theorem m_f_left_from : MonoF f_left_from := fun ds Q Q' h ⟨a, b, e, c, q⟩ => ⟨a, b, e, c, h _ q⟩
def partsL (row : List Int) (ss : List (List Int)) : List D := (List.range (row.length + 1 - sumL ss)).filterMap fun b => if fillL ((row.take (b + sumL ss)).drop b) = ss then some (.tup [.int (b : Nat), .int ((b + sumL ss : Nat) : Int)]) else none
def f_parts_that_fill : Fn := fun ds Q => ∃ (row : List Int) (ss : List (List Int)), ds = [dI row, dII ss] ∧ row.length ≤ 1000 ∧ ss.length ≤ 1000 ∧ sumL ss ≤ 1000 ∧ Q (.lst (partsL row ss))
theorem m_f_parts_that_fill : MonoF f_parts_that_fill := fun ds Q Q' h ⟨a, b, e, c, d, f, q⟩ => ⟨a, b, e, c, d, f, h _ q⟩
def mayB (x y z : Int) (which : Int) : Bool := if which = 0 then decide (min x y ≤ z) && decide (z < max x y) else decide (min y z < x) && decide (x ≤ max y z)
def f__law_may : Fn := fun ds Q => ∃ (row : List Int) (at_ which : Int) (x y z : Int) (pre post : List Int), ds = [dI row, .int at_, .int which] ∧ row = pre ++ x :: y :: z :: post ∧ at_ = (pre.length : Int) ∧ Q (.bl (mayB x y z which))
theorem m_f__law_may : MonoF f__law_may := fun ds Q Q' h ⟨a, b, c, x, y, z, p, s, e, f, g, q⟩ => ⟨a, b, c, x, y, z, p, s, e, f, g, h _ q⟩
theorem ff_f__law_may : ∀ ds (Q : D → Prop), f__law_may ds Q → f__law_may ds fun d => d.flat ∧ Q d := fun ds Q ⟨a, b, c, x, y, z, p, s, e, f, g, q⟩ => ⟨a, b, c, x, y, z, p, s, e, f, g, trivial, q⟩
def f__law_done : Fn := fun ds Q => ∃ (row : List Int) (at_ which : Int) (x y z : Int) (pre post : List Int), ds = [dI row, .int at_, .int which] ∧ row = pre ++ x :: y :: z :: post ∧ at_ = (pre.length : Int) ∧ (which = 0 ∨ which = 1) ∧ row.length ≤ 1000 ∧ Q (dI (pre ++ (if which = 0 then [y, x, z] else [x, z, y]) ++ post))
theorem m_f__law_done : MonoF f__law_done := fun ds Q Q' h ⟨a, b, c, x, y, z, p, s, e, f, g, i, l, q⟩ => ⟨a, b, c, x, y, z, p, s, e, f, g, i, l, h _ q⟩
def f__law_led : Fn := fun ds Q => ∃ (row : List Int) (many : Int), ds = [.fd, dI row, .int many] ∧ row.length ≤ 1000 ∧ 0 ≤ many ∧ many ≤ 1000 ∧ ∀ row' : List Int, Alike row row' → row'.Perm row → Q (dI row')
theorem m_f__law_led : MonoF f__law_led := fun ds Q Q' h ⟨a, b, e, c, d, f, q⟩ => ⟨a, b, e, c, d, f, fun r h1 h2 => h _ (q r h1 h2)⟩
def f__law_cut : Fn := fun ds Q => ∃ row : List Int, ds = [.fd, dI row] ∧ row.length ≤ 1000 ∧ ∀ rows : List (List Int), rows.length ≤ 5 → (rows = [] ∨ rows.flatten = row) → Q (dII rows)
theorem m_f__law_cut : MonoF f__law_cut := fun ds Q Q' h ⟨a, e, c, q⟩ => ⟨a, e, c, fun r h1 h2 => h _ (q r h1 h2)⟩
def f__law_whole : Fn := fun ds Q => ∃ rows : List (List Int), ds = [dII rows] ∧ rows.length ≤ 1000 ∧ sumL rows ≤ 1000 ∧ Q (dI rows.flatten)
theorem m_f__law_whole : MonoF f__law_whole := fun ds Q Q' h ⟨a, e, c, d, q⟩ => ⟨a, e, c, d, h _ q⟩
def toldW (rows : List (List Int)) : D := if sumL rows > 14 then .tup [.str "raised", .int 14] else .tup [.str "answer", dII (fillL rows.flatten)]
def f__law_told : Fn := fun ds Q => ∃ rows : List (List Int), ds = [dII rows] ∧ okS rows ∧ Q (toldW rows)
theorem m_f__law_told : MonoF f__law_told := fun ds Q Q' h ⟨a, e, c, q⟩ => ⟨a, e, c, h _ q⟩
def f__law_compared : Fn := fun ds Q => ∃ a b : List (List Int), ds = [dII a, dII b] ∧ okS a ∧ okS b ∧ Q (.bl true)
theorem m_f__law_compared : MonoF f__law_compared := fun ds Q Q' h ⟨a, b, e, c, d, q⟩ => ⟨a, b, e, c, d, h _ q⟩
theorem ff_f__law_compared : ∀ ds (Q : D → Prop), f__law_compared ds Q → f__law_compared ds fun d => d.flat ∧ Q d := fun ds Q ⟨a, b, e, c, d, q⟩ => ⟨a, b, e, c, d, trivial, q⟩
def f__law_others : Fn := fun ds Q => ∃ rows : List (List Int), ds = [.fd, dII rows] ∧ rows.length ≤ 5 ∧ sumL rows ≤ 14 ∧ okS rows ∧ ∀ made : List (List (List Int)), made.length ≤ 10 → (∀ m ∈ made, okS m) → Q (.lst (made.map dII))
theorem m_f__law_others : MonoF f__law_others := fun ds Q Q' h ⟨a, e, c, d, f, q⟩ => ⟨a, e, c, d, f, fun r h1 h2 => h _ (q r h1 h2)⟩
def f__law_parts : Fn := fun ds Q => ∃ (row : List Int) (ss : List (List Int)), ds = [dI row, dII ss] ∧ row.length ≤ 100 ∧ (∀ x ∈ row, 0 < x) ∧ okS ss ∧ Q (.bl true)
theorem m_f__law_parts : MonoF f__law_parts := fun ds Q Q' h ⟨a, b, e, c, d, f, q⟩ => ⟨a, b, e, c, d, f, h _ q⟩
theorem ff_f__law_parts : ∀ ds (Q : D → Prop), f__law_parts ds Q → f__law_parts ds fun d => d.flat ∧ Q d := fun ds Q ⟨a, b, e, c, d, f, q⟩ => ⟨a, b, e, c, d, f, trivial, q⟩
theorem okW_dII (n : Nat) {ss : List (List Int)} (h : ss.length ≤ 1000000) (hs : ∀ s ∈ ss, s.length ≤ 1000000) : okW (n + 2) (dII ss) := okW_lst (by rwa [List.length_map]) fun d hd => by
  obtain ⟨s, hm, rfl⟩ := List.mem_map.mp hd
  exact okW_dI n s (hs s hm)
theorem fill_W (n : Nat) {row : List Int} (h : row.length ≤ 1000) : okW (n + 2) (dII (fillL row)) := okW_dII n (by have := fillL_len row; omega) fun s hs => by have := fillL_mem hs; omega
theorem same_refl {n : Nat} {d : D} (h : okW n d) : sameB d d = true := sameB_refl h.1.1
theorem _root_.DL.okW.mono {n m : Nat} {d : D} (h : okW n d) (hn : n ≤ m) : okW m d := ⟨h.1.mono hn, h.2⟩
theorem sumL_mem {ss : List (List Int)} {s : List Int} (h : s ∈ ss) : s.length ≤ sumL ss := mem_sum (List.mem_map.mpr ⟨s, h, rfl⟩)
theorem okS_W {ss : List (List Int)} (h : okS ss) (n : Nat) : okW (n + 2) (dII ss) := okW_dII n (by have := h.1; omega) fun s hs => by
  have h1 := h.2.1
  have := sumL_mem hs
  omega
theorem tup2_W {n : Nat} {a b : D} (ha : okW n a) (hb : okW n b) : okW (n + 1) (.tup [a, b]) := okW_tup (by show 2 ≤ 1000000; decide) fun d hd => by
  rcases List.mem_cons.mp hd with rfl | hd
  · exact ha
  · rcases List.mem_cons.mp hd with rfl | hd
    · exact hb
    · cases hd
end DL
end

/-! part: B_K08 -/
section
set_option linter.all false
set_option maxRecDepth 100000
namespace K08
open PySem L2 DL
def is_BadRow (c : Str) : Bool := ([] : List Str).contains c
def is_TooMany (c : Str) : Bool := (["TooMany"] : List Str).contains c
abbrev N_place_for : List Str := DL.N_place_for
abbrev b_place_for := DL.b_place_for
def N_put_in : List Str := ["shelves", "jar", "found", "number", "shelf", "at", "bumped"]
def N_fill_with_record : List Str := ["row", "shelves", "record", "number", "jar", "place"]
abbrev N_fill : List Str := DL.N_fill
abbrev b_fill := DL.b_fill
def N_shelves_of_words : List Str := ["rows", "together", "row"]
def b_shelves_of_words : SDX :=
  (sSeqX (sOK (sSet 1 (eA gMkL aNil)))
    (sSeqX (sOK (sFor (wL (eVar 0)) (.one 2)
    (sSet 1 (e2 gCat (eVar 1) (eVar 2)))))
    (sSeqX (sIfX (tBd (e2 gGt (eA gLen (aCons (eVar 1) aNil)) (eC (.int 14))))
    (sRaiseX "TooMany" "limit" (eC (.int 14)))
    (sOK sNext))
    (sOK (sRet (eA f_fill (aCons (eVar 1) aNil)))))))
def N_same_together : List Str := ["rows", "others", "shorter", "k"]
def b_same_together : SD :=
  (sSeq (sSet 2 (eA gMin2 (aCons (eA gLen (aCons (eVar 0) aNil)) (aCons (eA gLen (aCons (eVar 1) aNil)) aNil))))
    (sSeq (sFor (wR1 (aCons (eVar 2) aNil)) (.one 3)
    (sIf (tBd (e2 gNe (eA f_fill (aCons (e2 gIx (eVar 0) (eVar 3)) aNil)) (eA f_fill (aCons (e2 gIx (eVar 1) (eVar 3)) aNil))))
    (sRet (eA gMkT (aCons (eC (.str "other")) (aCons (eVar 3) aNil))))
    sNext))
    (sSeq (sIf (tBd (e2 gNe (eA gLen (aCons (eVar 0) aNil)) (eA gLen (aCons (eVar 1) aNil))))
    (sRet (eA gMkT (aCons (eC (.str "other")) (aCons (eVar 2) aNil))))
    sNext)
    (sRet (eA gMkT (aCons (eC (.str "same")) aNil))))))
def N_left_from : List Str := ["row", "shelves", "k"]
def b_left_from : SD :=
  (sRet (eLc (wR1 (aCons (e2 gAdd (eA gLen (aCons (eVar 0) aNil)) (eC (.int 1))) aNil)) (.one 2) (tBd (e2 gEq (eA f_fill (aCons (eSl (eVar 0) (oSome (eVar 2)) oNo) aNil)) (eVar 1))) (eVar 2) [2]))
def N_parts_that_fill : List Str := ["row", "shelves", "many", "k", "shelf"]
def b_parts_that_fill : SD :=
  (sSeq (sSet 2 (eA gSum (aCons (eLc (wL (eVar 1)) (.one 4) tYesD (eA gLen (aCons (eVar 4) aNil)) [4]) aNil)))
    (sRet (eLc (wR1 (aCons (e2 gAdd (e2 gSub (eA gLen (aCons (eVar 0) aNil)) (eVar 2)) (eC (.int 1))) aNil)) (.one 3) (tBd (e2 gEq (eA f_fill (aCons (eSl (eVar 0) (oSome (eVar 3)) (oSome (e2 gAdd (eVar 3) (eVar 2)))) aNil)) (eVar 1))) (eA gMkT (aCons (eVar 3) (aCons (e2 gAdd (eVar 3) (eVar 2)) aNil))) [3])))
def N__law_feed : List Str := ["script"]
def N__law_draw : List Str := ["feed", "many", "mixed", "cell", "told"]
abbrev N__law_same : List Str := DL.N__law_same
abbrev b__law_same := DL.b__law_same
abbrev N__law_copy : List Str := DL.N__law_copy
abbrev b__law_copy := DL.b__law_copy
abbrev N__law_row : List Str := DL.N__law_row
abbrev b__law_row := DL.b__law_row
def N__law_bump : List Str := ["shelf", "jar", "at", "bumped"]
def N__law_fill : List Str := ["row", "shelves", "jar", "carried", "k"]
def N__law_may : List Str := ["row", "at", "which", "x", "y", "z"]
def b__law_may : SD :=
  (sSeq (sSet 3 (e2 gIx (eVar 0) (eVar 1)))
    (sSeq (sSet 4 (e2 gIx (eVar 0) (e2 gAdd (eVar 1) (eC (.int 1)))))
    (sSeq (sSet 5 (e2 gIx (eVar 0) (e2 gAdd (eVar 1) (eC (.int 2)))))
    (sSeq (sIf (tBd (e2 gEq (eVar 2) (eC (.int 0))))
    (sRet (eAndD (e2 gLe (eA gMin2 (aCons (eVar 3) (aCons (eVar 4) aNil))) (eVar 5)) (e2 gLt (eVar 5) (eA gMax2 (aCons (eVar 3) (aCons (eVar 4) aNil))))))
    sNext)
    (sRet (eAndD (e2 gLt (eA gMin2 (aCons (eVar 4) (aCons (eVar 5) aNil))) (eVar 3)) (e2 gLe (eVar 3) (eA gMax2 (aCons (eVar 4) (aCons (eVar 5) aNil))))))))))
def N__law_done : List Str := ["row", "at", "which", "k"]
def b__law_done : SD :=
  (sSeq (sSet 3 (e2 gAdd (eVar 1) (eVar 2)))
    (sRet (e2 gCat (e2 gCat (eSl (eVar 0) oNo (oSome (eVar 3))) (eA gMkL (aCons (e2 gIx (eVar 0) (e2 gAdd (eVar 3) (eC (.int 1)))) (aCons (e2 gIx (eVar 0) (eVar 3)) aNil)))) (eSl (eVar 0) (oSome (e2 gAdd (eVar 3) (eC (.int 2)))) oNo))))
def N__law_led : List Str := ["feed", "row", "many", "now", "k", "at", "which"]
def b__law_led : SD :=
  (sSeq (sSet 3 (eA gList (aCons (eVar 1) aNil)))
    (sSeq (sFor (wR1 (aCons (eVar 2) aNil)) (.one 4)
    (sIf (tBd (e2 gGt (eA gLen (aCons (eVar 3) aNil)) (eC (.int 2))))
    (sSeq (sSet 5 (eA f_draw (aCons (eVar 0) (aCons (e2 gSub (eA gLen (aCons (eVar 3) aNil)) (eC (.int 2))) aNil))))
    (sSeq (sSet 6 (eA f_draw (aCons (eVar 0) (aCons (eC (.int 2)) aNil))))
    (sIf (tBd (eA f__law_may (aCons (eVar 3) (aCons (eVar 5) (aCons (eVar 6) aNil)))))
    (sSet 3 (eA f__law_done (aCons (eVar 3) (aCons (eVar 5) (aCons (eVar 6) aNil)))))
    sNext)))
    sNext))
    (sRet (eVar 3))))
def N__law_cut : List Str := ["feed", "row", "rows", "begin", "many", "k", "end"]
def b__law_cut : SD :=
  (sSeq (sSet 2 (eA gMkL aNil))
    (sSeq (sSet 3 (eC (.int 0)))
    (sSeq (sSet 4 (eA f_draw (aCons (eVar 0) (aCons (eC (.int 6)) aNil))))
    (sSeq (sFor (wR1 (aCons (eVar 4) aNil)) (.one 5)
    (sSeq (sSet 6 (e2 gAdd (eVar 3) (eA f_draw (aCons (eVar 0) (aCons (e2 gAdd (e2 gSub (eA gLen (aCons (eVar 1) aNil)) (eVar 3)) (eC (.int 1))) aNil)))))
    (sSeq (sIf (tBd (e2 gEq (eVar 5) (e2 gSub (eVar 4) (eC (.int 1)))))
    (sSet 6 (eA gLen (aCons (eVar 1) aNil)))
    sNext)
    (sSeq (sApp 2 (eSl (eVar 1) (oSome (eVar 3)) (oSome (eVar 6))))
    (sSet 3 (eVar 6))))))
    (sRet (eVar 2))))))
def N__law_whole : List Str := ["rows", "row", "one"]
def b__law_whole : SD :=
  (sSeq (sSet 1 (eA gMkL aNil))
    (sSeq (sFor (wL (eVar 0)) (.one 2)
    (sSet 1 (e2 gCat (eVar 1) (eVar 2))))
    (sRet (eVar 1))))
def N__law_told : List Str := ["rows", "given", "told", "e"]
def b__law_told (Cl : ClT) : SD :=
  (sSeq (sSet 1 (eA f__law_copy (aCons (eVar 0) aNil)))
    (sSeq (sSet 2 (eA gMkT (aCons (eC (.str "nothing")) (aCons (eC (.int 0)) aNil))))
    (sSeq (sTryX Cl (eAXX (fun ds Q _ => gMkT ds Q) (aConsX (eOK (eC (.str "answer"))) (aConsX (eAX f_shelves_of_words (aCons (eVar 1) aNil)) aNilX))) 2 3 (fun c a dd => (sSeq (sSet 2 (eA gMkT (aCons (eC (.str "another")) (aCons (eC (.int 0)) aNil))))
    (sIf (tAndD (tBd (eIsE 3 a dd (is_TooMany c))) (tAndD (tBd (eIsE 3 a dd true)) (tNotD (tBd (eIsE 3 a dd (is_BadRow c))))))
    (sSet 2 (eA gMkT (aCons (eC (.str "raised")) (aCons (eFld 3 a dd "limit") aNil))))
    sNext))))
    (sSeq (sIf (tNotD (tBd (eA (f_same 8) (aCons (eVar 1) (aCons (eVar 0) aNil)))))
    (sRet (eA gMkT (aCons (eC (.str "changed")) (aCons (eC (.int 0)) aNil))))
    sNext)
    (sRet (eVar 2))))))
def N__law_alike : List Str := ["rows", "others", "k"]
def b__law_alike : SD :=
  (sSeq (sFor (wR1 (aCons (eA gMin2 (aCons (eA gLen (aCons (eVar 0) aNil)) (aCons (eA gLen (aCons (eVar 1) aNil)) aNil))) aNil)) (.one 2)
    (sIf (tBd (e2 gNe (eA f__law_fill (aCons (e2 gIx (eVar 0) (eVar 2)) aNil)) (eA f__law_fill (aCons (e2 gIx (eVar 1) (eVar 2)) aNil))))
    (sRet (eA gMkT (aCons (eC (.str "other")) (aCons (eVar 2) aNil))))
    sNext))
    (sSeq (sIf (tBd (e2 gNe (eA gLen (aCons (eVar 0) aNil)) (eA gLen (aCons (eVar 1) aNil))))
    (sRet (eA gMkT (aCons (eC (.str "other")) (aCons (eA gMin2 (aCons (eA gLen (aCons (eVar 0) aNil)) (aCons (eA gLen (aCons (eVar 1) aNil)) aNil))) aNil))))
    sNext)
    (sRet (eA gMkT (aCons (eC (.str "same")) aNil)))))
def N__law_compared : List Str := ["rows", "others", "one", "two", "told"]
def b__law_compared : SD :=
  (sSeq (sSet 2 (eA f__law_copy (aCons (eVar 0) aNil)))
    (sSeq (sSet 3 (eA f__law_copy (aCons (eVar 1) aNil)))
    (sSeq (sSet 4 (eA f_same_together (aCons (eVar 2) (aCons (eVar 3) aNil))))
    (sRet (eAndD (eA (f_same 8) (aCons (eVar 4) (aCons (eA f__law_alike (aCons (eVar 0) (aCons (eVar 1) aNil))) aNil))) (eAndD (eA (f_same 8) (aCons (eVar 2) (aCons (eVar 0) aNil))) (eA (f_same 8) (aCons (eVar 3) (aCons (eVar 1) aNil)))))))))
def N__law_others : List Str := ["feed", "rows", "made", "at", "row", "both", "spot"]
def b__law_others : SD :=
  (sSeq (sSet 2 (eA gMkL (aCons (eSl (eVar 1) oNo (oSome (e2 gSub (eA gLen (aCons (eVar 1) aNil)) (eC (.int 1))))) (aCons (e2 gCat (eVar 1) (eA gMkL (aCons (eA gMkL aNil) aNil))) (aCons (e2 gCat (eA gMkL (aCons (eA gMkL aNil) aNil)) (eVar 1)) aNil)))))
    (sSeq (sIf (tNotD (tTru (eVar 1)))
    (sRet (eVar 2))
    sNext)
    (sSeq (sSet 3 (eA f_draw (aCons (eVar 0) (aCons (eA gLen (aCons (eVar 1) aNil)) aNil))))
    (sSeq (sSet 4 (eA gList (aCons (e2 gIx (eVar 1) (eVar 3)) aNil)))
    (sSeq (sIf (tTru (eVar 4))
    (sPut 4 (eA f_draw (aCons (eVar 0) (aCons (eA gLen (aCons (eVar 4) aNil)) aNil))) (e2 gAdd (eC (.int 1)) (eA f_draw (aCons (eVar 0) (aCons (eC (.int 9)) aNil)))))
    sNext)
    (sSeq (sApp 2 (e2 gCat (e2 gCat (eSl (eVar 1) oNo (oSome (eVar 3))) (eA gMkL (aCons (eVar 4) aNil))) (eSl (eVar 1) (oSome (e2 gAdd (eVar 3) (eC (.int 1)))) oNo)))
    (sSeq (sApp 2 (e2 gCat (e2 gCat (e2 gCat (eSl (eVar 1) oNo (oSome (eVar 3))) (eA gMkL (aCons (eVar 4) aNil))) (eSl (eVar 1) (oSome (e2 gAdd (eVar 3) (eC (.int 1)))) oNo)) (eA gMkL (aCons (eA gMkL aNil) aNil))))
    (sSeq (sApp 2 (e2 gCat (e2 gCat (eSl (eVar 1) oNo (oSome (eVar 3))) (eA gMkL (aCons (eVar 4) aNil))) (eSl (eVar 1) (oSome (e2 gAdd (eVar 3) (eC (.int 1)))) (oSome (e2 gSub (eA gLen (aCons (eVar 1) aNil)) (eC (.int 1)))))))
    (sSeq (sIf (tBd (e2 gGt (eVar 3) (eC (.int 0))))
    (sSeq (sSet 5 (e2 gCat (e2 gIx (eVar 1) (e2 gSub (eVar 3) (eC (.int 1)))) (e2 gIx (eVar 1) (eVar 3))))
    (sSeq (sSet 6 (eA f_draw (aCons (eVar 0) (aCons (e2 gAdd (eA gLen (aCons (eVar 5) aNil)) (eC (.int 1))) aNil))))
    (sApp 2 (e2 gCat (e2 gCat (eSl (eVar 1) oNo (oSome (e2 gSub (eVar 3) (eC (.int 1))))) (eA gMkL (aCons (eSl (eVar 5) oNo (oSome (eVar 6))) (aCons (eSl (eVar 5) (oSome (eVar 6)) oNo) aNil)))) (eSl (eVar 1) (oSome (e2 gAdd (eVar 3) (eC (.int 1)))) oNo)))))
    sNext)
    (sRet (eVar 2)))))))))))
def N__law_parts : List Str := ["row", "shelves", "given", "wanted", "begins", "parts", "begin", "end"]
def b__law_parts : SD :=
  (sSeq (sSet 2 (eA gList (aCons (eVar 0) aNil)))
    (sSeq (sSet 3 (eA f__law_copy (aCons (eVar 1) aNil)))
    (sSeq (sSet 4 (eA gMkL aNil))
    (sSeq (sSet 5 (eA gMkL aNil))
    (sSeq (sFor (wR1 (aCons (e2 gAdd (eA gLen (aCons (eVar 0) aNil)) (eC (.int 1))) aNil)) (.one 6)
    (sSeq (sIf (tBd (e2 gEq (eA f__law_fill (aCons (eSl (eVar 0) (oSome (eVar 6)) oNo) aNil)) (eVar 1)))
    (sApp 4 (eVar 6))
    sNext)
    (sSet 5 (e2 gCat (eVar 5) (eLc (wR2 (aCons (eVar 6) (aCons (e2 gAdd (eA gLen (aCons (eVar 0) aNil)) (eC (.int 1))) aNil))) (.one 7) (tBd (e2 gEq (eA f__law_fill (aCons (eSl (eVar 0) (oSome (eVar 6)) (oSome (eVar 7))) aNil)) (eVar 1))) (eA gMkT (aCons (eVar 6) (aCons (eVar 7) aNil))) [7])))))
    (sSeq (sIf (tOrD (tNotD (tBd (eA (f_same 8) (aCons (eA f_left_from (aCons (eVar 2) (aCons (eVar 3) aNil))) (aCons (eVar 4) aNil))))) (tNotD (tBd (eA (f_same 8) (aCons (eA f_parts_that_fill (aCons (eVar 2) (aCons (eVar 3) aNil))) (aCons (eVar 5) aNil))))))
    (sRet (eC (.bl false)))
    sNext)
    (sRet (eAndD (eA (f_same 8) (aCons (eVar 2) (aCons (eVar 0) aNil))) (eA (f_same 8) (aCons (eVar 3) (aCons (eVar 1) aNil)))))))))))
def N_law : List Str := ["script", "feed", "many", "row", "rows", "whole", "others", "own", "begin", "end", "shelves", "one"]
def b_law : SD :=
  (sSeq (sSet 2 (eC (.int 14)))
    (sSeq (sIf (tBd (e2 gEq (eA f_draw (aCons (eVar 1) (aCons (eC (.int 2)) aNil))) (eC (.int 0))))
    (sSet 2 (eA f_draw (aCons (eVar 1) (aCons (eC (.int 15)) aNil))))
    sNext)
    (sSeq (sSet 3 (eA f_row (aCons (eVar 1) (aCons (eVar 2) aNil))))
    (sSeq (sSet 4 (eA f__law_cut (aCons (eVar 1) (aCons (eVar 3) aNil))))
    (sSeq (sSet 5 (eA f__law_whole (aCons (eVar 4) aNil)))
    (sSeq (sSet 6 (eLc (wL (eVar 4)) (.one 11) tYesD (eA f__law_led (aCons (eVar 1) (aCons (eVar 11) (aCons (eC (.int 10)) aNil)))) [11]))
    (sSeq (sFor (wL (eA gMkL (aCons (eVar 4) (aCons (eVar 6) aNil)))) (.one 7)
    (sIf (tNotD (tBd (eA (f_same 8) (aCons (eA f__law_told (aCons (eVar 7) aNil)) (aCons (eA gMkT (aCons (eC (.str "answer")) (aCons (eA f__law_fill (aCons (eVar 5) aNil)) aNil))) aNil)))))
    (sRet (eC (.bl false)))
    sNext))
    (sSeq (sIf (tAndD (tBd (e2 gLt (eA gLen (aCons (eVar 4) aNil)) (eC (.int 5)))) (tBd (e2 gGt (eA gLen (aCons (eVar 5) aNil)) (eC (.int 0)))))
    (sIf (tNotD (tBd (eA (f_same 8) (aCons (eA f__law_told (aCons (e2 gCat (eVar 4) (eA gMkL (aCons (eA f_row (aCons (eVar 1) (aCons (e2 gSub (eC (.int 15)) (eA gLen (aCons (eVar 5) aNil))) aNil))) aNil))) aNil)) (aCons (eA gMkT (aCons (eC (.str "raised")) (aCons (eC (.int 14)) aNil))) aNil)))))
    (sRet (eC (.bl false)))
    sNext)
    sNext)
    (sSeq (sIf (tOrD (tNotD (tBd (eA f__law_compared (aCons (eVar 4) (aCons (eVar 6) aNil))))) (tNotD (tBd (eA f__law_compared (aCons (eVar 6) (aCons (eVar 4) aNil))))))
    (sRet (eC (.bl false)))
    sNext)
    (sSeq (sFor (wL (eA f__law_others (aCons (eVar 1) (aCons (eVar 6) aNil)))) (.one 7)
    (sIf (tAndD (tBd (e2 gLt (eA gLen (aCons (eVar 7) aNil)) (eC (.int 6)))) (tOrD (tNotD (tBd (eA f__law_compared (aCons (eVar 4) (aCons (eVar 7) aNil))))) (tNotD (tBd (eA f__law_compared (aCons (eVar 7) (aCons (eVar 4) aNil)))))))
    (sRet (eC (.bl false)))
    sNext))
    (sSeq (sSet 8 (eA f_draw (aCons (eVar 1) (aCons (e2 gAdd (eA gLen (aCons (eVar 3) aNil)) (eC (.int 1))) aNil))))
    (sSeq (sSet 9 (e2 gAdd (eVar 8) (eA f_draw (aCons (eVar 1) (aCons (e2 gAdd (eA gMin2 (aCons (eC (.int 3)) (aCons (e2 gSub (eA gLen (aCons (eVar 3) aNil)) (eVar 8)) aNil))) (eC (.int 1))) aNil)))))
    (sSeq (sFor (wL (eA gMkL (aCons (eA f__law_fill (aCons (eSl (eVar 3) (oSome (eVar 8)) oNo) aNil)) (aCons (eA f__law_fill (aCons (eSl (eVar 3) (oSome (eVar 8)) (oSome (eVar 9))) aNil)) (aCons (eA f__law_fill (aCons (eA f_row (aCons (eVar 1) (aCons (eC (.int 2)) aNil))) aNil)) (aCons (eA gMkL aNil) aNil)))))) (.one 10)
    (sIf (tNotD (tBd (eA f__law_parts (aCons (eVar 3) (aCons (eVar 10) aNil)))))
    (sRet (eC (.bl false)))
    sNext))
    (sRet (eC (.bl true))))))))))))))))
end K08
end

/-! part: M08 -/
section
set_option linter.all false
set_option maxRecDepth 100000
set_option maxHeartbeats 2000000
namespace K08
open PySem PySem.Spec L2 DL
open PyProof.Rows hiding St
theorem flat_step (pre : List (List Int)) (s : List Int) : (pre ++ [s]).flatten = pre.flatten ++ s := by simp
theorem sum_split {ss pre post : List (List Int)} {s : List Int} (e : ss = pre ++ s :: post) : pre.flatten.length + s.length ≤ sumL ss := by
  rw [← flat_len, e]; simp
theorem for_cat {δ0 : Int → DS} {rows : List (List Int)} (hsum : sumL rows ≤ 1000) {E : En} (q : ∀ o : Option D, E.nx [some (dII rows), some (dI rows.flatten), o]) (o0 : Option D) :
    forRun (.one 2) (sSet 1 (e2 gCat (eVar 1) (eVar 2))) E (rows.map dI) [some (dII rows), some (.lst []), o0] := by
  have sl := line_ge
  refine for_mapG dI (fun pre δ => ∃ o : Option D, δ = [some (dII rows), some (dI pre.flatten), o]) ⟨_, rfl⟩ (fun pre s post δ e ⟨o, hδ⟩ N hN => ?_) (fun δ ⟨o, hδ⟩ => by subst hδ; exact q o)
  subst hδ
  have := sum_split e
  refine ⟨_, rfl, _, rfl, _, _, rfl, rfl, by rw [List.length_map, List.length_map]; omega, hN _ ⟨some (dI s), ?_⟩⟩
  show [_, some (D.lst (pre.flatten.map D.int ++ s.map D.int)), _] = _
  rw [← List.map_append, flat_step]
theorem sem__law_whole : ∀ ds (Q : D → Prop), ds.length = 1 → f__law_whole ds Q → b__law_whole { nx := fun _ => ((Kd.fz : Kd) ≠ .nw) ∧ Q .non, rt := Q } (startD N__law_whole ds) := by
  rintro ds Q _ ⟨rows, rfl, h1, h2, q⟩
  refine ⟨Nat.zero_le _, _, rfl, _, rfl, for_cat (δ0 := fun _ => []) h2 (fun o => ?_) _⟩
  exact ⟨_, rfl, q⟩
theorem sem_shelves_of_words : ∀ ds (Q : D → Prop) (R : Str → Str → Int → Prop), ds.length = 1 → f_shelves_of_words ds Q R → b_shelves_of_words { nx := fun _ => ((Kd.fz : Kd) ≠ .nw) ∧ Q .non, rt := Q } R (startD N_shelves_of_words ds) := by
  rintro ds Q R _ ⟨rows, rfl, h1, h2, q⟩
  have sl := line_ge
  refine ⟨Nat.zero_le _, _, rfl, _, rfl, for_cat (δ0 := fun _ => []) (by omega) (fun o => ?_) _⟩
  refine ⟨_, rfl, _, .inl rfl, _, _, rfl, rfl, _, rfl, ?_⟩
  rw [List.length_map, flat_len]
  by_cases c : sumL rows > 14
  · rw [if_pos c] at q
    rw [decide_eq_true (by omega)]
    exact iteT ⟨_, rfl, q⟩
  · rw [if_neg c] at q
    rw [decide_eq_false (by omega)]
    exact iteF ⟨_, rfl, rows.flatten, rfl, by rw [flat_len]; omega, q⟩
theorem getD_at {a : List (List Int)} {k : Nat} (h : k < a.length) : L2.atI (a.map dI) (k : Int) = some (dI (a.getD k [])) := by
  refine atI_nat ?_
  rw [List.getElem?_map, List.getElem?_eq_getElem h, List.getD_eq_getElem?_getD, List.getElem?_eq_getElem h]; rfl
theorem okS_at {a : List (List Int)} (h : okS a) (k : Nat) : (a.getD k []).length ≤ 100 ∧ ∀ x ∈ a.getD k [], 0 < x := by
  rw [List.getD_eq_getElem?_getD]
  cases e : a[k]? with
  | none => exact ⟨Nat.zero_le _, fun x hx => by cases hx⟩
  | some s =>
    have hm := List.mem_of_getElem? e
    exact ⟨by have := sumL_mem hm; have := h.2.1; show s.length ≤ 100; omega, h.2.2 s hm⟩
/-- up to i nothing differs -/
theorem find_none {p : Nat → Bool} {n : Nat} (h : ∀ k < n, p k = false) : (List.range n).find? p = none := List.find?_eq_none.mpr fun k hk => by rw [h k (List.mem_range.mp hk)]; simp
theorem find_at {p : Nat → Bool} {n k : Nat} (hk : k < n) (hp : p k = true) (h : ∀ j < k, p j = false) : (List.range n).find? p = some k := by
  rw [List.find?_range_eq_some]
  exact ⟨hp, by simpa using hk, fun j hj => by rw [h j hj]; rfl⟩
theorem alike_other {a b : List (List Int)} {k : Nat} (hk : k < min a.length b.length) (hne : fillL (a.getD k []) ≠ fillL (b.getD k [])) (h : ∀ j < k, fillL (a.getD j []) = fillL (b.getD j [])) : alikeD a b = .tup [.str "other", .int (k : Nat)] := by
  unfold alikeD
  rw [find_at (p := fun k => decide (fillL (a.getD k []) ≠ fillL (b.getD k []))) hk (decide_eq_true hne) fun j hj => decide_eq_false (by simpa using h j hj)]
theorem alike_rest {a b : List (List Int)} (h : ∀ j < min a.length b.length, fillL (a.getD j []) = fillL (b.getD j [])) : alikeD a b = if a.length ≠ b.length then .tup [.str "other", .int ((min a.length b.length : Nat) : Int)] else .tup [.str "same"] := by
  unfold alikeD
  rw [find_none (p := fun k => decide (fillL (a.getD k []) ≠ fillL (b.getD k []))) fun j hj => decide_eq_false (by simpa using h j hj)]
theorem shD_dII (ss : List (List Int)) : shD (dII ss) = true := (okD_dII 0 ss).sh (by decide)
theorem shD_dI (ss : List Int) : shD (dI ss) = true := (okD_dI 0 ss).sh (by decide)
theorem min_int (a b : Nat) : (if (b : Int) < (a : Int) then (b : Int) else (a : Int)) = ((min a b : Nat) : Int) := by
  by_cases c : (b : Int) < a
  · rw [if_pos c]; congr 1; omega
  · rw [if_neg c]; congr 1; omega
theorem sem_same_together : ∀ ds (Q : D → Prop), ds.length = 2 → f_same_together ds Q → b_same_together { nx := fun _ => ((Kd.fz : Kd) ≠ .nw) ∧ Q .non, rt := Q } (startD N_same_together ds) := by
  rintro ds Q _ ⟨a, b, rfl, ha, hb, q⟩
  have sl := line_ge
  have la := ha.1
  have lb := hb.1
  refine ⟨_, rfl, _, .inl rfl, _, rfl, _, .inl rfl, _, _, rfl, ?_⟩
  rw [List.length_map, List.length_map, min_int]
  refine ⟨_, rfl, _, rfl, by omega, by omega, ?_⟩
  rw [Int.toNat_natCast]
  refine for_rg (fun i δ => (∃ o : Option D, δ = [some (dII a), some (dII b), some (.int ((min a.length b.length : Nat) : Int)), o]) ∧ ∀ j < i, fillL (a.getD j []) = fillL (b.getD j [])) ⟨⟨_, rfl⟩, fun j hj => absurd hj (Nat.not_lt_zero j)⟩ (fun i δ hi ⟨⟨o, hδ⟩, hj⟩ N hN => ?_) (fun δ ⟨⟨o, hδ⟩, hj⟩ => ?_)
  · subst hδ
    have e0 : (0 : Int) + (i : Nat) = ((i : Nat) : Int) := by omega
    rw [e0]
    obtain ⟨a1, a2⟩ := okS_at ha i
    obtain ⟨b1, b2⟩ := okS_at hb i
    refine ⟨_, rfl, _, rfl, _, _, _, .inl rfl, rfl, getD_at (by omega), _, rfl, by omega, _, rfl, _, rfl, _, _, _, .inl rfl, rfl, getD_at (by omega), _, rfl, by omega, shD_dII _, shD_dII _, _, rfl, ?_⟩
    rw [eqD_dII]
    by_cases c : fillL (a.getD i []) = fillL (b.getD i [])
    · rw [decide_eq_true c]
      refine iteF (hN _ ⟨⟨_, rfl⟩, fun j hj' => ?_⟩)
      by_cases e : j = i
      · subst e; exact c
      · exact hj j (by omega)
    · rw [decide_eq_false c]
      rw [alike_other hi c hj] at q
      exact iteT ⟨_, rfl, by show 2 ≤ sizeLine; omega, q⟩
  · subst hδ
    rw [alike_rest hj] at q
    refine ⟨_, rfl, _, .inl rfl, _, rfl, _, .inl rfl, shD_int _, shD_int _, _, rfl, ?_⟩
    rw [eqD_int, List.length_map, List.length_map]
    by_cases c : a.length = b.length
    · rw [if_neg (by simpa using c)] at q
      rw [decide_eq_true (by omega)]
      exact iteF ⟨by show 1 ≤ sizeLine; omega, q⟩
    · rw [if_pos c] at q
      rw [decide_eq_false (by omega)]
      exact iteT ⟨_, rfl, by show 2 ≤ sizeLine; omega, q⟩
theorem sem__law_alike : ∀ ds (Q : D → Prop), ds.length = 2 → f__law_alike ds Q → b__law_alike { nx := fun _ => ((Kd.fz : Kd) ≠ .nw) ∧ Q .non, rt := Q } (startD N__law_alike ds) := by
  rintro ds Q _ ⟨a, b, rfl, ha, hb, q⟩
  have sl := line_ge
  have la := ha.1
  have lb := hb.1
  refine ⟨_, rfl, _, .inl rfl, _, rfl, _, .inl rfl, _, _, rfl, ?_⟩
  rw [List.length_map, List.length_map, min_int]
  refine ⟨_, rfl, by omega, by omega, ?_⟩
  rw [Int.toNat_natCast]
  refine for_rg (fun i δ => (∃ o : Option D, δ = [some (dII a), some (dII b), o]) ∧ ∀ j < i, fillL (a.getD j []) = fillL (b.getD j [])) ⟨⟨_, rfl⟩, fun j hj => absurd hj (Nat.not_lt_zero j)⟩ (fun i δ hi ⟨⟨o, hδ⟩, hj⟩ N hN => ?_) (fun δ ⟨⟨o, hδ⟩, hj⟩ => ?_)
  · subst hδ
    have e0 : (0 : Int) + (i : Nat) = ((i : Nat) : Int) := by omega
    rw [e0]
    obtain ⟨a1, a2⟩ := okS_at ha i
    obtain ⟨b1, b2⟩ := okS_at hb i
    refine ⟨_, rfl, _, rfl, _, _, _, .inl rfl, rfl, getD_at (by omega), _, rfl, by omega, a2, _, rfl, _, rfl, _, _, _, .inl rfl, rfl, getD_at (by omega), _, rfl, by omega, b2, shD_dII _, shD_dII _, _, rfl, ?_⟩
    rw [eqD_dII]
    by_cases c : fillL (a.getD i []) = fillL (b.getD i [])
    · rw [decide_eq_true c]
      refine iteF (hN _ ⟨⟨_, rfl⟩, fun j hj' => ?_⟩)
      by_cases e : j = i
      · subst e; exact c
      · exact hj j (by omega)
    · rw [decide_eq_false c]
      rw [alike_other hi c hj] at q
      exact iteT ⟨_, rfl, by show 2 ≤ sizeLine; omega, q⟩
  · subst hδ
    rw [alike_rest hj] at q
    refine ⟨_, rfl, _, .inl rfl, _, rfl, _, .inl rfl, shD_int _, shD_int _, _, rfl, ?_⟩
    rw [eqD_int, List.length_map, List.length_map]
    by_cases c : a.length = b.length
    · rw [if_neg (by simpa using c)] at q
      rw [decide_eq_true (by omega)]
      exact iteF ⟨by show 1 ≤ sizeLine; omega, q⟩
    · rw [if_pos c] at q
      rw [decide_eq_false (by omega)]
      refine iteT ⟨_, rfl, _, .inl rfl, _, rfl, _, .inl rfl, _, _, rfl, by show 2 ≤ sizeLine; omega, ?_⟩
      rw [List.length_map, List.length_map, min_int]
      exact q
end K08
end

/-! part: M08b -/
section
set_option linter.all false
set_option maxRecDepth 100000
set_option maxHeartbeats 2000000
namespace K08
open PySem PySem.Spec L2 DL
open PyProof.Rows hiding St
theorem sem_left_from : ∀ ds (Q : D → Prop), ds.length = 2 → f_left_from ds Q → b_left_from { nx := fun _ => ((Kd.fz : Kd) ≠ .nw) ∧ Q .non, rt := Q } (startD N_left_from ds) := by
  rintro ds Q _ ⟨row, ss, rfl, hl, q⟩
  have sl := line_ge
  refine ⟨_, rfl, _, .inl rfl, _, _, rfl, rfl, _, rfl, by rw [List.length_map]; omega, by rw [List.length_map]; omega, ?_⟩
  rw [List.length_map, show ((row.length : Int) + 1).toNat = row.length + 1 by omega, rgD_I]
  refine lc_filter (fun k => decide (fillL (row.drop k.toNat) = ss)) _ (by rw [rgI_length]; omega) (Nat.lt_succ_self 2) (fun k hk R hR => ?_) q
  rw [rgI_mem] at hk
  obtain ⟨n, rfl⟩ : ∃ n : Nat, k = n := ⟨k.toNat, by omega⟩
  rw [Int.toNat_natCast] at hR
  refine ⟨_, rfl, _, rfl, _, rfl, _, rfl, row.drop n, ?_, by rw [List.length_drop]; omega, _, rfl, shD_dII _, shD_dII _, _, rfl, ?_⟩
  · rw [cut_map, cut_lo]
  · rw [eqD_dII]
    exact hR
theorem rangeFM {α : Type} (n : Nat) (f : Int → Option α) : ((rgI 0 n).filterMap f) = (List.range n).filterMap fun (k : Nat) => f ((k : Nat) : Int) := by
  rw [rgI, List.filterMap_map]
  congr 1
  funext k
  simp
theorem sum_lens (ss : List (List Int)) : (ss.map fun s => (s.length : Int)).sum = (sumL ss : Int) := shapeL_sum ss
theorem sem_parts_that_fill : ∀ ds (Q : D → Prop), ds.length = 2 → f_parts_that_fill ds Q → b_parts_that_fill { nx := fun _ => ((Kd.fz : Kd) ≠ .nw) ∧ Q .non, rt := Q } (startD N_parts_that_fill ds) := by
  rintro ds Q _ ⟨row, ss, rfl, hl, h1, h2, q⟩
  have sl := line_ge
  refine ⟨_, rfl, _, rfl, ?_⟩
  refine lc_allG dI (fun s => .int (s.length : Int)) ss (by omega) (fun s hs R hR => ?_) ?_
  · refine ⟨_, rfl, _, .inl rfl, ?_⟩
    rw [List.length_map]; exact hR
  refine ⟨ss.map fun s => (s.length : Int), by rw [List.map_map]; rfl, ?_⟩
  rw [sum_lens]
  refine ⟨_, rfl, _, .inl rfl, _, rfl, _, _, rfl, rfl, _, _, rfl, rfl, _, rfl, by rw [List.length_map]; omega, by rw [List.length_map]; omega, ?_⟩
  rw [List.length_map, show ((row.length : Int) - (sumL ss : Int) + 1).toNat = row.length + 1 - sumL ss by omega, rgD_I]
  refine lc_mapI (fun k => if fillL ((row.take (k.toNat + sumL ss)).drop k.toNat) = ss then some (.tup [.int k, .int (k + sumL ss)]) else none) _ [] (by rw [rgI_length]; simp; omega) (fun k hk R hR => ?_) ?_
  · rw [rgI_mem] at hk
    obtain ⟨n, rfl⟩ : ∃ n : Nat, k = n := ⟨k.toNat, by omega⟩
    rw [Int.toNat_natCast] at hR
    refine ⟨_, rfl, _, rfl, _, rfl, _, rfl, _, rfl, _, _, rfl, rfl, _, rfl, _, rfl, (row.take (n + sumL ss)).drop n, ?_, by rw [List.length_drop, List.length_take]; omega, _, rfl, shD_dII _, shD_dII _, _, rfl, ?_⟩
    · show [D.lst (cutL (row.map D.int) (some (n : Int)) (some ((n + sumL ss : Nat) : Int)))] = _
      rw [cut_map, cut_lohi]
    · rw [eqD_dII]
      by_cases c : fillL ((row.take (n + sumL ss)).drop n) = ss
      · rw [if_pos c] at hR
        rw [decide_eq_true c]
        exact iteT ⟨_, rfl, _, rfl, _, rfl, _, _, rfl, rfl, by show 2 ≤ sizeLine; omega, hR⟩
      · rw [if_neg c] at hR
        rw [decide_eq_false c]
        exact iteF hR
  · rw [List.nil_append, rangeFM]
    unfold partsL at q
    exact q
theorem at_pre {pre : List Int} {l : List Int} {k : Nat} {v : Int} (h : l[k]? = some v) : L2.atI ((pre ++ l).map D.int) ((pre.length : Int) + k) = some (.int v) := by
  have : L2.atI ((pre ++ l).map D.int) ((pre.length + k : Nat) : Int) = some (.int v) := atI_nat (by
    rw [List.getElem?_map, List.getElem?_append_right (by omega), Nat.add_sub_cancel_left, h]; rfl)
  rw [← this]; congr 1
theorem min_i (a b : Int) : (if b < a then b else a) = min a b := by rw [Int.min_def]; split <;> split <;> omega
theorem max_i (a b : Int) : (if b > a then b else a) = max a b := by rw [Int.max_def]; split <;> split <;> omega
theorem sem__law_may : ∀ ds (Q : D → Prop), ds.length = 3 → f__law_may ds Q → b__law_may { nx := fun _ => ((Kd.fz : Kd) ≠ .nw) ∧ Q .non, rt := Q } (startD N__law_may ds) := by
  rintro ds Q _ ⟨row, at_, which, x, y, z, pre, post, rfl, rfl, rfl, q⟩
  have h0 := at_pre (pre := pre) (l := x :: y :: z :: post) (k := 0) (v := x) rfl
  have h1 := at_pre (pre := pre) (l := x :: y :: z :: post) (k := 1) (v := y) rfl
  have h2 := at_pre (pre := pre) (l := x :: y :: z :: post) (k := 2) (v := z) rfl
  rw [show (pre.length : Int) + (0 : Nat) = pre.length by omega] at h0
  refine ⟨_, rfl, _, rfl, _, _, _, .inl rfl, rfl, h0, ?_⟩
  refine ⟨_, rfl, _, rfl, _, _, rfl, rfl, _, _, _, .inl rfl, rfl, h1, ?_⟩
  refine ⟨_, rfl, _, rfl, _, _, rfl, rfl, _, _, _, .inl rfl, rfl, h2, ?_⟩
  refine ⟨_, rfl, shD_int _, shD_int _, _, rfl, ?_⟩
  rw [eqD_int]
  unfold mayB at q
  by_cases c : which = 0
  · rw [if_pos c] at q
    rw [decide_eq_true c]
    refine iteT ⟨_, rfl, _, rfl, _, _, rfl, _, rfl, _, _, rfl, rfl, _, rfl, ?_⟩
    rw [min_i]
    by_cases d : min x y ≤ z
    · rw [decide_eq_true d] at q ⊢
      refine iteT ⟨_, rfl, _, rfl, _, rfl, _, _, rfl, _, _, rfl, rfl, ?_⟩
      rw [max_i]
      simpa using q
    · rw [decide_eq_false d] at q ⊢
      exact iteF (by simpa using q)
  · rw [if_neg c] at q
    rw [decide_eq_false c]
    refine iteF ⟨_, rfl, _, rfl, _, _, rfl, _, rfl, _, _, rfl, rfl, _, rfl, ?_⟩
    rw [min_i]
    by_cases d : min y z < x
    · rw [decide_eq_true d] at q ⊢
      refine iteT ⟨_, rfl, _, rfl, _, rfl, _, _, rfl, _, _, rfl, rfl, ?_⟩
      rw [max_i]
      simpa using q
    · rw [decide_eq_false d] at q ⊢
      exact iteF (by simpa using q)
theorem sem__law_done : ∀ ds (Q : D → Prop), ds.length = 3 → f__law_done ds Q → b__law_done { nx := fun _ => ((Kd.fz : Kd) ≠ .nw) ∧ Q .non, rt := Q } (startD N__law_done ds) := by
  rintro ds Q _ ⟨row, at_, which, x, y, z, pre, post, rfl, rfl, rfl, hw, hl, q⟩
  have sl := line_ge
  -- k, the two behind pre'
  have go : ∀ (u v : Int) (pre' post' : List Int) (w : Int), pre ++ x :: y :: z :: post = pre' ++ u :: v :: post' → (pre.length : Int) + w = pre'.length → Q (dI (pre' ++ [v, u] ++ post')) →
      b__law_done { nx := fun _ => ((Kd.fz : Kd) ≠ .nw) ∧ Q .non, rt := Q } (startD N__law_done [dI (pre ++ x :: y :: z :: post), .int (pre.length : Int), .int w]) := by
    intro u v pre' post' w e ew q
    rw [e]
    have hl' : (pre' ++ u :: v :: post').length ≤ 1000 := by rw [← e]; exact hl
    have h0 := at_pre (pre := pre') (l := u :: v :: post') (k := 0) (v := u) rfl
    have h1 := at_pre (pre := pre') (l := u :: v :: post') (k := 1) (v := v) rfl
    rw [show (pre'.length : Int) + (0 : Nat) = pre'.length by omega] at h0
    refine ⟨_, rfl, _, rfl, _, _, rfl, rfl, ?_⟩
    have E3 : ∀ {α : Type} (f : Int → α), f ((pre.length : Int) + w) = f (pre'.length : Int) := fun f => congrArg f ew
    refine ⟨_, rfl, .int (pre'.length : Int), E3 (fun z => some (some (D.int z))), _, rfl, _, rfl, _, rfl, .int (pre'.length : Int), E3 (fun z => some (some (D.int z))), _, _, rfl, rfl, _, _, _, .inl rfl, rfl, h1, _, rfl, .int (pre'.length : Int), E3 (fun z => some (some (D.int z))), _, _, _, .inl rfl, rfl, h0, by show 2 ≤ sizeLine; omega, _, _, rfl, rfl, ?_, ?_⟩
    · rw [cut_map, cut_hi, List.length_map]
      simp at hl' ⊢
      omega
    · refine ⟨_, rfl, .int (pre'.length : Int), E3 (fun z => some (some (D.int z))), _, _, rfl, rfl, _, rfl, _, rfl, _, _, rfl, rfl, ?_, ?_⟩
      · show (cutL ((pre' ++ u :: v :: post').map D.int) none (some (pre'.length : Int)) ++ [D.int v, D.int u]).length + (cutL ((pre' ++ u :: v :: post').map D.int) (some ((pre'.length + 2 : Nat) : Int)) none).length ≤ sizeLine
        rw [cut_map, cut_hi, cut_map, cut_lo]
        simp at hl' ⊢
        omega
      · show Q (.lst (cutL ((pre' ++ u :: v :: post').map D.int) none (some (pre'.length : Int)) ++ [D.int v, D.int u] ++ cutL ((pre' ++ u :: v :: post').map D.int) (some ((pre'.length + 2 : Nat) : Int)) none))
        rw [cut_map, cut_hi, cut_map, cut_lo]
        have t1 : (pre' ++ u :: v :: post').take pre'.length = pre' := by simp
        have t2 : (pre' ++ u :: v :: post').drop (pre'.length + 2) = post' := by simp [List.drop_append]
        rw [t1, t2]
        rw [dI, List.map_append, List.map_append] at q
        exact q
  rcases hw with rfl | rfl
  · exact go x y pre (z :: post) 0 rfl (by omega) (by simpa using q)
  · exact go y z (pre ++ [x]) post 1 (by simp) (by simp) (by simpa using q)
end K08
end

/-! part: M08c -/
section
set_option linter.all false
set_option maxRecDepth 100000
set_option maxHeartbeats 2000000
namespace K08
open PySem PySem.Spec L2 DL
open PyProof.Rows hiding St
theorem may_kn {x y z which : Int} (hw : which = 0 ∨ which = 1) (h : mayB x y z which = true) : Alike [x, y, z] (if which = 0 then [y, x, z] else [x, z, y]) := by
  unfold mayB at h
  rcases hw with rfl | rfl
  · rw [if_pos rfl] at h ⊢
    rw [Bool.and_eq_true_iff] at h
    have h1 := of_decide_eq_true h.1
    have h2 := of_decide_eq_true h.2
    by_cases c : x ≤ z
    · exact Alike.of (Kn.a c (by omega))
    · exact (Alike.of (Kn.a (x := y) (y := z) (z := x) (by omega) (by omega))).symm
  · rw [if_neg (by decide)] at h ⊢
    rw [Bool.and_eq_true_iff] at h
    have h1 := of_decide_eq_true h.1
    have h2 := of_decide_eq_true h.2
    by_cases c : y < x ∧ x ≤ z
    · exact (Alike.of (Kn.b c.1 c.2)).symm
    · exact Alike.of (Kn.b (x := z) (y := x) (z := y) (by omega) (by omega))
theorem may_perm {x y z which : Int} : (if which = 0 then [y, x, z] else [x, z, y]).Perm [x, y, z] := by
  by_cases c : which = 0
  · rw [if_pos c]; exact List.Perm.swap _ _ _
  · rw [if_neg c]; exact (List.Perm.swap _ _ _).cons _
theorem parted {now : List Int} {k : Nat} (h : k + 2 < now.length) : ∃ x y z pre post, now = pre ++ x :: y :: z :: post ∧ pre.length = k := by
  refine ⟨now[k], now[k + 1], now[k + 2], now.take k, now.drop (k + 3), ?_, by rw [List.length_take]; omega⟩
  conv => lhs; rw [← List.take_append_drop k now]
  rw [List.drop_eq_getElem_cons (by omega), List.drop_eq_getElem_cons (by omega), List.drop_eq_getElem_cons (by omega)]
theorem sem__law_led : ∀ ds (Q : D → Prop), ds.length = 3 → f__law_led ds Q → b__law_led { nx := fun _ => ((Kd.fz : Kd) ≠ .nw) ∧ Q .non, rt := Q } (startD N__law_led ds) := by
  rintro ds Q _ ⟨row, many, rfl, hl, m0, m1, q⟩
  have sl := line_ge
  refine ⟨_, rfl, _, .inl rfl, ?_⟩
  refine ⟨_, rfl, many, rfl, by omega, by omega, ?_⟩
  refine for_rg (fun i δ => ∃ (now : List Int) (o4 o5 o6 : Option D), δ = [some .fd, some (dI row), some (.int many), some (dI now), o4, o5, o6] ∧ Alike row now ∧ now.Perm row) ⟨row, _, _, _, rfl, Alike.refl _, .refl _⟩ (fun i δ hi ⟨now, o4, o5, o6, hδ, ha, hp⟩ N hN => ?_) (fun δ ⟨now, o4, o5, o6, hδ, ha, hp⟩ => ?_)
  · subst hδ
    have hnl := hp.length_eq
    refine ⟨_, rfl, _, .inl rfl, _, _, rfl, rfl, _, rfl, ?_⟩
    rw [List.length_map]
    by_cases c : 2 < now.length
    · rw [decide_eq_true (by omega)]
      refine iteT ⟨_, rfl, _, rfl, _, .inl rfl, _, _, rfl, rfl, (now.length : Int) - 2, by rw [List.length_map], by omega, by omega, fun at_ a0 a1 => ?_⟩
      refine ⟨_, rfl, 2, rfl, by decide, by decide, fun which w0 w1 => ?_⟩
      obtain ⟨k, rfl⟩ : ∃ k : Nat, at_ = k := ⟨at_.toNat, by omega⟩
      obtain ⟨x, y, z, pre, post, e, hk⟩ := parted (now := now) (k := k) (by omega)
      have hw : which = 0 ∨ which = 1 := by omega
      refine ⟨_, rfl, _, rfl, _, rfl, now, (k : Int), which, x, y, z, pre, post, rfl, e, by rw [hk], _, rfl, ?_⟩
      cases m : mayB x y z which with
      | false => exact iteF (hN _ ⟨now, _, _, _, rfl, ha, hp⟩)
      | true =>
        refine iteT ⟨_, rfl, _, rfl, _, rfl, now, (k : Int), which, x, y, z, pre, post, rfl, e, by rw [hk], hw, by omega, hN _ ⟨pre ++ (if which = 0 then [y, x, z] else [x, z, y]) ++ post, _, _, _, rfl, ?_, ?_⟩⟩
        · refine ha.trans ?_
          rw [e, show pre ++ x :: y :: z :: post = pre ++ [x, y, z] ++ post by simp]
          exact ((Alike.refl pre).app (may_kn hw m)).app (Alike.refl post)
        · refine List.Perm.trans ?_ hp
          rw [e, show pre ++ x :: y :: z :: post = pre ++ [x, y, z] ++ post by simp]
          exact (may_perm.append_left pre).append_right post
    · rw [decide_eq_false (by omega)]
      exact iteF (hN _ ⟨now, _, _, _, rfl, ha, hp⟩)
  · subst hδ
    exact ⟨_, rfl, q now ha hp⟩
theorem take_cut {row : List Int} {a b : Nat} (h : a ≤ b) : row.take a ++ (row.take b).drop a = row.take b := by
  have := List.take_append_drop a (row.take b)
  rwa [List.take_take, Nat.min_eq_left h] at this
theorem dII_snoc (rows : List (List Int)) (s : List Int) : dII (rows ++ [s]) = D.lst (rows.map dI ++ [dI s]) := by rw [dII, List.map_append]; rfl
theorem sem__law_cut : ∀ ds (Q : D → Prop), ds.length = 2 → f__law_cut ds Q → b__law_cut { nx := fun _ => ((Kd.fz : Kd) ≠ .nw) ∧ Q .non, rt := Q } (startD N__law_cut ds) := by
  rintro ds Q _ ⟨row, rfl, hl, q⟩
  have sl := line_ge
  refine ⟨Nat.zero_le _, ?_⟩
  refine ⟨_, rfl, 6, rfl, by decide, by decide, fun many m0 m1 => ?_⟩
  refine ⟨_, rfl, many, rfl, by omega, by omega, ?_⟩
  refine for_rg (fun i δ => ∃ (rows : List (List Int)) (b : Nat) (o5 o6 : Option D), δ = [some .fd, some (dI row), some (dII rows), some (.int (b : Int)), some (.int many), o5, o6] ∧ rows.length = i ∧ b ≤ row.length ∧ rows.flatten = row.take b ∧ ((i : Int) = many → 0 < many → b = row.length)) ⟨[], 0, _, _, rfl, rfl, Nat.zero_le _, rfl, fun h1 h2 => by omega⟩ (fun i δ hi ⟨rows, b, o5, o6, hδ, hr, hb, hf, _⟩ N hN => ?_) (fun δ ⟨rows, b, o5, o6, hδ, hr, hb, hf, he⟩ => ?_)
  · subst hδ
    -- one part more, up to e
    have part : ∀ (e : Nat) (o : Option D), b ≤ e → e ≤ row.length → ((i : Int) + 1 = many → e = row.length) → (sSeq (sApp 2 (eSl (eVar 1) (oSome (eVar 3)) (oSome (eVar 6)))) (sSet 3 (eVar 6))) { nx := N, rt := Q, bk := fun _ => False, ct := N } [some .fd, some (dI row), some (dII rows), some (.int (b : Int)), some (.int many), some (.int (0 + (i : Int))), some (.int (e : Int))] := by
      intro e o h1 h2 h3
      refine ⟨_, rfl, _, rfl, _, rfl, _, rfl, _, rfl, _, rfl, _, rfl, by rw [List.length_map]; omega, ?_⟩
      refine ⟨_, rfl, hN _ ⟨rows ++ [(row.take e).drop b], e, some (.int (0 + (i : Int))), some (.int (e : Int)), ?_, by simp [hr], h2, ?_, fun g1 _ => h3 (by omega)⟩⟩
      · show [_, _, some (D.lst (rows.map dI ++ [D.lst (cutL (row.map D.int) (some (b : Int)) (some (e : Int)))])), _, _, _, _] = _
        rw [cut_map, cut_lohi, dII_snoc]
      · rw [flat_step, hf, take_cut h1]
    refine ⟨_, rfl, _, rfl, _, rfl, _, .inl rfl, _, rfl, _, _, rfl, rfl, _, _, rfl, rfl, (row.length : Int) - b + 1, by rw [List.length_map], by omega, by omega, fun d d0 d1 => ⟨_, _, rfl, rfl, ?_⟩⟩
    obtain ⟨n, rfl⟩ : ∃ n : Nat, d = n := ⟨d.toNat, by omega⟩
    refine ⟨_, rfl, _, rfl, _, _, rfl, rfl, shD_int _, shD_int _, _, rfl, ?_⟩
    rw [eqD_int]
    by_cases c : (0 : Int) + i = many - 1
    · rw [decide_eq_true c]
      refine iteT ⟨_, rfl, _, .inl rfl, ?_⟩
      rw [List.length_map]
      exact part row.length none hb (Nat.le_refl _) fun _ => rfl
    · rw [decide_eq_false c]
      refine iteF ?_
      exact part (b + n) none (by omega) (by omega) fun h => by omega
  · subst hδ
    refine ⟨_, rfl, q rows (by omega) ?_⟩
    by_cases z : many = 0
    · left
      exact List.eq_nil_of_length_eq_zero (by omega)
    · right
      rw [hf, he (by omega) (by omega), List.take_length]
end K08
end

/-! part: M08d -/
section
set_option linter.all false
set_option maxRecDepth 100000
set_option maxHeartbeats 2000000
namespace K08
open PySem PySem.Spec L2 DL
open PyProof.Rows hiding St
theorem toldW_W {rows : List (List Int)} (h : okS rows) : okW 3 (toldW rows) := by
  unfold toldW
  split
  · exact tup2_W (okW_str _ _ (by decide +kernel)) (okW_int _ _)
  · exact tup2_W (okW_str _ _ (by decide +kernel)) (fill_W 0 (by rw [flat_len]; have := h.2.1; omega))
theorem sem__law_told (Cl : ClT) : ∀ ds (Q : D → Prop), ds.length = 1 → f__law_told ds Q → b__law_told Cl { nx := fun _ => ((Kd.fz : Kd) ≠ .nw) ∧ Q .non, rt := Q } (startD N__law_told ds) := by
  rintro ds Q _ ⟨rows, rfl, h1, q⟩
  have sl : 2 ≤ sizeLine := by have := line_ge; omega
  have W1 := okS_W h1 6
  refine ⟨_, rfl, rows, rfl, by have := h1.1; omega, ?_⟩
  refine ⟨sl, ?_⟩
  refine ⟨_, rfl, rows, rfl, by have := h1.1; omega, by have := h1.2.1; omega, ?_⟩
  have tail : ∀ e : Option D, (sSeq (sIf (tNotD (tBd (eA (f_same 8) (aCons (eVar 1) (aCons (eVar 0) aNil)))))
    (sRet (eA gMkT (aCons (eC (.str "changed")) (aCons (eC (.int 0)) aNil)))) sNext) (sRet (eVar 2))) { nx := fun _ => ((Kd.fz : Kd) ≠ .nw) ∧ Q .non, rt := Q } [some (dII rows), some (dII rows), some (toldW rows), e] := by
    intro e
    refine ⟨_, rfl, _, rfl, _, _, rfl, W1.1.mono (by decide), W1, _, rfl, ?_⟩
    rw [same_refl W1]
    exact iteF ⟨_, rfl, q⟩
  by_cases c : sumL rows > 14
  · rw [if_pos c]
    intro C hC a dd
    have e : toldW rows = .tup [.str "raised", .int 14] := if_pos c
    refine ⟨sl, ?_⟩
    have i1 : is_TooMany "TooMany" = true := by decide
    have i2 : is_BadRow "TooMany" = false := by decide
    refine ⟨"limit", 14, rfl, _, rfl, ?_⟩
    rw [i1]
    refine iteT ⟨"limit", 14, rfl, _, rfl, iteT ⟨"limit", 14, rfl, _, rfl, ?_⟩⟩
    rw [i2]
    refine iteT ⟨14, rfl, sl, ?_⟩
    have := tail none
    rw [e] at this
    exact this
  · rw [if_neg c]
    have e : toldW rows = .tup [.str "answer", dII (fillL rows.flatten)] := if_neg c
    refine ⟨sl, ?_⟩
    have := tail none
    rw [e] at this
    exact this
theorem alike_W (a b : List (List Int)) : okW 2 (alikeD a b) := by
  unfold alikeD
  split
  · exact tup2_W (okW_str _ _ (by decide +kernel)) (okW_int _ _)
  · split
    · exact tup2_W (okW_str _ _ (by decide +kernel)) (okW_int _ _)
    · refine okW_tup (by show 1 ≤ 1000000; decide) fun d hd => ?_
      rw [List.mem_singleton.mp hd]
      exact okW_str _ _ (by decide +kernel)
theorem sem__law_compared : ∀ ds (Q : D → Prop), ds.length = 2 → f__law_compared ds Q → b__law_compared { nx := fun _ => ((Kd.fz : Kd) ≠ .nw) ∧ Q .non, rt := Q } (startD N__law_compared ds) := by
  rintro ds Q _ ⟨a, b, rfl, ha, hb, q⟩
  have W1 := okS_W ha 6
  have W2 := okS_W hb 6
  have W3 := (alike_W a b).mono (show 2 ≤ 8 by decide)
  refine ⟨_, rfl, a, rfl, by have := ha.1; omega, ?_⟩
  refine ⟨_, rfl, b, rfl, by have := hb.1; omega, ?_⟩
  refine ⟨_, rfl, _, rfl, a, b, rfl, ha, hb, ?_⟩
  refine ⟨_, rfl, _, rfl, _, rfl, a, b, rfl, ha, hb, _, _, rfl, W3.1.mono (by decide), W3, _, rfl, ?_⟩
  rw [same_refl W3]
  refine iteT ⟨_, rfl, _, rfl, _, _, rfl, W1.1.mono (by decide), W1, _, rfl, ?_⟩
  rw [same_refl W1]
  refine iteT ⟨_, rfl, _, rfl, _, _, rfl, W2.1.mono (by decide), W2, ?_⟩
  rw [same_refl W2]
  exact q
/-! the parts that fill -/
theorem fill_sum_eq {row : List Int} {ss : List (List Int)} (h : fillL row = ss) : sumL ss = row.length := by rw [← h, fillL_sum]
/-- one begin: at most one end -/
theorem one_end {row : List Int} {ss : List (List Int)} {b : Nat} (hb : b ≤ row.length) :
    ((rgI b (row.length + 1 - b)).filterMap fun e => if fillL ((row.take e.toNat).drop b) = ss then some (D.tup [.int (b : Int), .int e]) else none) =
      (if b + sumL ss ≤ row.length ∧ fillL ((row.take (b + sumL ss)).drop b) = ss then [D.tup [.int (b : Int), .int ((b + sumL ss : Nat) : Int)]] else []) := by
  have key : ∀ e : Nat, b ≤ e → e ≤ row.length → fillL ((row.take e).drop b) = ss → e = b + sumL ss := by
    intro e h1 h2 h
    have := fill_sum_eq h
    rw [List.length_drop, List.length_take] at this
    omega
  by_cases c : b + sumL ss ≤ row.length ∧ fillL ((row.take (b + sumL ss)).drop b) = ss
  · rw [if_pos c]
    have hsplit : rgI b (row.length + 1 - b) = rgI b (sumL ss) ++ ((b + sumL ss : Nat) : Int) :: rgI ((b + sumL ss : Nat) + 1) (row.length - b - sumL ss) := by
      have : row.length + 1 - b = sumL ss + (1 + (row.length - b - sumL ss)) := by omega
      rw [this]
      unfold rgI
      rw [List.range_add, List.map_append, List.map_map, Nat.add_comm 1, List.range_succ_eq_map, List.map_cons, List.map_map]
      congr 1
      congr 1
      simp
      intros
      omega
    rw [hsplit, List.filterMap_append, List.filterMap_cons]
    have h1 : (rgI b (sumL ss)).filterMap (fun e => if fillL ((row.take e.toNat).drop b) = ss then some (D.tup [.int (b : Int), .int e]) else none) = [] := by
      rw [List.filterMap_eq_nil_iff]
      intro e he
      rw [rgI_mem] at he
      rw [if_neg fun h => by
        have := key e.toNat (by omega) (by omega) h
        omega]
    have h2 : (rgI ((b + sumL ss : Nat) + 1) (row.length - b - sumL ss)).filterMap (fun e => if fillL ((row.take e.toNat).drop b) = ss then some (D.tup [.int (b : Int), .int e]) else none) = [] := by
      rw [List.filterMap_eq_nil_iff]
      intro e he
      rw [rgI_mem] at he
      rw [if_neg fun h => by
        have := key e.toNat (by omega) (by omega) h
        omega]
    rw [h1, h2]
    rw [Int.toNat_natCast, if_pos c.2]
    rfl
  · rw [if_neg c, List.filterMap_eq_nil_iff]
    intro e he
    rw [rgI_mem] at he
    rw [if_neg fun h => by
      have := key e.toNat (by omega) (by omega) h
      exact c ⟨by omega, by rw [← this]; exact h⟩]
def partF (row : List Int) (ss : List (List Int)) (b : Nat) : List D := if b + sumL ss ≤ row.length ∧ fillL ((row.take (b + sumL ss)).drop b) = ss then [D.tup [.int (b : Int), .int ((b + sumL ss : Nat) : Int)]] else []
theorem parts_eq (row : List Int) (ss : List (List Int)) : (List.range (row.length + 1)).flatMap (partF row ss) = partsL row ss := by
  unfold partsL
  have hsplit : List.range (row.length + 1) = List.range (row.length + 1 - sumL ss) ++ (List.range (row.length + 1 - (row.length + 1 - sumL ss))).map (row.length + 1 - sumL ss + ·) := by
    rw [← List.range_add]; congr 1; omega
  rw [hsplit, List.flatMap_append]
  have h2 : ((List.range (row.length + 1 - (row.length + 1 - sumL ss))).map (row.length + 1 - sumL ss + ·)).flatMap (partF row ss) = [] := by
    rw [List.flatMap_eq_nil_iff]
    intro k hk
    obtain ⟨j, hj, rfl⟩ := List.mem_map.mp hk
    rw [List.mem_range] at hj
    unfold partF
    rw [if_neg (by omega)]
  rw [h2, List.append_nil]
  have : ∀ l : List Nat, (∀ k ∈ l, k < row.length + 1 - sumL ss) → l.flatMap (partF row ss) = l.filterMap fun b => if fillL ((row.take (b + sumL ss)).drop b) = ss then some (D.tup [.int (b : Nat), .int ((b + sumL ss : Nat) : Int)]) else none := by
    intro l
    induction l with
    | nil => intro _; rfl
    | cons k l ih =>
      intro h
      have hk := h k List.mem_cons_self
      rw [List.flatMap_cons, List.filterMap_cons, ih fun j hj => h j (List.mem_cons_of_mem _ hj)]
      unfold partF
      by_cases c : fillL ((row.take (k + sumL ss)).drop k) = ss
      · rw [if_pos ⟨by omega, c⟩, if_pos c]; rfl
      · rw [if_neg fun z => c z.2, if_neg c]; rfl
  exact this _ fun k hk => List.mem_range.mp hk
theorem rgI_snoc (n : Nat) : rgI 0 (n + 1) = rgI 0 n ++ [(n : Int)] := by
  unfold rgI; rw [List.range_succ, List.map_append]; simp
theorem dI_snoc (l : List Int) (x : Int) : dI (l ++ [x]) = D.lst (l.map D.int ++ [D.int x]) := by rw [dI, List.map_append]; rfl
theorem sem__law_parts : ∀ ds (Q : D → Prop), ds.length = 2 → f__law_parts ds Q → b__law_parts { nx := fun _ => ((Kd.fz : Kd) ≠ .nw) ∧ Q .non, rt := Q } (startD N__law_parts ds) := by
  rintro ds Q _ ⟨row, ss, rfl, hl, hp, hs, q⟩
  have sl := line_ge
  have hs1 := hs.1
  have hs2 := hs.2.1
  have W1 : okW 8 (dI row) := okW_dI 7 row (by omega)
  have W2 := okS_W hs 6
  refine ⟨_, rfl, _, .inl rfl, ?_⟩
  refine ⟨_, rfl, ss, rfl, by omega, ?_⟩
  refine ⟨Nat.zero_le _, ⟨Nat.zero_le _, ?_⟩⟩
  refine ⟨_, rfl, _, .inl rfl, _, _, rfl, rfl, _, rfl, by rw [List.length_map]; omega, by rw [List.length_map]; omega, ?_⟩
  rw [List.length_map, show ((row.length : Int) + 1).toNat = row.length + 1 by omega]
  refine for_rg (fun i δ => ∃ o6 o7 : Option D, δ = [some (dI row), some (dII ss), some (dI row), some (dII ss), some (dI ((rgI 0 i).filter fun k => decide (fillL (row.drop k.toNat) = ss))), some (.lst ((List.range i).flatMap (partF row ss))), o6, o7]) ⟨_, _, rfl⟩ (fun i δ hi ⟨o6, o7, hδ⟩ N hN => ?_) (fun δ ⟨o6, o7, hδ⟩ => ?_)
  · subst hδ
    have e0 : (0 : Int) + (i : Nat) = ((i : Nat) : Int) := by omega
    rw [e0]
    -- the parts
    have parts : ∀ (bs : List Int), bs = (rgI 0 (i + 1)).filter (fun k => decide (fillL (row.drop k.toNat) = ss)) →
        (sSet 5 (e2 gCat (eVar 5) (eLc (wR2 (aCons (eVar 6) (aCons (e2 gAdd (eA gLen (aCons (eVar 0) aNil)) (eC (.int 1))) aNil))) (.one 7) (tBd (e2 gEq (eA f__law_fill (aCons (eSl (eVar 0) (oSome (eVar 6)) (oSome (eVar 7))) aNil)) (eVar 1))) (eA gMkT (aCons (eVar 6) (aCons (eVar 7) aNil))) [7])))
          { nx := N, rt := Q, bk := fun _ => False, ct := N } [some (dI row), some (dII ss), some (dI row), some (dII ss), some (dI bs), some (.lst ((List.range i).flatMap (partF row ss))), some (.int (i : Int)), o7] := by
      intro bs hbs
      refine ⟨_, rfl, _, rfl, _, rfl, _, .inl rfl, _, _, rfl, rfl, _, _, rfl, ⟨by omega, by omega, by rw [List.length_map]; omega, by rw [List.length_map]; omega⟩, ?_⟩
      rw [List.length_map, show ((row.length : Int) + 1 - (i : Int)).toNat = row.length + 1 - i by omega, rgD_I]
      refine lc_mapI (fun e => if fillL ((row.take e.toNat).drop i) = ss then some (D.tup [.int (i : Int), .int e]) else none) _ [] (by rw [rgI_length]; simp; omega) (fun e he R hR => ?_) ?_
      · rw [rgI_mem] at he
        obtain ⟨n, rfl⟩ : ∃ n : Nat, e = n := ⟨e.toNat, by omega⟩
        rw [Int.toNat_natCast] at hR
        refine ⟨_, rfl, _, rfl, _, rfl, _, rfl, _, rfl, _, rfl, (row.take n).drop i, ?_, by rw [List.length_drop, List.length_take]; omega, fun x hx => hp x (List.mem_of_mem_take (List.mem_of_mem_drop hx)), _, rfl, shD_dII _, shD_dII _, _, rfl, ?_⟩
        · rw [cut_map, cut_lohi]
        · rw [eqD_dII]
          by_cases c : fillL ((row.take n).drop i) = ss
          · rw [if_pos c] at hR
            rw [decide_eq_true c]
            exact iteT ⟨_, rfl, _, rfl, by show 2 ≤ sizeLine; omega, hR⟩
          · rw [if_neg c] at hR
            rw [decide_eq_false c]
            exact iteF hR
      · rw [List.nil_append, one_end (by omega)]
        have hpl : ((List.range i).flatMap (partF row ss)).length ≤ i := by
          have : ∀ l : List Nat, (l.flatMap (partF row ss)).length ≤ l.length := by
            intro l
            induction l with
            | nil => simp
            | cons k l ih =>
              rw [List.flatMap_cons, List.length_append, List.length_cons]
              have : (partF row ss k).length ≤ 1 := by unfold partF; split <;> simp
              omega
          have := this (List.range i)
          rwa [List.length_range] at this
        have hp1 : (partF row ss i).length ≤ 1 := by unfold partF; split <;> simp
        refine ⟨_, _, rfl, rfl, ?_, hN _ ⟨some (.int (i : Int)), o7, ?_⟩⟩
        · have : (partF row ss i).length ≤ 1 := hp1
          unfold partF at this
          omega
        · show [_, _, _, _, some (dI bs), some (D.lst ((List.range i).flatMap (partF row ss) ++ partF row ss i)), _, _] = _
          rw [hbs, List.range_succ, List.flatMap_append]
          simp
    refine ⟨_, rfl, _, rfl, _, rfl, _, rfl, row.drop i, ?_, by rw [List.length_drop]; omega, fun x hx => hp x (List.mem_of_mem_drop hx), _, rfl, shD_dII _, shD_dII _, _, rfl, ?_⟩
    · rw [cut_map, cut_lo]
    · rw [eqD_dII]
      by_cases c : fillL (row.drop i) = ss
      · rw [decide_eq_true c]
        have hfl := List.length_filter_le (fun k : Int => decide (fillL (row.drop k.toNat) = ss)) (rgI 0 i)
        rw [rgI_length] at hfl
        refine iteT ⟨_, rfl, _, rfl, by rw [List.length_map]; omega, ?_⟩
        have := parts ((rgI 0 i).filter (fun k => decide (fillL (row.drop k.toNat) = ss)) ++ [(i : Int)]) (by rw [rgI_snoc, List.filter_append]; simp [c])
        rw [dI_snoc] at this
        exact this
      · rw [decide_eq_false c]
        refine iteF (parts _ (by rw [rgI_snoc, List.filter_append]; simp [c]))
  · subst hδ
    rw [parts_eq]
    have hl1 : leftL row ss = (rgI 0 (row.length + 1)).filter fun k => decide (fillL (row.drop k.toNat) = ss) := rfl
    rw [← hl1]
    have hfl := List.length_filter_le (fun k : Int => decide (fillL (row.drop k.toNat) = ss)) (rgI 0 (row.length + 1))
    rw [rgI_length] at hfl
    have W3 : okW 8 (dI (leftL row ss)) := okW_dI 7 _ (by rw [hl1]; omega)
    have W4 : okW 8 (.lst (partsL row ss)) := by
      refine okW_lst ?_ fun d hd => ?_
      · unfold partsL
        have := List.length_filterMap_le (fun b => if fillL ((row.take (b + sumL ss)).drop b) = ss then some (D.tup [.int (b : Nat), .int ((b + sumL ss : Nat) : Int)]) else none) (List.range (row.length + 1 - sumL ss))
        rw [List.length_range] at this
        omega
      · unfold partsL at hd
        obtain ⟨b, _, hb⟩ := List.mem_filterMap.mp hd
        split at hb
        · cases hb
          exact tup2_W (okW_int _ _) (okW_int _ _)
        · cases hb
    refine ⟨_, rfl, _, rfl, row, ss, rfl, by omega, _, rfl, _, _, rfl, W3.1.mono (by decide), W3, _, rfl, ?_⟩
    rw [same_refl W3]
    refine iteF ⟨_, rfl, _, rfl, row, ss, rfl, by omega, by omega, by omega, _, rfl, _, _, rfl, W4.1.mono (by decide), W4, _, rfl, ?_⟩
    rw [same_refl W4]
    refine iteF ⟨_, rfl, _, rfl, _, _, rfl, W1.1.mono (by decide), W1, _, rfl, ?_⟩
    rw [same_refl W1]
    refine iteT ⟨_, rfl, _, rfl, _, _, rfl, W2.1.mono (by decide), W2, ?_⟩
    rw [same_refl W2]
    exact q
end K08
end

/-! part: M08e -/
section
set_option linter.all false
set_option maxRecDepth 100000
set_option maxHeartbeats 2000000
namespace K08
open PySem PySem.Spec L2 DL
open PyProof.Rows hiding St
theorem cut_len {α : Type} (xs : List α) (a b : Option Int) : (cutL xs a b).length ≤ xs.length := by
  unfold cutL
  rw [List.length_take, List.length_drop]
  omega
def okN (n m : Nat) (ss : List (List Int)) : Prop := ss.length ≤ n ∧ sumL ss ≤ m ∧ ∀ s ∈ ss, ∀ x ∈ s, 0 < x
theorem sumL_app (a b : List (List Int)) : sumL (a ++ b) = sumL a + sumL b := by simp [sumL]
theorem okN_app {n m k l : Nat} {a b : List (List Int)} (h : okN n m a) (g : okN k l b) : okN (n + k) (m + l) (a ++ b) := ⟨by rw [List.length_append]; have := h.1; have := g.1; omega, by rw [sumL_app]; have := h.2.1; have := g.2.1; omega, fun s hs => by
  rcases List.mem_append.mp hs with hs | hs
  · exact h.2.2 s hs
  · exact g.2.2 s hs⟩
theorem okN_one {k : Nat} {s : List Int} (h : s.length ≤ k) (hp : ∀ x ∈ s, 0 < x) : okN 1 k [s] := ⟨Nat.le_refl _, by simp [sumL]; exact h, fun t ht => by rw [List.mem_singleton.mp ht]; exact hp⟩
theorem okN_take {n m : Nat} {a : List (List Int)} (h : okN n m a) (k : Nat) : okN n m (a.take k) := by
  have e : sumL a = sumL (a.take k) + sumL (a.drop k) := by rw [← sumL_app, List.take_append_drop]
  refine ⟨by rw [List.length_take]; have := h.1; omega, by have := h.2.1; omega, fun s hs => h.2.2 s (List.mem_of_mem_take hs)⟩
theorem okN_drop {n m : Nat} {a : List (List Int)} (h : okN n m a) (k : Nat) : okN n m (a.drop k) := by
  have e : sumL a = sumL (a.take k) + sumL (a.drop k) := by rw [← sumL_app, List.take_append_drop]
  refine ⟨by rw [List.length_drop]; have := h.1; omega, by have := h.2.1; omega, fun s hs => h.2.2 s (List.mem_of_mem_drop hs)⟩
theorem okN_cut {n m : Nat} {a : List (List Int)} (h : okN n m a) (u v : Option Int) : okN n m (cutL a u v) := by
  unfold cutL
  exact okN_take (okN_drop h _) _
theorem okN_S {n m : Nat} {a : List (List Int)} (h : okN n m a) (hn : n ≤ 100) (hm : m ≤ 100) : okS a := ⟨by have := h.1; omega, by have := h.2.1; omega, h.2.2⟩
/-- made so far: all of them small rows -/
def mkS (k : Nat) (ms : List D) : Prop := ∃ made : List (List (List Int)), ms = made.map dII ∧ made.length ≤ k ∧ ∀ m ∈ made, okS m
theorem mkS_snoc {k : Nat} {ms : List D} {x : D} {m : List (List Int)} (h : mkS k ms) (e : x = dII m) (hm : okS m) : mkS (k + 1) (ms ++ [x]) := by
  obtain ⟨made, rfl, h1, h2⟩ := h
  subst e
  refine ⟨made ++ [m], by simp, by simp; exact h1, fun n hn => ?_⟩
  rcases List.mem_append.mp hn with hn | hn
  · exact h2 n hn
  · rw [List.mem_singleton.mp hn]; exact hm
theorem mkS_len {k : Nat} {ms : List D} (h : mkS k ms) : ms.length ≤ k := by
  obtain ⟨made, rfl, h1, _⟩ := h
  rw [List.length_map]; exact h1
theorem sem__law_others : ∀ ds (Q : D → Prop), ds.length = 2 → f__law_others ds Q → b__law_others { nx := fun _ => ((Kd.fz : Kd) ≠ .nw) ∧ Q .non, rt := Q } (startD N__law_others ds) := by
  rintro ds Q _ ⟨rows, rfl, hr, hs, hok, q⟩
  have sl := line_ge
  have hN : okN 5 14 rows := ⟨hr, hs, hok.2.2⟩
  have q' : ∀ ms : List D, mkS 10 ms → Q (.lst ms) := fun ms ⟨made, e, h1, h2⟩ => by rw [e]; exact q made h1 h2
  have bnd : ∀ a b, (cutL (rows.map dI) a b).length ≤ 5 := fun a b => by
    have := cut_len (rows.map dI) a b
    rw [List.length_map] at this; omega
  have ml : (rows.map dI).length = rows.length := List.length_map ..
  have nilN : okN 1 0 [[]] := okN_one (Nat.le_refl _) fun x h => by cases h
  refine ⟨_, rfl, _, rfl, _, .inl rfl, _, _, rfl, rfl, _, rfl, _, rfl, ?_⟩
  refine ⟨_, rfl, Nat.zero_le _, by show 1 ≤ sizeLine; omega, _, _, rfl, rfl, by rw [ml]; show rows.length + 1 ≤ sizeLine; omega, ?_⟩
  refine ⟨Nat.zero_le _, by show 1 ≤ sizeLine; omega, _, rfl, _, _, rfl, rfl, by rw [ml]; show 1 + rows.length ≤ sizeLine; omega, ?_⟩
  refine ⟨by show 3 ≤ sizeLine; omega, ?_⟩
  have m3 : mkS 3 [D.lst (cutL (rows.map dI) none (some (((rows.map dI).length : Int) - 1))), D.lst (rows.map dI ++ [D.lst []]), D.lst ([D.lst []] ++ rows.map dI)] := by
    refine ⟨[cutL rows none (some (((rows.map dI).length : Int) - 1)), rows ++ [[]], [[]] ++ rows], by rw [cut_map]; simp [dII], by simp, fun m hm => ?_⟩
    simp only [List.mem_cons, List.not_mem_nil, or_false] at hm
    rcases hm with rfl | rfl | rfl
    · exact okN_S (okN_cut hN _ _) (by decide) (by decide)
    · exact okN_S (okN_app hN nilN) (by decide) (by decide)
    · exact okN_S (okN_app nilN hN) (by decide) (by decide)
  by_cases hne : rows = []
  · subst hne
    obtain ⟨made, e, h1, h2⟩ := m3
    exact ⟨_, rfl, false, rfl, iteT ⟨_, rfl, q' _ ⟨made, e, by omega, h2⟩⟩⟩
  have hpos : 0 < rows.length := List.length_pos_iff.mpr hne
  have htr : truD (dII rows) = some true := by
    cases rows with
    | nil => exact absurd rfl hne
    | cons a l => rfl
  refine ⟨_, rfl, true, htr, iteF ?_⟩
  refine ⟨_, rfl, _, rfl, _, .inl rfl, (rows.length : Int), by rw [List.length_map], by omega, by omega, fun at_ a0 a1 => ?_⟩
  obtain ⟨k, rfl⟩ : ∃ k : Nat, at_ = k := ⟨at_.toNat, by omega⟩
  have hk : k < rows.length := by omega
  have hat : L2.atI (rows.map dI) (k : Int) = some (dI rows[k]) := atI_nat (by rw [List.getElem?_map, List.getElem?_eq_getElem hk]; rfl)
  have hrk : rows[k].length ≤ 14 := by have := sumL_mem (List.getElem_mem hk); omega
  have hpk := hok.2.2 rows[k] (List.getElem_mem hk)
  refine ⟨_, rfl, _, rfl, _, _, _, .inl rfl, rfl, hat, _, .inl rfl, ?_⟩
  -- behind the change
  have rest : ∀ row : List Int, row.length ≤ 14 → (∀ x ∈ row, 0 < x) → (sSeq (sApp 2 (e2 gCat (e2 gCat (eSl (eVar 1) oNo (oSome (eVar 3))) (eA gMkL (aCons (eVar 4) aNil))) (eSl (eVar 1) (oSome (e2 gAdd (eVar 3) (eC (.int 1)))) oNo)))
    (sSeq (sApp 2 (e2 gCat (e2 gCat (e2 gCat (eSl (eVar 1) oNo (oSome (eVar 3))) (eA gMkL (aCons (eVar 4) aNil))) (eSl (eVar 1) (oSome (e2 gAdd (eVar 3) (eC (.int 1)))) oNo)) (eA gMkL (aCons (eA gMkL aNil) aNil))))
    (sSeq (sApp 2 (e2 gCat (e2 gCat (eSl (eVar 1) oNo (oSome (eVar 3))) (eA gMkL (aCons (eVar 4) aNil))) (eSl (eVar 1) (oSome (e2 gAdd (eVar 3) (eC (.int 1)))) (oSome (e2 DL.gSub (eA gLen (aCons (eVar 1) aNil)) (eC (.int 1)))))))
    (sSeq (sIf (tBd (e2 gGt (eVar 3) (eC (.int 0))))
    (sSeq (sSet 5 (e2 gCat (e2 gIx (eVar 1) (e2 DL.gSub (eVar 3) (eC (.int 1)))) (e2 gIx (eVar 1) (eVar 3))))
    (sSeq (sSet 6 (eA f_draw (aCons (eVar 0) (aCons (e2 gAdd (eA gLen (aCons (eVar 5) aNil)) (eC (.int 1))) aNil))))
    (sApp 2 (e2 gCat (e2 gCat (eSl (eVar 1) oNo (oSome (e2 DL.gSub (eVar 3) (eC (.int 1))))) (eA gMkL (aCons (eSl (eVar 5) oNo (oSome (eVar 6))) (aCons (eSl (eVar 5) (oSome (eVar 6)) oNo) aNil)))) (eSl (eVar 1) (oSome (e2 gAdd (eVar 3) (eC (.int 1)))) oNo)))))
    sNext)
    (sRet (eVar 2)))))) { nx := fun _ => ((Kd.fz : Kd) ≠ .nw) ∧ Q .non, rt := Q } [some .fd, some (dII rows), some (.lst [D.lst (cutL (rows.map dI) none (some (((rows.map dI).length : Int) - 1))), D.lst (rows.map dI ++ [D.lst []]), D.lst ([D.lst []] ++ rows.map dI)]), some (.int (k : Int)), some (dI row), none, none] := by
    intro row hrow hp
    have rN : okN 1 14 [row] := okN_one hrow hp
    have b1 := bnd none (some (k : Int))
    have b2 := bnd (some ((k : Int) + 1)) none
    have b3 := bnd (some ((k : Int) + 1)) (some (((rows.map dI).length : Int) - 1))
    refine ⟨_, rfl, _, rfl, _, rfl, _, rfl, _, rfl, _, rfl, by show 1 ≤ sizeLine; omega, _, _, rfl, rfl, by show (cutL _ _ _).length + 1 ≤ sizeLine; omega, _, rfl, _, rfl, _, _, rfl, rfl, _, rfl, _, rfl, _, _, rfl, rfl, by rw [List.length_append]; show (cutL _ _ _).length + 1 + (cutL _ _ _).length ≤ sizeLine; omega, by show 3 < sizeLine; omega, ?_⟩
    have m4 := mkS_snoc (x := D.lst (cutL (rows.map dI) none (some (k : Int)) ++ [dI row] ++ cutL (rows.map dI) (some ((k : Int) + 1)) none)) (m := cutL rows none (some (k : Int)) ++ [row] ++ cutL rows (some ((k : Int) + 1)) none) m3 (by rw [cut_map, cut_map]; simp [dII]) (okN_S (okN_app (okN_app (okN_cut hN _ _) rN) (okN_cut hN _ _)) (by decide) (by decide))
    refine ⟨_, rfl, _, rfl, _, rfl, _, rfl, _, rfl, _, rfl, by show 1 ≤ sizeLine; omega, _, _, rfl, rfl, by show (cutL _ _ _).length + 1 ≤ sizeLine; omega, _, rfl, _, rfl, _, _, rfl, rfl, _, rfl, _, rfl, _, _, rfl, rfl, by rw [List.length_append]; show (cutL _ _ _).length + 1 + (cutL _ _ _).length ≤ sizeLine; omega, Nat.zero_le _, by show 1 ≤ sizeLine; omega, _, _, rfl, rfl, by rw [List.length_append, List.length_append]; show (cutL _ _ _).length + 1 + (cutL _ _ _).length + 1 ≤ sizeLine; omega, by show 4 < sizeLine; omega, ?_⟩
    have m5 := mkS_snoc (x := D.lst (cutL (rows.map dI) none (some (k : Int)) ++ [dI row] ++ cutL (rows.map dI) (some ((k : Int) + 1)) none ++ [D.lst []])) (m := cutL rows none (some (k : Int)) ++ [row] ++ cutL rows (some ((k : Int) + 1)) none ++ [[]]) m4 (by rw [cut_map, cut_map]; simp [dII]) (okN_S (okN_app (okN_app (okN_app (okN_cut hN _ _) rN) (okN_cut hN _ _)) nilN) (by decide) (by decide))
    refine ⟨_, rfl, _, rfl, _, rfl, _, rfl, _, rfl, _, rfl, by show 1 ≤ sizeLine; omega, _, _, rfl, rfl, by show (cutL _ _ _).length + 1 ≤ sizeLine; omega, _, rfl, _, rfl, _, _, rfl, rfl, _, rfl, _, rfl, _, .inl rfl, _, _, rfl, rfl, _, rfl, _, rfl, _, _, rfl, rfl, by rw [List.length_append]; show (cutL _ _ _).length + 1 + (cutL _ _ _).length ≤ sizeLine; omega, by show 5 < sizeLine; omega, ?_⟩
    have m6 := mkS_snoc (x := D.lst (cutL (rows.map dI) none (some (k : Int)) ++ [dI row] ++ cutL (rows.map dI) (some ((k : Int) + 1)) (some (((rows.map dI).length : Int) - 1)))) (m := cutL rows none (some (k : Int)) ++ [row] ++ cutL rows (some ((k : Int) + 1)) (some (((rows.map dI).length : Int) - 1))) m5 (by rw [cut_map, cut_map]; simp [dII]) (okN_S (okN_app (okN_app (okN_cut hN _ _) rN) (okN_cut hN _ _)) (by decide) (by decide))
    refine ⟨_, rfl, _, _, rfl, rfl, _, rfl, ?_⟩
    by_cases c : 0 < k
    · rw [decide_eq_true (by omega)]
      have hk1 : k - 1 < rows.length := by omega
      have hat1 : L2.atI (rows.map dI) ((k : Int) - 1) = some (dI rows[k - 1]) := by
        have z : L2.atI (rows.map dI) ((k - 1 : Nat) : Int) = some (dI rows[k - 1]) := atI_nat (by rw [List.getElem?_map, List.getElem?_eq_getElem hk1]; rfl)
        rw [← z]; congr 1; omega
      have hrk1 : rows[k - 1].length ≤ 14 := by have := sumL_mem (List.getElem_mem hk1); omega
      have hpk1 := hok.2.2 rows[k - 1] (List.getElem_mem hk1)
      have hbp : ∀ x ∈ rows[k - 1] ++ rows[k], 0 < x := fun x hx => by
        rcases List.mem_append.mp hx with hx | hx
        · exact hpk1 x hx
        · exact hpk x hx
      have hbl : (rows[k - 1] ++ rows[k]).length ≤ 28 := by rw [List.length_append]; omega
      refine iteT ⟨_, rfl, _, rfl, _, _, rfl, rfl, _, _, _, .inl rfl, rfl, hat1, _, rfl, _, rfl, _, _, _, .inl rfl, rfl, hat, _, _, rfl, rfl, by rw [List.length_map, List.length_map]; omega, ?_⟩
      rw [← List.map_append]
      refine ⟨_, rfl, _, rfl, _, .inl rfl, _, _, rfl, rfl, ((rows[k - 1] ++ rows[k]).length : Int) + 1, by rw [List.length_map], by omega, by omega, fun sp s0 s1 => ?_⟩
      have b4 := bnd none (some ((k : Int) - 1))
      have pc : ∀ u v, okN 1 28 [cutL (rows[k - 1] ++ rows[k]) u v] := fun u v => okN_one (by have := cut_len (rows[k - 1] ++ rows[k]) u v; omega) fun x hx => by
        unfold cutL at hx
        exact hbp x (List.mem_of_mem_drop (List.mem_of_mem_take hx))
      refine ⟨_, rfl, _, rfl, _, rfl, _, _, rfl, rfl, _, rfl, _, rfl, _, rfl, _, rfl, _, rfl, _, rfl, _, rfl, _, rfl, _, rfl, _, rfl, by show 2 ≤ sizeLine; omega, _, _, rfl, rfl, by show (cutL _ _ _).length + 2 ≤ sizeLine; omega, _, rfl, _, rfl, _, _, rfl, rfl, _, rfl, _, rfl, _, _, rfl, rfl, by rw [List.length_append]; show (cutL _ _ _).length + 2 + (cutL _ _ _).length ≤ sizeLine; omega, by show 6 < sizeLine; omega, ?_⟩
      have m7 := mkS_snoc (x := D.lst (cutL (rows.map dI) none (some ((k : Int) - 1)) ++ [D.lst (cutL ((rows[k - 1] ++ rows[k]).map D.int) none (some sp)), D.lst (cutL ((rows[k - 1] ++ rows[k]).map D.int) (some sp) none)] ++ cutL (rows.map dI) (some ((k : Int) + 1)) none))
        (m := cutL rows none (some ((k : Int) - 1)) ++ ([cutL (rows[k - 1] ++ rows[k]) none (some sp)] ++ [cutL (rows[k - 1] ++ rows[k]) (some sp) none]) ++ cutL rows (some ((k : Int) + 1)) none) m6 (by rw [cut_map, cut_map, cut_map, cut_map]; simp [dII]) (okN_S (okN_app (okN_app (okN_cut hN _ _) (okN_app (pc _ _) (pc _ _))) (okN_cut hN _ _)) (by decide) (by decide))
      refine ⟨_, rfl, q' _ ?_⟩
      obtain ⟨made, e, h1, h2⟩ := m7
      exact ⟨made, e, by omega, h2⟩
    · rw [decide_eq_false (by omega)]
      refine iteF ⟨_, rfl, q' _ ?_⟩
      obtain ⟨made, e, h1, h2⟩ := m6
      exact ⟨made, e, by omega, h2⟩
  by_cases hz : rows[k] = []
  · have ht : truD (dI rows[k]) = some false := by rw [hz]; rfl
    exact ⟨_, rfl, false, ht, iteF (rest rows[k] hrk hpk)⟩
  · have ht : truD (dI rows[k]) = some true := by
      cases e : rows[k] with
      | nil => exact absurd e hz
      | cons a l => rfl
    have hlp : 0 < rows[k].length := List.length_pos_iff.mpr hz
    refine ⟨_, rfl, true, ht, iteT ⟨_, rfl, _, rfl, 9, rfl, by decide, by decide, fun j j0 j1 => ⟨_, _, rfl, rfl, _, rfl, _, rfl, _, .inl rfl, (rows[k].length : Int), by rw [List.length_map], by omega, by omega, fun p p0 p1 => ⟨p, p.toNat, rfl, ixN_of p0 (by rw [List.length_map]; exact p1), ?_⟩⟩⟩⟩
    have := rest (rows[k].set p.toNat (1 + j)) (by rw [List.length_set]; exact hrk) fun x hx => by
      rcases List.mem_or_eq_of_mem_set hx with hx | hx
      · exact hpk x hx
      · omega
    rw [dI, List.map_set] at this
    exact this
end K08
end

/-! part: M08f -/
section
set_option linter.all false
set_option maxRecDepth 100000
set_option maxHeartbeats 2000000
namespace K08
open PySem PySem.Spec L2 DL
open PyProof.Rows hiding St
theorem seqD {t u : SD} {E : En} {δ : DS} (I : DS → Prop) (h : ∀ N : DS → Prop, (∀ δ', I δ' → N δ') → t { E with nx := N } δ) (g : ∀ δ', I δ' → u E δ') : sSeq t u E δ := h (fun δ' => u E δ') g
theorem lc_rel {α : Type} (f : α → D) {T : Tg} {elt : ED} {δ : DS} {Q : List D → Prop} (S : α → D → Prop) : ∀ (items : List α) (acc : List D), acc.length + items.length ≤ sizeLine →
    (∀ x ∈ items, ∀ R : D → Prop, (∀ y, S x y → R y) → gd T (f x) δ fun δ1 => elt δ1 R) → (∀ ys : List D, Paired S items ys → Q (acc ++ ys)) → lcRun T tYesD elt δ Q (items.map f) acc
  | [], acc, _, _, q => by show Q acc; simpa using q [] .nil
  | x :: xs, acc, hl, h, q => by
    simp only [List.length_cons] at hl
    have := h x List.mem_cons_self (fun y => acc.length < sizeLine ∧ lcRun T tYesD elt δ Q (xs.map f) (acc ++ [y])) fun y hy => ⟨by omega, lc_rel f S xs (acc ++ [y]) (by simp; omega) (fun z hz => h z (List.mem_cons_of_mem _ hz)) fun ys hp => by
      have z := q (y :: ys) (.cons hy hp)
      simpa using z⟩
    exact this
def ledS (r : List Int) (y : D) : Prop := ∃ r' : List Int, y = dI r' ∧ Alike r r' ∧ r'.Perm r
theorem led_all : ∀ {rows : List (List Int)} {ys : List D}, Paired ledS rows ys → ∃ os : List (List Int), ys = os.map dI ∧ os.length = rows.length ∧ sumL os = sumL rows ∧ Alike rows.flatten os.flatten ∧ ((∀ s ∈ rows, ∀ x ∈ s, 0 < x) → ∀ s ∈ os, ∀ x ∈ s, 0 < x)
  | _, _, .nil => ⟨[], rfl, rfl, rfl, Alike.refl _, fun _ s h => by cases h⟩
  | r :: rows, _, .cons ⟨r', e, ha, hp⟩ t => by
    obtain ⟨os, rfl, h1, h2, h3, h4⟩ := led_all t
    subst e
    refine ⟨r' :: os, rfl, by simp [h1], ?_, ?_, fun hpos s hs x hx => ?_⟩
    · have := hp.length_eq
      simp only [sumL, List.map_cons, List.sum_cons] at h2 ⊢
      omega
    · rw [List.flatten_cons, List.flatten_cons]
      exact ha.app h3
    · rcases List.mem_cons.mp hs with rfl | hs
      · exact hpos r List.mem_cons_self x (hp.mem_iff.mp hx)
      · exact h4 (fun s hs => hpos s (List.mem_cons_of_mem _ hs)) s hs x hx
theorem okS_fill {row : List Int} (h : row.length ≤ 100) (hp : ∀ x ∈ row, 0 < x) : okS (fillL row) := ⟨by have := fillL_len row; omega, by rw [fillL_sum]; exact h, fillL_all (P := fun x => 0 < x) row hp⟩
theorem sem_law : b_law { nx := fun _ => False, rt := fun d => d = .bl true } (none :: some .fd :: List.replicate (N_law.length - 2) none) := by
  have sl := line_ge
  refine ⟨_, rfl, 2, rfl, by decide, by decide, fun h h0 h1 => ⟨shD_int _, shD_int _, _, rfl, ?_⟩⟩
  rw [eqD_int]
  have rest : ∀ n : Int, 0 ≤ n → n ≤ 14 → (sSeq (sSet 3 (eA f_row (aCons (eVar 1) (aCons (eVar 2) aNil))))
    (sSeq (sSet 4 (eA f__law_cut (aCons (eVar 1) (aCons (eVar 3) aNil))))
    (sSeq (sSet 5 (eA f__law_whole (aCons (eVar 4) aNil)))
    (sSeq (sSet 6 (eLc (wL (eVar 4)) (.one 11) tYesD (eA f__law_led (aCons (eVar 1) (aCons (eVar 11) (aCons (eC (.int 10)) aNil)))) [11]))
    (sSeq (sFor (wL (eA gMkL (aCons (eVar 4) (aCons (eVar 6) aNil)))) (.one 7)
    (sIf (tNotD (tBd (eA (f_same 8) (aCons (eA f__law_told (aCons (eVar 7) aNil)) (aCons (eA gMkT (aCons (eC (.str "answer")) (aCons (eA f__law_fill (aCons (eVar 5) aNil)) aNil))) aNil)))))
    (sRet (eC (.bl false)))
    sNext))
    (sSeq (sIf (tAndD (tBd (e2 gLt (eA gLen (aCons (eVar 4) aNil)) (eC (.int 5)))) (tBd (e2 gGt (eA gLen (aCons (eVar 5) aNil)) (eC (.int 0)))))
    (sIf (tNotD (tBd (eA (f_same 8) (aCons (eA f__law_told (aCons (e2 gCat (eVar 4) (eA gMkL (aCons (eA f_row (aCons (eVar 1) (aCons (e2 DL.gSub (eC (.int 15)) (eA gLen (aCons (eVar 5) aNil))) aNil))) aNil))) aNil)) (aCons (eA gMkT (aCons (eC (.str "raised")) (aCons (eC (.int 14)) aNil))) aNil)))))
    (sRet (eC (.bl false)))
    sNext)
    sNext)
    (sSeq (sIf (tOrD (tNotD (tBd (eA f__law_compared (aCons (eVar 4) (aCons (eVar 6) aNil))))) (tNotD (tBd (eA f__law_compared (aCons (eVar 6) (aCons (eVar 4) aNil))))))
    (sRet (eC (.bl false)))
    sNext)
    (sSeq (sFor (wL (eA f__law_others (aCons (eVar 1) (aCons (eVar 6) aNil)))) (.one 7)
    (sIf (tAndD (tBd (e2 gLt (eA gLen (aCons (eVar 7) aNil)) (eC (.int 6)))) (tOrD (tNotD (tBd (eA f__law_compared (aCons (eVar 4) (aCons (eVar 7) aNil))))) (tNotD (tBd (eA f__law_compared (aCons (eVar 7) (aCons (eVar 4) aNil)))))))
    (sRet (eC (.bl false)))
    sNext))
    (sSeq (sSet 8 (eA f_draw (aCons (eVar 1) (aCons (e2 gAdd (eA gLen (aCons (eVar 3) aNil)) (eC (.int 1))) aNil))))
    (sSeq (sSet 9 (e2 gAdd (eVar 8) (eA f_draw (aCons (eVar 1) (aCons (e2 gAdd (eA gMin2 (aCons (eC (.int 3)) (aCons (e2 DL.gSub (eA gLen (aCons (eVar 3) aNil)) (eVar 8)) aNil))) (eC (.int 1))) aNil)))))
    (sSeq (sFor (wL (eA gMkL (aCons (eA f__law_fill (aCons (eSl (eVar 3) (oSome (eVar 8)) oNo) aNil)) (aCons (eA f__law_fill (aCons (eSl (eVar 3) (oSome (eVar 8)) (oSome (eVar 9))) aNil)) (aCons (eA f__law_fill (aCons (eA f_row (aCons (eVar 1) (aCons (eC (.int 2)) aNil))) aNil)) (aCons (eA gMkL aNil) aNil)))))) (.one 10)
    (sIf (tNotD (tBd (eA f__law_parts (aCons (eVar 3) (aCons (eVar 10) aNil)))))
    (sRet (eC (.bl false)))
    sNext))
    (sRet (eC (.bl true)))))))))))))) { nx := fun _ => False, rt := fun d => d = .bl true } [none, some .fd, some (.int n), none, none, none, none, none, none, none, none, none] := by
    intro n n0 n1
    refine ⟨_, rfl, _, rfl, n, rfl, n0, by omega, fun row hr hp => ?_⟩
    have hrp : ∀ x ∈ row, 0 < x := fun x hx => by have := hp x hx; omega
    have hrl : row.length ≤ 14 := by omega
    refine ⟨_, rfl, _, rfl, row, rfl, by omega, fun rows hrows hfl => ?_⟩
    -- the rows are the row, or none
    have hsum : sumL rows ≤ 14 := by
      rcases hfl with h | h
      · rw [h]; exact Nat.zero_le _
      · rw [← flat_len, h]; exact hrl
    have hpos : ∀ s ∈ rows, ∀ x ∈ s, 0 < x := by
      intro s hs x hx
      rcases hfl with h | h
      · rw [h] at hs; cases hs
      · exact hrp x (by rw [← h]; exact List.mem_flatten.mpr ⟨s, hs, hx⟩)
    have okR : okS rows := ⟨by omega, by omega, hpos⟩
    refine ⟨_, rfl, rows, rfl, by omega, by omega, ?_⟩
    refine ⟨_, rfl, _, rfl, ?_⟩
    refine lc_rel dI ledS rows [] (by simp; omega) (fun s hs R hR => ?_) (fun ys hys => ?_)
    · refine ⟨_, rfl, _, rfl, s, 10, rfl, by have := sumL_mem hs; omega, by decide, by decide, fun r' h1 h2 => hR _ ⟨r', rfl, h1, h2⟩⟩
    rw [List.nil_append]
    obtain ⟨os, rfl, ho1, ho2, ho3, ho4⟩ := led_all hys
    have okO : okS os := ⟨by omega, by omega, ho4 hpos⟩
    have hwl : rows.flatten.length ≤ 14 := by rw [flat_len]; exact hsum
    have hwp : ∀ x ∈ rows.flatten, 0 < x := fun x hx => by
      obtain ⟨s, hs, hx⟩ := List.mem_flatten.mp hx
      exact hpos s hs x hx
    have WA : okW 8 (.tup [.str "answer", dII (fillL rows.flatten)]) := (tup2_W (okW_str _ _ (by decide +kernel)) (fill_W 0 (by omega))).mono (by decide)
    have t1 : toldW rows = .tup [.str "answer", dII (fillL rows.flatten)] := if_neg (by omega)
    have t2 : toldW os = .tup [.str "answer", dII (fillL rows.flatten)] := by
      unfold toldW
      rw [if_neg (by omega), ho3.fill]
    refine ⟨_, rfl, _, rfl, by show 2 ≤ sizeLine; omega, _, rfl, ?_⟩
    refine for_inv (fun _ δ => ∃ o : Option D, δ = [none, some .fd, some (.int n), some (dI row), some (dII rows), some (dI rows.flatten), some (dII os), o, none, none, none, none]) ⟨_, rfl⟩ (fun pre x post δ e ⟨o, hδ⟩ N hN => ?_) (fun δ ⟨o, hδ⟩ => ?_)
    · subst hδ
      have hx : ∃ ss : List (List Int), x = dII ss ∧ okS ss ∧ toldW ss = .tup [.str "answer", dII (fillL rows.flatten)] := by
        have hm : x ∈ pre ++ x :: post := by simp
        rw [← e] at hm
        rcases List.mem_cons.mp hm with rfl | hm
        · exact ⟨rows, rfl, okR, t1⟩
        · rw [List.mem_singleton.mp hm]
          exact ⟨os, rfl, okO, t2⟩
      obtain ⟨ss, rfl, hss, ht⟩ := hx
      refine ⟨_, rfl, ss, rfl, hss, ?_⟩
      rw [ht]
      refine ⟨_, rfl, rows.flatten, rfl, by omega, hwp, by show 2 ≤ sizeLine; omega, _, _, rfl, WA.1.mono (by decide), WA, _, rfl, ?_⟩
      rw [same_refl WA]
      exact iteF (hN _ ⟨_, rfl⟩)
    subst hδ
    -- one row more
    dsimp only
    refine seqD (fun δ => ∃ o : Option D, δ = [none, some .fd, some (.int n), some (dI row), some (dII rows), some (dI rows.flatten), some (dII os), o, none, none, none, none]) ?_ (fun δ ⟨o, hδ⟩ => ?_)
    · intro N hN
      refine ⟨_, rfl, _, .inl rfl, _, _, rfl, rfl, _, rfl, ?_⟩
      cases decide (((rows.map dI).length : Int) < 5) with
      | false => exact iteF (iteF (hN _ ⟨_, rfl⟩))
      | true =>
        refine iteT ⟨_, rfl, _, .inl rfl, _, _, rfl, rfl, _, rfl, ?_⟩
        rw [List.length_map]
        by_cases c : 0 < rows.flatten.length
        · rw [decide_eq_true (by omega)]
          refine iteT ⟨_, rfl, _, rfl, _, rfl, _, .inl rfl, _, _, rfl, rfl, (15 : Int) - rows.flatten.length, by rw [List.length_map], by omega, by omega, fun r hr1 hr2 => ?_⟩
          refine ⟨by show 1 ≤ sizeLine; omega, _, _, rfl, rfl, by rw [List.length_map]; show rows.length + 1 ≤ sizeLine; omega, ?_⟩
          have hs15 : sumL (rows ++ [r]) = 15 := by
            have e1 : sumL rows = rows.flatten.length := (flat_len rows).symm
            simp only [sumL, List.map_append, List.sum_append, List.map_cons, List.map_nil, List.sum_cons, List.sum_nil] at e1 ⊢
            omega
          have okX : okS (rows ++ [r]) := ⟨by simp; omega, by omega, fun s hs x hx => by
            rcases List.mem_append.mp hs with hs | hs
            · exact hpos s hs x hx
            · rw [List.mem_singleton.mp hs] at hx
              have := hr2 x hx; omega⟩
          have WR : okW 8 (.tup [.str "raised", .int 14]) := (tup2_W (n := 0) (okW_str _ _ (by decide +kernel)) (okW_int _ _)).mono (by decide)
          refine ⟨rows ++ [r], by rw [dII_snoc], okX, ?_⟩
          rw [show toldW (rows ++ [r]) = .tup [.str "raised", .int 14] from if_pos (by omega)]
          refine ⟨by show 2 ≤ sizeLine; omega, _, _, rfl, WR.1.mono (by decide), WR, _, rfl, ?_⟩
          rw [same_refl WR]
          exact iteF (hN _ ⟨_, rfl⟩)
        · rw [decide_eq_false (by omega)]
          exact iteF (hN _ ⟨_, rfl⟩)
    subst hδ
    refine ⟨_, rfl, _, rfl, rows, os, rfl, okR, okO, _, rfl, iteF ⟨_, rfl, _, rfl, os, rows, rfl, okO, okR, _, rfl, iteF ?_⟩⟩
    refine ⟨_, rfl, _, rfl, os, rfl, by omega, by omega, okO, fun made hm1 hm2 => ⟨_, rfl, ?_⟩⟩
    refine for_mapG dII (fun _ δ => ∃ o : Option D, δ = [none, some .fd, some (.int n), some (dI row), some (dII rows), some (dI rows.flatten), some (dII os), o, none, none, none, none]) ⟨_, rfl⟩ (fun pre m post δ e ⟨o, hδ⟩ N hN => ?_) (fun δ ⟨o, hδ⟩ => ?_)
    · subst hδ
      have hmo : okS m := hm2 m (by rw [e]; simp)
      refine ⟨_, rfl, _, .inl rfl, _, _, rfl, rfl, _, rfl, ?_⟩
      cases decide (((m.map dI).length : Int) < 6) with
      | false => exact iteF (iteF (hN _ ⟨_, rfl⟩))
      | true => exact iteT ⟨_, rfl, _, rfl, rows, m, rfl, okR, hmo, _, rfl, iteF ⟨_, rfl, _, rfl, m, rows, rfl, hmo, okR, _, rfl, iteF (hN _ ⟨_, rfl⟩)⟩⟩
    subst hδ
    dsimp only
    refine ⟨_, rfl, _, rfl, _, .inl rfl, _, _, rfl, rfl, (row.length : Int) + 1, by rw [List.length_map], by omega, by omega, fun b b0 b1 => ?_⟩
    obtain ⟨bn, rfl⟩ : ∃ bn : Nat, b = bn := ⟨b.toNat, by omega⟩
    have hmn : (if (row.length : Int) - bn < 3 then (row.length : Int) - bn else 3) + 1 ≤ 4 ∧ 0 < (if (row.length : Int) - bn < 3 then (row.length : Int) - bn else 3) + 1 := by split <;> omega
    refine ⟨_, rfl, _, rfl, _, rfl, _, .inl rfl, _, rfl, _, _, rfl, rfl, _, _, rfl, _, _, rfl, rfl, (if (row.length : Int) - bn < 3 then (row.length : Int) - bn else 3) + 1, by rw [List.length_map], hmn.2, by omega, fun d d0 d1 => ⟨_, _, rfl, rfl, ?_⟩⟩
    obtain ⟨dn, rfl⟩ : ∃ dn : Nat, d = dn := ⟨d.toNat, by omega⟩
    refine ⟨_, rfl, _, rfl, _, rfl, _, rfl, row.drop bn, by rw [cut_map, cut_lo], by rw [List.length_drop]; omega, fun x hx => hrp x (List.mem_of_mem_drop hx), ?_⟩
    refine ⟨_, rfl, _, rfl, _, rfl, _, rfl, _, rfl, _, rfl, (row.take (bn + dn)).drop bn, ?_, by rw [List.length_drop, List.length_take]; omega, fun x hx => hrp x (List.mem_of_mem_take (List.mem_of_mem_drop hx)), ?_⟩
    · show [D.lst (cutL (row.map D.int) (some (bn : Int)) (some ((bn + dn : Nat) : Int)))] = _
      rw [cut_map, cut_lohi]
    refine ⟨_, rfl, 2, rfl, by decide, by decide, fun r hr1 hr2 => ⟨r, rfl, by omega, fun x hx => by have := hr2 x hx; omega, Nat.zero_le _, by show 4 ≤ sizeLine; omega, _, rfl, ?_⟩⟩
    refine for_inv (fun _ δ => ∃ (o7 o10 : Option D) (e : Int), δ = [none, some .fd, some (.int n), some (dI row), some (dII rows), some (dI rows.flatten), some (dII os), o7, some (.int (bn : Int)), some (.int e), o10, none]) ⟨_, _, _, rfl⟩ (fun pre x post δ e ⟨o7, o10, ee, hδ⟩ N hN => ?_) (fun δ ⟨o7, o10, ee, hδ⟩ => rfl)
    subst hδ
    have hx : ∃ ss : List (List Int), x = dII ss ∧ okS ss := by
      have hm : x ∈ pre ++ x :: post := by simp
      rw [← e] at hm
      simp only [List.mem_cons, List.not_mem_nil, or_false] at hm
      rcases hm with rfl | rfl | rfl | rfl
      · exact ⟨_, rfl, okS_fill (by rw [List.length_drop]; omega) fun x hx => hrp x (List.mem_of_mem_drop hx)⟩
      · exact ⟨_, rfl, okS_fill (by rw [List.length_drop, List.length_take]; omega) fun x hx => hrp x (List.mem_of_mem_take (List.mem_of_mem_drop hx))⟩
      · exact ⟨_, rfl, okS_fill (by omega) fun x hx => by have := hr2 x hx; omega⟩
      · exact ⟨[], rfl, Nat.zero_le _, Nat.zero_le _, fun s h => by cases h⟩
    obtain ⟨ss, rfl, hss⟩ := hx
    refine ⟨_, rfl, _, rfl, row, ss, rfl, by omega, hrp, hss, _, rfl, iteF (hN _ ⟨_, _, _, rfl⟩)⟩
  by_cases c : h = 0
  · rw [decide_eq_true c]
    exact iteT ⟨_, rfl, 15, rfl, by decide, by decide, fun m m0 m1 => rest m m0 (by omega)⟩
  · rw [decide_eq_false c]
    exact iteF (rest 14 (by decide) (by decide))
end K08
end

/-! part: D_K08 -/
section
set_option Elab.async false
set_option linter.all false
set_option maxRecDepth 100000
set_option maxHeartbeats 2000000
namespace K08
open PySem PySem.Spec L2 DL
open PyProof.Rows hiding St
def topS (i : Nat) : Stmt := PySem.Challenge.pw_spelledrows_k08_words_together.main.body.getD i (.Pass ⟨0, 0, 0, 0⟩)
def clsS (s : Stmt) : Stmt := match s with
  | .ClassDef _ _ _ body .. => body.getD 0 (.Pass ⟨0, 0, 0, 0⟩)
  | _ => .Pass ⟨0, 0, 0, 0⟩
abbrev s_init_TooMany : Stmt := clsS (topS 3)
theorem sc_init_TooMany : FnScope ["self", "limit"] ["self", "limit"] (defScope s_init_TooMany) := ⟨rfl, rfl, rfl, by decide +kernel, rfl, by decide +kernel, by decide +kernel⟩
abbrev s_place_for : Stmt := topS 5
theorem sc_place_for : FnScope N_place_for ["shelf", "jar"] (defScope s_place_for) := ⟨rfl, rfl, rfl, by decide +kernel, rfl, by decide +kernel, by decide +kernel⟩
abbrev s_put_in : Stmt := topS 6
theorem sc_put_in : FnScope N_put_in ["shelves", "jar"] (defScope s_put_in) := ⟨rfl, rfl, rfl, by decide +kernel, rfl, by decide +kernel, by decide +kernel⟩
abbrev s_fill_with_record : Stmt := topS 7
theorem sc_fill_with_record : FnScope N_fill_with_record ["row"] (defScope s_fill_with_record) := ⟨rfl, rfl, rfl, by decide +kernel, rfl, by decide +kernel, by decide +kernel⟩
abbrev s_fill : Stmt := topS 8
theorem sc_fill : FnScope N_fill ["row"] (defScope s_fill) := ⟨rfl, rfl, rfl, by decide +kernel, rfl, by decide +kernel, by decide +kernel⟩
abbrev s_shelves_of_words : Stmt := topS 11
theorem sc_shelves_of_words : FnScope N_shelves_of_words ["rows"] (defScope s_shelves_of_words) := ⟨rfl, rfl, rfl, by decide +kernel, rfl, by decide +kernel, by decide +kernel⟩
abbrev s_same_together : Stmt := topS 12
theorem sc_same_together : FnScope N_same_together ["rows", "others"] (defScope s_same_together) := ⟨rfl, rfl, rfl, by decide +kernel, rfl, by decide +kernel, by decide +kernel⟩
abbrev s_left_from : Stmt := topS 13
theorem sc_left_from : FnScope N_left_from ["row", "shelves"] (defScope s_left_from) := ⟨rfl, rfl, rfl, by decide +kernel, rfl, by decide +kernel, by decide +kernel⟩
abbrev s_parts_that_fill : Stmt := topS 14
theorem sc_parts_that_fill : FnScope N_parts_that_fill ["row", "shelves"] (defScope s_parts_that_fill) := ⟨rfl, rfl, rfl, by decide +kernel, rfl, by decide +kernel, by decide +kernel⟩
abbrev s__law_feed : Stmt := topS 16
theorem sc__law_feed : FnScope N__law_feed ["script"] (defScope s__law_feed) := ⟨rfl, rfl, rfl, by decide +kernel, rfl, by decide +kernel, by decide +kernel⟩
abbrev s__law_draw : Stmt := topS 17
theorem sc__law_draw : FnScope N__law_draw ["feed", "many"] (defScope s__law_draw) := ⟨rfl, rfl, rfl, by decide +kernel, rfl, by decide +kernel, by decide +kernel⟩
abbrev s__law_same : Stmt := topS 18
theorem sc__law_same : FnScope N__law_same ["actual", "due"] (defScope s__law_same) := ⟨rfl, rfl, rfl, by decide +kernel, rfl, by decide +kernel, by decide +kernel⟩
abbrev s__law_copy : Stmt := topS 19
theorem sc__law_copy : FnScope N__law_copy ["lines"] (defScope s__law_copy) := ⟨rfl, rfl, rfl, by decide +kernel, rfl, by decide +kernel, by decide +kernel⟩
abbrev s__law_row : Stmt := topS 20
theorem sc__law_row : FnScope N__law_row ["feed", "size"] (defScope s__law_row) := ⟨rfl, rfl, rfl, by decide +kernel, rfl, by decide +kernel, by decide +kernel⟩
abbrev s__law_bump : Stmt := topS 21
theorem sc__law_bump : FnScope N__law_bump ["shelf", "jar"] (defScope s__law_bump) := ⟨rfl, rfl, rfl, by decide +kernel, rfl, by decide +kernel, by decide +kernel⟩
abbrev s__law_fill : Stmt := topS 22
theorem sc__law_fill : FnScope N__law_fill ["row"] (defScope s__law_fill) := ⟨rfl, rfl, rfl, by decide +kernel, rfl, by decide +kernel, by decide +kernel⟩
abbrev s__law_may : Stmt := topS 23
theorem sc__law_may : FnScope N__law_may ["row", "at", "which"] (defScope s__law_may) := ⟨rfl, rfl, rfl, by decide +kernel, rfl, by decide +kernel, by decide +kernel⟩
abbrev s__law_done : Stmt := topS 24
theorem sc__law_done : FnScope N__law_done ["row", "at", "which"] (defScope s__law_done) := ⟨rfl, rfl, rfl, by decide +kernel, rfl, by decide +kernel, by decide +kernel⟩
abbrev s__law_led : Stmt := topS 25
theorem sc__law_led : FnScope N__law_led ["feed", "row", "many"] (defScope s__law_led) := ⟨rfl, rfl, rfl, by decide +kernel, rfl, by decide +kernel, by decide +kernel⟩
abbrev s__law_cut : Stmt := topS 26
theorem sc__law_cut : FnScope N__law_cut ["feed", "row"] (defScope s__law_cut) := ⟨rfl, rfl, rfl, by decide +kernel, rfl, by decide +kernel, by decide +kernel⟩
abbrev s__law_whole : Stmt := topS 27
theorem sc__law_whole : FnScope N__law_whole ["rows"] (defScope s__law_whole) := ⟨rfl, rfl, rfl, by decide +kernel, rfl, by decide +kernel, by decide +kernel⟩
abbrev s__law_told : Stmt := topS 28
theorem sc__law_told : FnScope N__law_told ["rows"] (defScope s__law_told) := ⟨rfl, rfl, rfl, by decide +kernel, rfl, by decide +kernel, by decide +kernel⟩
abbrev s__law_alike : Stmt := topS 29
theorem sc__law_alike : FnScope N__law_alike ["rows", "others"] (defScope s__law_alike) := ⟨rfl, rfl, rfl, by decide +kernel, rfl, by decide +kernel, by decide +kernel⟩
abbrev s__law_compared : Stmt := topS 30
theorem sc__law_compared : FnScope N__law_compared ["rows", "others"] (defScope s__law_compared) := ⟨rfl, rfl, rfl, by decide +kernel, rfl, by decide +kernel, by decide +kernel⟩
abbrev s__law_others : Stmt := topS 31
theorem sc__law_others : FnScope N__law_others ["feed", "rows"] (defScope s__law_others) := ⟨rfl, rfl, rfl, by decide +kernel, rfl, by decide +kernel, by decide +kernel⟩
abbrev s__law_parts : Stmt := topS 32
theorem sc__law_parts : FnScope N__law_parts ["row", "shelves"] (defScope s__law_parts) := ⟨rfl, rfl, rfl, by decide +kernel, rfl, by decide +kernel, by decide +kernel⟩
abbrev s_law : Stmt := topS 33
theorem sc_law : FnScope N_law ["script"] (defScope s_law) := ⟨rfl, rfl, rfl, by decide +kernel, rfl, by decide +kernel, by decide +kernel⟩
structure Tx (K : PySem.W.Frag) (mg : Str → Option Value) (Cl : ClT) : Prop where
  at_place_for : FnAt K mg "place_for" s_place_for ["shelf", "jar"]
  at_put_in : FnAt K mg "put_in" s_put_in ["shelves", "jar"]
  at_fill_with_record : FnAt K mg "fill_with_record" s_fill_with_record ["row"]
  at_fill : FnAt K mg "fill" s_fill ["row"]
  at_shelves_of_words : FnAt K mg "shelves_of_words" s_shelves_of_words ["rows"]
  at_same_together : FnAt K mg "same_together" s_same_together ["rows", "others"]
  at_left_from : FnAt K mg "left_from" s_left_from ["row", "shelves"]
  at_parts_that_fill : FnAt K mg "parts_that_fill" s_parts_that_fill ["row", "shelves"]
  at__law_feed : FnAt K mg "_law_feed" s__law_feed ["script"]
  at__law_draw : FnAt K mg "_law_draw" s__law_draw ["feed", "many"]
  at__law_same : FnAt K mg "_law_same" s__law_same ["actual", "due"]
  at__law_copy : FnAt K mg "_law_copy" s__law_copy ["lines"]
  at__law_row : FnAt K mg "_law_row" s__law_row ["feed", "size"]
  at__law_bump : FnAt K mg "_law_bump" s__law_bump ["shelf", "jar"]
  at__law_fill : FnAt K mg "_law_fill" s__law_fill ["row"]
  at__law_may : FnAt K mg "_law_may" s__law_may ["row", "at", "which"]
  at__law_done : FnAt K mg "_law_done" s__law_done ["row", "at", "which"]
  at__law_led : FnAt K mg "_law_led" s__law_led ["feed", "row", "many"]
  at__law_cut : FnAt K mg "_law_cut" s__law_cut ["feed", "row"]
  at__law_whole : FnAt K mg "_law_whole" s__law_whole ["rows"]
  at__law_told : FnAt K mg "_law_told" s__law_told ["rows"]
  at__law_alike : FnAt K mg "_law_alike" s__law_alike ["rows", "others"]
  at__law_compared : FnAt K mg "_law_compared" s__law_compared ["rows", "others"]
  at__law_others : FnAt K mg "_law_others" s__law_others ["feed", "rows"]
  at__law_parts : FnAt K mg "_law_parts" s__law_parts ["row", "shelves"]
  at_law : FnAt K mg "law" s_law ["script"]
  n_abs : mg "abs" = none
  n_all : mg "all" = none
  n_bool : mg "bool" = none
  n_enumerate : mg "enumerate" = none
  n_int : mg "int" = none
  n_isinstance : mg "isinstance" = none
  n_len : mg "len" = none
  n_list : mg "list" = none
  n_max : mg "max" = none
  n_min : mg "min" = none
  n_range : mg "range" = none
  n_sorted : mg "sorted" = none
  n_str : mg "str" = none
  n_sum : mg "sum" = none
  n_tuple : mg "tuple" = none
  c_MOST_JARS : ∃ t, mg "MOST_JARS" = some (.int 14 t)
  xi_BadRow : ∃ cx, mg "BadRow" = some (.ref cx) ∧ ∀ c C, Cl c = some C → PySem.W.kitOne K (.ref C) (.ref cx) = some (is_BadRow c)
  xi_TooMany : ∃ cx, mg "TooMany" = some (.ref cx) ∧ ∀ c C, Cl c = some C → PySem.W.kitOne K (.ref C) (.ref cx) = some (is_TooMany c)
  xi_ValueError : mg "ValueError" = none ∧ ∀ c C, Cl c = some C → PySem.W.kitOne K (.ref C) (.type "ValueError") = some true
  xc_ShelfError : ∃ cx, mg "ShelfError" = some (.ref cx) ∧ ∀ c C, Cl c = some C → PySem.W.exmOne K (.ref C) (.ref cx) = some true
  xd : ∀ c C, Cl c = some C → ExcC K C ∧ XfC K C
  xh_limit : ∀ c C, Cl c = some C → PySem.W.findIn K (.ref C) "limit" = some none
section
variable {P : Program} {w : World} {K : PySem.W.Frag} {mg : Str → Option Value} {base : Heap} {Cl : ClT}
theorem has__law_draw (T : Tx K mg Cl) : FnHas P w K mg base 1 "_law_draw" 2 .fz f_draw := by
  obtain ⟨f, fd, hm, F, hb⟩ := T.at__law_draw.ex
  refine ⟨f, fd, _, hm, F.kp, hb, FnOk.imp (sp := spDraw) (F.ok (ps := ["feed", "many"]) sc__law_draw (fun vs H Q E h => ?_) (fun cdv A outer s H vs Q E hr h => ?_)) spDraw_of⟩
  · obtain ⟨a, b, ns, i, c, r, n, rfl, _⟩ := h
    rfl
  · obtain ⟨a, b, ns, i, c, r, n, rfl, f0, n0, n1, q⟩ := h
    have nd := sc__law_draw.nd
    have M : ∀ {i j : Int}, 0 ≤ i → i < 2147483647 → 0 ≤ j → j < 100000 → CMul i j := fun h1 h2 h3 h4 => .inr ⟨by omega, by omega⟩
    refine ⟨_, pss_cons (ps_if (PW.pt (pw_and (pt_cmpR op_eq (pe_ix ix_list (pv 0) pe_int (fun _ _ => rfl)) pe_int (nomark _))
            (pw_and1 (pt_cmpR op_lt (pe_ix ix_list (pv 0) pe_int (fun _ _ => rfl)) (pe_callB call_len_seq (by rfl) T.n_len PySem.boot_len (pa_cons (pe_ix ix_list (pv 0) pe_int (fun _ _ => rfl)) pa_nil)) (nomark _)))))
          (pss_cons (ps_set (i := 3) nd rfl (.inl rfl) (pe_callB call_abs (by rfl) T.n_abs boot_abs (pa_cons (pe_callTy call_int1 (by rfl) T.n_int boot_int (pa_cons (pe_ix ix_list (pe_ix ix_list (pv 0) pe_int (fun _ _ => rfl)) (pe_ix ix_list (pv 0) pe_int (fun _ _ => rfl)) (fun _ _ => rfl)) pa_nil)) pa_nil)))
          (pss_cons (ps_augS (pv 0) pe_int get_list pe_int ip_add set_list)
          (pss_one (ps_if (pt_cmpR op_ge (pv 3) (pe_op op_pow pe_int pe_int) (nomark _))
            (pss_one (ps_asg (pv 3) (pg_sub (pv 0) pe_int set_list)))
            (pss_one (ps_asg (pe_op op_mod (pe_callTy call_int1 (by rfl) T.n_int boot_int (pa_cons (pe_op op_add (pe_op op_add (pe_op op_mul (pe_ix ix_list (pv 0) pe_int (fun _ _ => rfl)) pe_int) (pe_op op_mul (pv 3) pe_int)) (pe_ix ix_list (pv 0) pe_int (fun _ _ => rfl))) pa_nil)) pe_int) (pg_sub (pv 0) pe_int set_list)))))))
          pss_nil)
      (pss_cons (ps_if (pt_cmpR op_gt (pe_ix ix_list (pv 0) pe_int (fun _ _ => rfl)) pe_int (nomark _))
          (pss_cons (ps_set (i := 4) nd rfl (.inl rfl) (pe_op op_mod (pe_callTy call_int1 (by rfl) T.n_int boot_int (pa_cons (pe_ix ix_list (pv 0) pe_int (fun _ _ => rfl)) pa_nil)) (pv 1)))
          (pss_cons (ps_asg (pe_op op_fdivN (pe_ix ix_list (pv 0) pe_int (fun _ _ => rfl)) (pv 1)) (pg_sub (pv 0) pe_int set_list))
          (pss_one (ps_ret (pv 4)))))
          pss_nil)
      (pss_cons (ps_asg (pe_op op_mod (pe_callTy call_int1 (by rfl) T.n_int boot_int (pa_cons (pe_op op_add (pe_op op_mul (pe_ix ix_list (pv 0) pe_int (fun _ _ => rfl)) pe_int) pe_int) pa_nil)) pe_int) (pg_sub (pv 0) pe_int set_list))
      (pss_cons (ps_set (i := 2) nd rfl (.inl rfl) (pe_op op_mod (pe_callTy call_int1 (by rfl) T.n_int boot_int (pa_cons (pe_op op_add (pe_op op_mul (pe_ix ix_list (pv 0) pe_int (fun _ _ => rfl)) (pe_ix ix_list (pv 0) pe_int (fun _ _ => rfl))) (pe_ix ix_list (pv 0) pe_int (fun _ _ => rfl))) pa_nil)) pe_int))
      (pss_one (ps_ret (pe_op op_mod (pe_op op_fdivN (pv 2) pe_int) (pv 1))))))), ?_⟩
    refine seq_cut (fun σ H1 => σ.length = 5 ∧ σ[0]? = some (some (.ref a)) ∧ σ[1]? = some (some (.int n)) ∧ ∃ i c r, FeedH H1 a b ns i c r ∧ DrawQ n a b Q H1) (fun σ1 H1 ⟨hl, s0, s1, i, c, r, f1, q1⟩ => ?_) (fun N hN => ?_)
    · -- behind
      refine seq_cut (fun σ H1 => σ.length = 5 ∧ σ[0]? = some (some (.ref a)) ∧ σ[1]? = some (some (.int n)) ∧ ∃ i c r, FeedH H1 a b ns i c r ∧ DrawQ n a b Q H1) (fun σ2 H2 ⟨hl2, s02, s12, i2, c2, r2, f2, q2⟩ => ?_) (fun N hN => ?_)
      · -- feed[3] = ..; mixed = ..; return ..
        refine rd_feed f2 s02 3 rfl ⟨r2, 16807, rfl, rfl, M f2.r0 f2.r1 (by decide) (by decide), _, _, rfl, rfl, .inl ⟨_, rfl, _, _, rfl, rfl, (by show (0 : Int) < 2147483647; decide), ?_⟩⟩
        refine ⟨_, s02, wr_feed f2 3 (by decide) _ ?_⟩
        have b0 := Int.emod_nonneg (r2 * 16807 + 12345) (show (2147483647 : Int) ≠ 0 by decide)
        have b1 := Int.emod_lt_of_pos (r2 * 16807 + 12345) (show (0 : Int) < 2147483647 by decide)
        have f3 := f2.put f2.i0 f2.c0 b0 b1
        have q3 := q2.put (.lst [.ref b, .int i2, .int c2, .int ((r2 * 16807 + 12345) % 2147483647)])
        show tSeq _ _ _ σ2 (upd H2 a (.lst [.ref b, .int i2, .int c2, .int ((r2 * 16807 + 12345) % 2147483647)]))
        generalize (r2 * 16807 + 12345) % 2147483647 = r3 at b0 b1 f3 q3 ⊢
        refine rd_feed f3 s02 3 (v := .int r3) rfl ?_
        refine rd_feed f3 s02 3 (v := .int r3) rfl ?_
        refine ⟨r3, r3, rfl, rfl, .inl ⟨by omega, by omega⟩, ?_⟩
        refine rd_feed f3 s02 3 (v := .int r3) rfl ?_
        refine ⟨_, _, rfl, rfl, .inl ⟨_, rfl, _, _, rfl, rfl, (by show (0 : Int) < 2147483629; decide), ?_⟩⟩
        have s13 : (σ2.set 2 (some (V.int ((r3 * r3 + r3) % 2147483629))))[1]? = some (some (.int n)) := by rw [List.getElem?_set_ne (by decide)]; exact s12
        have s23 : (σ2.set 2 (some (V.int ((r3 * r3 + r3) % 2147483629))))[2]? = some (some (.int ((r3 * r3 + r3) % 2147483629))) := List.getElem?_set_self (by rw [hl2]; decide)
        refine ⟨_, s23, (r3 * r3 + r3) % 2147483629, 11, rfl, rfl, ⟨by decide, by decide⟩, _, s13, _, n, rfl, rfl, n0, ?_⟩
        have e0 := Int.emod_nonneg (((r3 * r3 + r3) % 2147483629).fdiv 11) (show n ≠ 0 by omega)
        have e1 := Int.emod_lt_of_pos (((r3 * r3 + r3) % 2147483629).fdiv 11) n0
        have z := q3 i2 c2 r3 _ f2.i0 f2.c0 b0 b1 e0 e1
        rw [upd_upd] at z
        exact z
      · -- if feed[2] > 0
        refine rd_feed f1 s0 2 rfl ⟨_, _, rfl, rfl, _, rfl, ite2 (fun hc => ?_) (fun hc => hN _ _ ⟨hl, s0, s1, i, c, r, f1, q1⟩)⟩
        have hc' : (0 : Int) < c := of_decide_eq_true hc
        refine rd_feed f1 s0 2 rfl (.inl ⟨c, rfl, _, s1, _, _, rfl, rfl, n0, ?_⟩)
        have t0 : (σ1.set 4 (some (V.int (c % n))))[0]? = some (some (.ref a)) := by rw [List.getElem?_set_ne (by decide)]; exact s0
        have t1 : (σ1.set 4 (some (V.int (c % n))))[1]? = some (some (.int n)) := by rw [List.getElem?_set_ne (by decide)]; exact s1
        have t4 : (σ1.set 4 (some (V.int (c % n))))[4]? = some (some (.int (c % n))) := List.getElem?_set_self (by rw [hl]; decide)
        refine rd_feed f1 t0 2 rfl ⟨_, t1, c, n, rfl, rfl, ⟨by omega, by omega⟩, _, t0, wr_feed f1 2 (by decide) _ ?_⟩
        refine ⟨_, t4, ?_⟩
        exact q1 i (c.fdiv n) r (c % n) f1.i0 (by rw [Int.fdiv_eq_ediv_of_nonneg _ (by omega)]; exact Int.ediv_nonneg f1.c0 (by omega)) f1.r0 f1.r1 (Int.emod_nonneg _ (by omega)) (Int.emod_lt_of_pos _ n0)
    · -- if feed[2] == 0 and feed[1] < len(feed[0])
      have s0 : (L2.start N__law_draw [.ref a, .int n])[0]? = some (some (.ref a)) := rfl
      have s1 : (L2.start N__law_draw [.ref a, .int n])[1]? = some (some (.int n)) := rfl
      refine rd_feed f0 s0 2 rfl ⟨rfl, _, rfl, ite2 (fun hc => ?_) (fun hc => iteF (hN _ _ ⟨rfl, s0, s1, i, c, r, f0, q⟩))⟩
      refine rd_feed f0 s0 1 rfl (rd_feed f0 s0 0 rfl ⟨b, _, rfl, .inl (SqL.of f0.script), i, _, rfl, rfl, _, rfl, ite2 (fun hi => ?_) (fun hi => hN _ _ ⟨rfl, s0, s1, i, c, r, f0, q⟩)⟩)
      have hi' : i < (ns.map V.int).length := of_decide_eq_true hi
      have hil : i.toNat < ns.length := by rw [List.length_map] at hi'; have := f0.i0; omega
      have hget : atI (ns.map V.int) i = some (.int (ns[i.toNat])) := by
        have e : ((i.toNat : Nat) : Int) = i := Int.toNat_of_nonneg f0.i0
        have z : atI (ns.map V.int) ((i.toNat : Nat) : Int) = some (.int (ns[i.toNat])) := atI_nat (by rw [List.getElem?_map, List.getElem?_eq_getElem hil]; rfl)
        rw [e] at z
        exact z
      refine rd_feed f0 s0 0 rfl (rd_feed f0 s0 1 rfl ⟨b, _, i, _, rfl, rfl, SqL.of f0.script, hget, .inl ⟨_, rfl, _, rfl, ?_⟩⟩)
      generalize hcell : (if ns[i.toNat] < 0 then -ns[i.toNat] else ns[i.toNat]) = cell
      have cell0 : 0 ≤ cell := by rw [← hcell]; split <;> omega
      have t0 : ((L2.start N__law_draw [.ref a, .int n]).set 3 (some (V.int cell)))[0]? = some (some (.ref a)) := rfl
      have t1 : ((L2.start N__law_draw [.ref a, .int n]).set 3 (some (V.int cell)))[1]? = some (some (.int n)) := rfl
      have t3 : ((L2.start N__law_draw [.ref a, .int n]).set 3 (some (V.int cell)))[3]? = some (some (.int cell)) := rfl
      refine ⟨_, t0, a, _, 1, _, rfl, rfl, SqL.of f0.top, by decide, rfl, i, 1, rfl, rfl, wr_feed f0 1 (by decide) _ ?_⟩
      have f1 := f0.put (i' := i + 1) (by have := f0.i0; omega) f0.c0 f0.r0 f0.r1
      have q1 : DrawQ n a b Q (upd H a (.lst [.ref b, .int (i + 1), .int c, .int r])) := DrawQ.put q _
      refine ⟨_, t3, ⟨_, _, rfl, rfl, ⟨by decide, by decide, by decide⟩, _, _, rfl, rfl, _, rfl, ite2 (fun hb => ?_) (fun hb => ?_)⟩⟩
      · refine ⟨_, t3, _, t0, wr_feed f1 2 (by decide) _ ?_⟩
        exact hN _ _ ⟨rfl, t0, t1, i + 1, cell, r, f1.put f1.i0 cell0 f1.r0 f1.r1, q1.put _⟩
      · have hb' : cell < 10 ^ 18 := by
          have : ¬ ((10 : Int) ^ (18 : Int).toNat ≤ cell) := fun z => hb (decide_eq_true z)
          have e : (10 : Int) ^ (18 : Int).toNat = 10 ^ 18 := rfl
          rw [e] at this
          omega
        have hp : (10 : Int) ^ 18 < 2 ^ 64 := by decide
        refine rd_feed f1 t0 3 rfl ⟨r, 48271, rfl, rfl, M f0.r0 f0.r1 (by decide) (by decide), _, t3, cell, 69621, rfl, rfl, .inl ⟨by omega, by omega⟩, _, _, rfl, rfl, rd_feed f1 t0 1 rfl ⟨_, _, rfl, rfl, .inl ⟨_, rfl, _, _, rfl, rfl, (by show (0 : Int) < 2147483647; decide), ?_⟩⟩⟩
        refine ⟨_, t0, wr_feed f1 3 (by decide) _ ?_⟩
        exact hN _ _ ⟨rfl, t0, t1, i + 1, c, _, f1.put f1.i0 f1.c0 (Int.emod_nonneg _ (by decide)) (Int.emod_lt_of_pos _ (by decide)), q1.put _⟩

theorem has__law_feed (T : Tx K mg Cl) : ∃ f fd ps, mg "_law_feed" = some (.ref f) ∧ PySem.W.keepIn K (.ref f) = true ∧ Binds K fd ps [] ∧ FnOk P w K mg base CX0 1 f fd ps (spFeed K) := by
  obtain ⟨f, fd, hm, F, hb⟩ := T.at__law_feed.ex
  refine ⟨f, fd, _, hm, F.kp, hb, F.ok (ps := ["script"]) sc__law_feed (fun vs H Q E h => ?_) (fun cdv A outer s H vs Q E hr h => ?_)⟩
  · obtain ⟨a, ns, rfl, _⟩ := h
    rfl
  · obtain ⟨a, ns, rfl, hS, hl, q⟩ := h
    refine ⟨_, pss_one (ps_ret (pe_lst (pa_cons (pe_callTy call_list_of (by rfl) T.n_list boot_list (pa_cons (pv 0) pa_nil)) (pa_cons pe_int (pa_cons pe_int (pa_cons pe_int pa_nil)))))), ?_⟩
    refine ⟨_, rfl, a, _, rfl, .inl hS, fun b hb => ⟨by show 4 ≤ sizeLine; have := line_ge; omega, fun p hp => ?_⟩⟩
    by_cases e : p = b
    · rw [e, upd_same] at hp; cases hp
    · rw [upd_ne e] at hp
      exact q p b hp hb e

def HasRaw (P : Program) (w : World) (K : PySem.W.Frag) (mg : Str → Option Value) (base : Heap) (k : Nat) (x : Str) (sp : Sp) : Prop :=
  ∃ f fd ps, mg x = some (.ref f) ∧ PySem.W.keepIn K (.ref f) = true ∧ Binds K fd ps [] ∧ FnOk P w K mg base CX0 k f fd ps sp
theorem raw_put_in (T : Tx K mg Cl) (h_place_for : FnHas P w K mg base 1 "place_for" 2 (.fz) f_place_for) : HasRaw P w K mg base 2 "put_in" spPut := by
  obtain ⟨fp, fdp, psp, hmp, hkp, hbp, FP⟩ := h_place_for
  obtain ⟨f, fd, hm, F, hb⟩ := T.at_put_in.ex
  refine ⟨f, fd, _, hm, F.kp, hb, F.ok (ps := ["shelves", "jar"]) sc_put_in (fun vs H Q E h => ?_) (fun cdv A outer s0 H vs Q E hr h => ?_)⟩
  · obtain ⟨s, j, bs, Ns, rfl, _⟩ := h
    rfl
  · obtain ⟨s, j, bs, Ns, rfl, hL, hN, hn, q⟩ := h
    have nd := sc_put_in.nd
    have sl := line_ge
    have hln : ∀ ns ∈ Ns, ns.length < sizeLine := fun ns h => by have := hn ns h; omega
    refine ⟨_, pss_cons (ps_setLc (i := 2) (own := [("shelf", 4)]) (g := gName 4) (tt := tYes) (te := teCopy K 4) rfl nd rfl rfl (sw_true rfl rfl rfl (by decide +kernel)) (pi_list (pv 0)) (blkOk_by (N := N_put_in) (sc := defScope s_put_in) (by decide +kernel))
        (fun _ _ _ _ _ => pg_name (i := 4) nd rfl (by first | exact Or.inl rfl | exact Or.inr rfl)) (fun _ _ _ _ _ => pts_nil) (fun _ _ _ _ _ => pe_callTy (r := rListOf K) (by exact call_list_of) (by rfl) T.n_list boot_list (pa_cons (pv 4) pa_nil)))
      (pss_cons (ps_for PassesOwn.never rfl (pi_enum (by rfl) T.n_enumerate (pa_cons (pv 2) pa_nil)) (pg_tup rfl (pgs_cons (pg_name (i := 3) nd rfl (by first | exact Or.inl rfl | exact Or.inr rfl)) (pgs_cons (pg_name (i := 4) nd rfl (by first | exact Or.inl rfl | exact Or.inr rfl)) pgs_nil)))
        (pss_cons (ps_set (i := 5) nd rfl (by first | exact Or.inl rfl | exact Or.inr rfl) (pe_call FP (hr.mono (by decide)) (by rfl) hmp hkp hbp .nil pass0 (pa_cons (pv 4) (pa_cons (pv 1) pa_nil))))
        (pss_cons (ps_if (pt_cmpR op_eq (pv 5) (pe_callB call_len_seq (by rfl) T.n_len PySem.boot_len (pa_cons (pv 4) pa_nil)) (nomark _))
          (pss_cons (ps_expr (pe_bm PySem.F.plainAttrs_list PySem.F.slot_list_append PySem.F.type_list_append mt_append (pv 4) (pa_cons (pv 1) pa_nil)))
          (pss_one (ps_ret (pe_tup (pa_cons (pv 2) (pa_cons (pe_tup (pa_cons (pv 3) (pa_cons (pv 5) pa_nil))) pa_nil))))))
          pss_nil)
        (pss_cons (ps_set (i := 6) nd rfl (by first | exact Or.inl rfl | exact Or.inr rfl) (pe_ix ix_list (pv 4) (pv 5) (fun _ _ => rfl)))
        (pss_cons (ps_asg (pv 1) (pg_sub (pv 4) (pv 5) set_list))
        (pss_one (ps_set (i := 1) nd rfl (by first | exact Or.inl rfl | exact Or.inr rfl) (pv 6))))))))
      (pss_cons (ps_expr (pe_bm PySem.F.plainAttrs_list PySem.F.slot_list_append PySem.F.type_list_append mt_append (pv 2) (pa_cons (pe_lst (pa_cons (pv 1) pa_nil)) pa_nil)))
      (pss_one (ps_ret (pe_tup (pa_cons (pv 2) (pa_cons (pe_tup (pa_cons (pe_op op_sub (pe_callB call_len_seq (by rfl) T.n_len PySem.boot_len (pa_cons (pv 2) pa_nil)) pe_int) (pa_cons pe_int pa_nil))) pa_nil))))))), ?_⟩
    refine ⟨_, rfl, s, rfl, ⟨_, SqL.of hL.top⟩, fun a ha => ?_⟩
    refine lc_list (K := K) (g := gName 4) (tt := tYes) (te := teCopy K 4) (vs := [4]) (xs := bs.map V.ref) (fun i H' => ∃ cs, cs.length = i ∧ Cp H H' a cs Ns) ⟨[], rfl, Cp.start ha⟩ (fun i H' _ ⟨cs, _, p⟩ => SqL.of (p.same _ _ hL.top)) (fun i x H' hx ⟨cs, hi, p⟩ => ?_) (fun H1 ⟨cs, hi, p⟩ => ?_)
    · obtain ⟨c, hc, rfl⟩ := ref_get hx
      have hNi : i < Ns.length := by rw [← hL.len]; exact (List.getElem?_eq_some_iff.mp hc).1
      have hc' : IL H c Ns[i] := hL.sub i c _ hc (List.getElem?_eq_getElem hNi)
      refine ⟨rfl, ⟨_, rfl, c, _, rfl, .inl (SqL.of (p.same _ _ hc')), fun l hl => ?_⟩⟩
      subst hi
      have hla : a ≠ l := fun z => by rw [← z, p.top] at hl; cases hl
      refine ⟨cs.map V.ref, by rw [upd_ne hla]; exact p.top, by simp; omega, cs ++ [l], by simp, ?_⟩
      have := p.step (List.getElem?_eq_getElem hNi) hl
      simpa using this
    · rw [List.length_map, hL.len] at hi
      have L := p.ll hi
      have hS := p.same
      refine ⟨_, rfl, a, _, rfl, SqL.of L.top, ?_⟩
      refine for_enum (xs := cs.map V.ref) (fun i σ H' => ∃ (j' : Int) (o3 o4 o5 o6 : Option V) (pre post : List (List Int)), σ = [some (.ref s), some (.int j'), some (.ref a), o3, o4, o5, o6] ∧ pre.length = i ∧ (pre ++ post).length = Ns.length ∧ LL H H' a cs (pre ++ post) ∧ Same H H' ∧ (∀ ns ∈ post, ns.length ≤ 1000) ∧
          (putL Ns j).1 = pre ++ (putL post j').1 ∧ (putL Ns j).2 = ((putL post j').2.1 + i, (putL post j').2.2))
        ⟨j, _, _, _, _, [], Ns, rfl, rfl, rfl, L, hS, hn, rfl, rfl⟩ (fun i σ H' _ ⟨_, _, _, _, _, _, _, _, _, _, l, _⟩ => SqL.of l.top) (fun i x σ H' Tn hx ⟨j', o3, o4, o5, o6, pre, post, e, hp, hpl, l, sm, hpo, e1, e2⟩ hT => ?_) (fun σ H' ⟨j', o3, o4, o5, o6, pre, post, e, hp, hpl, l, sm, hpo, e1, e2⟩ => ?_)
      · subst e
        obtain ⟨c, hc, rfl⟩ := ref_get hx
        have hci : i < cs.length := (List.getElem?_eq_some_iff.mp hc).1
        obtain ⟨s1, post', rfl⟩ : ∃ s1 post', post = s1 :: post' := by
          cases post with
          | nil => simp at hpl; omega
          | cons s1 post' => exact ⟨s1, post', rfl⟩
        have hs1 : s1.length ≤ 1000 := hpo s1 List.mem_cons_self
        have hgi : (pre ++ s1 :: post')[i]? = some s1 := by rw [← hp]; simp
        have k1 : Same H' (upd H' Tn (.tup [.int (i : Nat), .ref c])) := fun b o eb => by rw [upd_ne (ne_of_none eb hT)]; exact eb
        refine ⟨Tn, _, rfl, SqT.of upd_same, rfl, _, _, rfl, _, _, rfl, rfl, ?_⟩
        refine ⟨_, rfl, _, rfl, rd_place (E := E0) (ns := s1) (k1 _ _ (l.sub i c s1 hc hgi)) (by omega) fun H2 k2 => ?_⟩
        have sH2 : Same H' H2 := k1.trans k2
        have l2 := l.same sH2
        have hc2 : IL H2 c s1 := l2.sub i c s1 hc hgi
        refine ⟨_, rfl, _, rfl, _, _, rfl, .inl (SqL.of hc2), ?_⟩
        refine ⟨rfl, _, rfl, ?_⟩
        by_cases hat : placeL s1 j' < s1.length
        · rw [putL_go hat] at e1 e2
          rw [show decide (V.int (placeL s1 j' : Nat) = V.int ((s1.map V.int).length : Nat)) = false from decide_eq_false fun z => by
            have z := V.int.inj z
            rw [List.length_map] at z
            omega]
          refine iteF ?_
          have hgat : (s1.map V.int)[placeL s1 j']? = some (.int s1[placeL s1 j']) := by rw [List.getElem?_map, List.getElem?_eq_getElem hat]; rfl
          refine ⟨_, rfl, _, rfl, c, _, (placeL s1 j' : Nat), _, rfl, rfl, SqL.of hc2, atI_nat hgat, ?_⟩
          refine ⟨_, rfl, _, rfl, _, rfl, c, _, _, placeL s1 j', rfl, rfl, hc2, ixN_of (by omega) (by rw [List.length_map]; omega), ?_⟩
          refine ⟨_, rfl, s1[placeL s1 j'], _, _, _, _, pre ++ [s1.set (placeL s1 j') j'], post', rfl, by simp [hp], by simpa using hpl, ?_, ?_, fun ns h => hpo ns (List.mem_cons_of_mem _ h), by rw [e1]; simp, by rw [e2]; simp; omega⟩
          · have z := l2.set hc (s1.set (placeL s1 j') j')
            rw [show (pre ++ s1 :: post').set i (s1.set (placeL s1 j') j') = pre ++ [s1.set (placeL s1 j') j'] ++ post' by rw [← hp]; simp] at z
            rw [List.map_set] at z
            exact z
          · exact same_upd (sm.trans sH2) (l.new c (List.mem_cons_of_mem _ (List.mem_of_getElem? hc)))
        · rw [putL_end hat] at e1 e2
          have hle := placeL_le s1 j'
          rw [show decide (V.int (placeL s1 j' : Nat) = V.int ((s1.map V.int).length : Nat)) = true from decide_eq_true (by
            rw [List.length_map, show placeL s1 j' = s1.length by omega])]
          refine iteT ?_
          refine ⟨_, rfl, .inl ⟨rfl, _, SqL.of hc2⟩, _, rfl, c, _, _, rfl, rfl, hc2, by rw [List.length_map]; omega, ?_⟩
          have z := l2.set hc (s1 ++ [j'])
          rw [show (pre ++ s1 :: post').set i (s1 ++ [j']) = pre ++ ((s1 ++ [j']) :: post') by rw [← hp]; simp, ← e1] at z
          rw [List.map_append] at z
          refine ⟨_, rfl, ⟨_, rfl, _, rfl, by show 2 ≤ sizeLine; omega, fun t2 ht2 => ⟨by show 2 ≤ sizeLine; omega, fun t1 ht1 => ?_⟩⟩⟩
          obtain ⟨h12, kk⟩ := two_same (o1 := .tup [.ref a, .ref t2]) ht2 ht1
          refine q _ a cs t1 t2 ((same_upd (sm.trans sH2) (l.new c (List.mem_cons_of_mem _ (List.mem_of_getElem? hc)))).trans kk) (z.same kk) upd_same ?_
          rw [upd_ne h12, upd_same, e2]
          simp
      · subst e
        rw [List.length_map] at hp
        have hpo0 : post = [] := by
          cases post with
          | nil => rfl
          | cons x y =>
            have := l.len
            simp at hpl this
            omega
        subst hpo0
        rw [List.append_nil] at l hpl
        have e1' : (putL Ns j).1 = pre ++ [[j']] := e1
        have e2' : (putL Ns j).2 = (0 + (cs.map V.ref).length, 0) := e2
        refine ⟨_, rfl, .inl ⟨rfl, _, SqL.of l.top⟩, _, rfl, by show 1 ≤ sizeLine; omega, fun d hd => ?_⟩
        have k1 : Same H' (upd H' d (.lst [.int j'])) := same_upd (Same.refl _) hd
        have l1 := l.same k1
        refine ⟨a, _, _, rfl, rfl, l1.top, by rw [List.length_map, l.len]; omega, ?_⟩
        have z := l1.push [j'] (sm.free hd) upd_same (l.fresh hd)
        rw [← e1', List.map_append] at z
        have sz : Same H (upd (upd H' d (.lst [.int j'])) a (.lst (cs.map V.ref ++ [.ref d]))) := same_upd (sm.trans k1) (l.new a List.mem_cons_self)
        refine ⟨_, rfl, _, rfl, a, _, rfl, .inl (SqL.of upd_same), _, _, rfl, rfl, by show 2 ≤ sizeLine; omega, fun t2 ht2 => ⟨by show 2 ≤ sizeLine; omega, fun t1 ht1 => ?_⟩⟩
        obtain ⟨h12, kk⟩ := two_same (o1 := .tup [.ref a, .ref t2]) ht2 ht1
        refine q _ a (cs ++ [d]) t1 t2 (sz.trans kk) (z.same kk) upd_same ?_
        rw [upd_ne h12, upd_same, e2']
        simp

theorem has_fill_with_record (T : Tx K mg Cl) (h_put_in : HasRaw P w K mg base 2 "put_in" spPut) : FnHas P w K mg base 3 "fill_with_record" 1 (.dp 3) f_fill_with_record := by
  obtain ⟨fp, fdp, psp, hmp, hkp, hbp, FP⟩ := h_put_in
  obtain ⟨f, fd, hm, F, hb⟩ := T.at_fill_with_record.ex
  refine ⟨f, fd, _, hm, F.kp, hb, FnOk.imp (sp := spFR) (F.ok (ps := ["row"]) sc_fill_with_record (fun vs H Q E h => ?_) (fun cdv A outer s0 H vs Q E hr h => ?_)) spFR_of⟩
  · obtain ⟨r, ns, rfl, _⟩ := h
    rfl
  · obtain ⟨r, ns, rfl, hr0, hn, q⟩ := h
    have nd := sc_fill_with_record.nd
    have sl := line_ge
    refine ⟨_, pss_cons (ps_set (i := 1) nd rfl (by first | exact Or.inl rfl | exact Or.inr rfl) (pe_lst pa_nil))
      (pss_cons (ps_set (i := 2) nd rfl (by first | exact Or.inl rfl | exact Or.inr rfl) (pe_lst pa_nil))
      (pss_cons (ps_for PassesOwn.never rfl (pi_enum (by rfl) T.n_enumerate (pa_cons (pv 0) pa_nil)) (pg_tup rfl (pgs_cons (pg_name (i := 3) nd rfl (by first | exact Or.inl rfl | exact Or.inr rfl)) (pgs_cons (pg_name (i := 4) nd rfl (by first | exact Or.inl rfl | exact Or.inr rfl)) pgs_nil)))
        (pss_cons (ps_asg (pe_call FP (hr.mono (by decide)) (by rfl) hmp hkp hbp .nil pass0 (pa_cons (pv 1) (pa_cons (pv 4) pa_nil))) (pg_tup rfl (pgs_cons (pg_name (i := 1) nd rfl (by first | exact Or.inl rfl | exact Or.inr rfl)) (pgs_cons (pg_name (i := 5) nd rfl (by first | exact Or.inl rfl | exact Or.inr rfl)) pgs_nil))))
        (pss_cons (ps_if (pt_cmpR op_eq (pe_ix ix_tup (pv 5) pe_int (fun _ _ => rfl)) (pe_callB call_len_seq (by rfl) T.n_len PySem.boot_len (pa_cons (pv 2) pa_nil)) (nomark _))
          (pss_one (ps_expr (pe_bm PySem.F.plainAttrs_list PySem.F.slot_list_append PySem.F.type_list_append mt_append (pv 2) (pa_cons (pe_lst pa_nil) pa_nil)))) pss_nil)
        (pss_one (ps_expr (pe_bm PySem.F.plainAttrs_list PySem.F.slot_list_append PySem.F.type_list_append mt_append (pe_ix ix_list (pv 2) (pe_ix ix_tup (pv 5) pe_int (fun _ _ => rfl)) (fun _ _ => rfl)) (pa_cons (pe_op op_add (pv 3) pe_int) pa_nil)))))))
      (pss_one (ps_ret (pe_tup (pa_cons (pv 1) (pa_cons (pv 2) pa_nil))))))), ?_⟩
    refine ⟨Nat.zero_le _, fun a ha => ⟨Nat.zero_le _, fun b hb' => ?_⟩⟩
    have hab : a ≠ b := fun z => by rw [← z, upd_same] at hb'; cases hb'
    have hb0 : H b = none := by rwa [upd_ne (Ne.symm hab)] at hb'
    have S0 : Same H (upd (upd H a (.lst [])) b (.lst [])) := same_upd (same_upd (Same.refl _) ha) hb0
    refine ⟨_, rfl, r, _, rfl, SqL.of (S0 _ _ hr0), ?_⟩
    refine for_enum (xs := ns.map V.int) (fun i σ H' => ∃ (a : Addr) (cs : List Addr) (b : Addr) (ds : List Addr) (o3 o4 o5 : Option V), σ = [some (.ref r), some (.ref a), some (.ref b), o3, o4, o5] ∧ LL H H' a cs (fillL (ns.take i)) ∧ LL H H' b ds (recL (ns.take i)) ∧ (∀ x ∈ b :: ds, x ∉ a :: cs) ∧ Same H H')
      ⟨a, [], b, [], _, _, _, rfl, ⟨by rw [upd_ne hab, upd_same]; rfl, rfl, fun i c m e => by simp at e, fun c hc => by rw [List.mem_singleton.mp hc]; exact ha, by simp⟩,
        ⟨upd_same, rfl, fun i c m e => by simp at e, fun c hc => by rw [List.mem_singleton.mp hc]; exact hb0, by simp⟩, fun x h1 h2 => by rw [List.mem_singleton.mp h1] at h2; exact hab (List.mem_singleton.mp h2).symm, S0⟩
      (fun i σ H' _ ⟨_, _, _, _, _, _, _, _, _, _, _, s⟩ => SqL.of (s _ _ hr0)) (fun i x σ H' Tn hx ⟨a, cs, b, ds, o3, o4, o5, e, l1, l2, dj, sm⟩ hT => ?_) (fun σ H' ⟨a, cs, b, ds, o3, o4, o5, e, l1, l2, dj, sm⟩ => ?_)
    · subst e
      obtain ⟨j, hj, rfl⟩ : ∃ j, ns[i]? = some j ∧ x = .int j := by
        rw [List.getElem?_map] at hx
        cases e : ns[i]? with
        | none => rw [e] at hx; cases hx
        | some n => rw [e] at hx; exact ⟨n, rfl, (Option.some.inj hx).symm⟩
      have hi : i < ns.length := (List.getElem?_eq_some_iff.mp hj).1
      have htk : ns.take (i + 1) = ns.take i ++ [j] := by
        rw [List.take_succ, hj]; rfl
      have htl : (ns.take i).length = i := by rw [List.length_take]; omega
      have k1 : Same H' (upd H' Tn (.tup [.int (i : Nat), .int j])) := same_upd (Same.refl _) hT
      refine ⟨Tn, _, rfl, SqT.of upd_same, rfl, _, _, rfl, _, _, rfl, rfl, ?_⟩
      refine ⟨_, rfl, _, rfl, a, j, cs, fillL (ns.take i), rfl, (l1.same k1).lr, by have := fillL_len (ns.take i); omega, fun m hm => by have := fillL_mem hm; omega, fun H2 a2 cs2 t1 t2 s2 la h1 h2 => ?_⟩
      have sH : Same H H2 := (sm.trans k1).trans s2
      have sH' : Same H' H2 := k1.trans s2
      have lb := l2.same sH'
      have la' : LL H H2 a2 cs2 (fillL (ns.take (i + 1))) := by
        rw [htk, fillL_append]
        exact la.since (sm.trans k1)
      have hnew : ∀ x ∈ b :: ds, x ∉ a2 :: cs2 := fun x hx hm => by
        have := la.new x hm
        have hH' : H' x = none := k1.free this
        rcases List.mem_cons.mp hx with rfl | hx
        · rw [l2.top] at hH'; cases hH'
        · exact l2.fresh hH' (List.mem_cons_of_mem _ hx)
      refine ⟨t1, _, rfl, SqT.of h1, rfl, _, _, rfl, _, _, rfl, rfl, ?_⟩
      have hnum := putL_num (fillL (ns.take i)) j
      have hrl := fillRec_len (ns.take i)
      have hll := fillL_len (ns.take i)
      -- place[0]
      refine ⟨_, rfl, t2, _, (0 : Nat), _, rfl, rfl, SqT.of h2, rfl, ?_⟩
      refine ⟨_, rfl, _, _, rfl, .inl (SqL.of lb.top), rfl, _, rfl, ?_⟩
      have hRec := recL_append (ns.take i) j
      rw [← htk, htl] at hRec
      generalize hn0 : (putL (fillL (ns.take i)) j).2.1 = n at h2 hRec hnum
      have tail : ∀ (H3 : Hp) (ds3 : List Addr) (Rs : List (List Int)), LL H H3 b ds3 Rs → LL H H3 a2 cs2 (fillL (ns.take (i + 1))) → (∀ x ∈ b :: ds3, x ∉ a2 :: cs2) → Same H H3 → H3 t2 = some (.tup [.int n, .int (putL (fillL (ns.take i)) j).2.2]) → n < Rs.length → Rs.length ≤ 2000 → recL (ns.take (i + 1)) = Rs.set n (Rs.getD n [] ++ [((i : Nat) : Int) + 1]) → (Rs.getD n []).length ≤ 100000 →
          tDrop (tBM K "list" rAppend (tOp (rIxL K) (tVar 2) (tOp (rIxT K) (tVar 5) (tC (.int 0)))) (tCons (tOp (rI0 fun i j => V.int (i + j)) (tVar 3) (tC (.int 1))) tNil)) { nx := fun σ H' => ∃ (a : Addr) (cs : List Addr) (b : Addr) (ds : List Addr) (o3 o4 o5 : Option V), σ = [some (.ref r), some (.ref a), some (.ref b), o3, o4, o5] ∧ LL H H' a cs (fillL (ns.take (i + 1))) ∧ LL H H' b ds (recL (ns.take (i + 1))) ∧ (∀ x ∈ b :: ds, x ∉ a :: cs) ∧ Same H H', rt := Q, bk := fun _ _ => False, ct := fun _ _ => False }
            [some (.ref r), some (.ref a2), some (.ref b), some (.int (i : Nat)), some (.int j), some (.ref t2)] H3 := by
        intro H3 ds3 Rs lb3 la3 dj3 s3 ht3 hn3 hR hrec hg
        have hd3 : n < ds3.length := by rw [lb3.len]; exact hn3
        have hx : (ds3.map V.ref)[n]? = some (.ref ds3[n]) := by rw [List.getElem?_map, List.getElem?_eq_getElem hd3]; rfl
        have hc3 : IL H3 ds3[n] Rs[n] := lb3.sub n _ _ (List.getElem?_eq_getElem hd3) (List.getElem?_eq_getElem hn3)
        have hgd : Rs.getD n [] = Rs[n] := by rw [List.getD_eq_getElem?_getD, List.getElem?_eq_getElem hn3]; rfl
        rw [hgd] at hrec hg
        refine ⟨_, rfl, _, rfl, t2, _, (0 : Nat), _, rfl, rfl, SqT.of ht3, rfl, b, _, (n : Nat), _, rfl, rfl, SqL.of lb3.top, atI_nat hx, .inl ⟨rfl, _, SqL.of hc3⟩, ?_⟩
        refine ⟨_, rfl, _, _, rfl, rfl, ds3[n], _, _, rfl, rfl, hc3, by rw [List.length_map]; omega, ?_⟩
        have hmem : ds3[n] ∈ b :: ds3 := List.mem_cons_of_mem _ (List.getElem_mem hd3)
        have z := lb3.set (List.getElem?_eq_getElem hd3) (Rs[n] ++ [((i : Nat) : Int) + 1])
        rw [← hrec, List.map_append] at z
        refine ⟨a2, cs2, b, ds3, _, _, _, rfl, la3.keep fun x hxm o ho => ?_, z, dj3, same_upd s3 (lb3.new _ hmem)⟩
        have : x ≠ ds3[n] := fun e => dj3 _ hmem (e ▸ hxm)
        rw [upd_ne this]; exact ho
      by_cases c : n = (recL (ns.take i)).length
      · rw [if_pos c] at hRec
        rw [show decide (V.int (n : Nat) = V.int ((ds.map V.ref).length : Nat)) = true from decide_eq_true (by rw [List.length_map, lb.len, c])]
        refine iteT ?_
        refine ⟨_, rfl, .inl ⟨rfl, _, SqL.of lb.top⟩, Nat.zero_le _, fun d hd => ?_⟩
        have k3 : Same H2 (upd H2 d (.lst [])) := same_upd (Same.refl _) hd
        have lb3 := lb.same k3
        refine ⟨b, _, _, rfl, rfl, lb3.top, by rw [List.length_map, lb.len]; omega, ?_⟩
        have z := lb3.push [] (sH.free hd) upd_same (lb.fresh hd)
        have hbn : ∀ x ∈ a2 :: cs2, x ≠ b := fun x hx e => hnew b List.mem_cons_self (e ▸ hx)
        refine tail _ (ds ++ [d]) (recL (ns.take i) ++ [[]]) (by rw [List.map_append] at z; exact z) ?_ (fun x hx hm => ?_) (same_upd (sH.trans k3) (lb.new b List.mem_cons_self)) ?_ (by simp; omega) (by simp; omega) hRec (by rw [c]; simp)
        · exact (la'.same k3).keep fun x hxm o ho => by rw [upd_ne (hbn x hxm)]; exact ho
        · rcases List.mem_cons.mp hx with rfl | hx
          · exact hnew _ List.mem_cons_self hm
          · rcases List.mem_append.mp hx with hx | hx
            · exact hnew x (List.mem_cons_of_mem _ hx) hm
            · rw [List.mem_singleton.mp hx] at hm
              exact la'.fresh hd hm
        · have : t2 ≠ b := fun e => by rw [e, lb.top] at h2; cases h2
          rw [upd_ne this]; exact k3 _ _ h2
      · rw [if_neg c] at hRec
        rw [show decide (V.int (n : Nat) = V.int ((ds.map V.ref).length : Nat)) = false from decide_eq_false fun z => by
          have z := V.int.inj z
          rw [List.length_map, lb.len] at z
          omega]
        refine iteF ?_
        have hlt : n < (recL (ns.take i)).length := by omega
        refine tail _ ds (recL (ns.take i)) lb la' hnew sH h2 hlt (by omega) hRec ?_
        have := getD_le (k := n) (recL_mem (ns.take i))
        omega
    · subst e
      rw [List.length_map, List.take_length] at l1 l2
      refine ⟨_, rfl, _, rfl, by show 2 ≤ sizeLine; omega, fun t ht => ?_⟩
      have k := same_upd (o := .tup [.ref a, .ref b]) (Same.refl H') ht
      exact q _ a cs b ds t (sm.trans k) (l1.same k) (l2.same k) upd_same (sm.free ht)

theorem raw__law_bump (T : Tx K mg Cl) : HasRaw P w K mg base 1 "_law_bump" spBump := by
  obtain ⟨f, fd, hm, F, hb⟩ := T.at__law_bump.ex
  refine ⟨f, fd, _, hm, F.kp, hb, F.ok (ps := ["shelf", "jar"]) sc__law_bump (fun vs H Q E h => ?_) (fun cdv A outer s0 H vs Q E hr h => ?_)⟩
  · obtain ⟨c, ns, j, rfl, _⟩ := h
    rfl
  · obtain ⟨c, ns, j, rfl, hc, hn, q1, q2⟩ := h
    have nd := sc__law_bump.nd
    have sl := line_ge
    refine ⟨_, pss_cons (ps_for PassesOwn.never rfl (pi_range1 (by rfl) T.n_range (pa_cons (pe_callB call_len_seq (by rfl) T.n_len PySem.boot_len (pa_cons (pv 0) pa_nil)) pa_nil)) (pg_name (i := 2) nd rfl (by first | exact Or.inl rfl | exact Or.inr rfl))
        (pss_one (ps_if (pt_cmpR op_gt (pe_ix ix_list (pv 0) (pv 2) (fun _ _ => rfl)) (pv 1) (nomark _))
          (pss_cons (ps_set (i := 3) nd rfl (by first | exact Or.inl rfl | exact Or.inr rfl) (pe_ix ix_list (pv 0) (pv 2) (fun _ _ => rfl)))
          (pss_cons (ps_asg (pv 1) (pg_sub (pv 0) (pv 2) set_list))
          (pss_one (ps_ret (pv 3))))) pss_nil)))
      (pss_cons (ps_expr (pe_bm PySem.F.plainAttrs_list PySem.F.slot_list_append PySem.F.type_list_append mt_append (pv 0) (pa_cons (pv 1) pa_nil)))
      (pss_one (ps_ret pe_int))), ?_⟩
    refine ⟨_, rfl, c, _, rfl, .inl (SqL.of hc), _, rfl, by rw [List.length_map]; omega, by rw [List.length_map]; omega, ?_⟩
    rw [show (((ns.map V.int).length : Nat) : Int).toNat = ns.length by simp]
    refine for_range (lo := 0) (n := ns.length) (fun i σ H' => H' = H ∧ (∃ o2 o3 : Option V, σ = [some (.ref c), some (.int j), o2, o3]) ∧ ∀ k (hk : k < i) (hk' : k < ns.length), ¬ ns[k] > j) ⟨rfl, ⟨_, _, rfl⟩, fun k hk => absurd hk (Nat.not_lt_zero k)⟩ (fun i σ H' hi ⟨eH, ⟨o2, o3, e⟩, hk⟩ => ?_) (fun σ H' ⟨eH, ⟨o2, o3, e⟩, hk⟩ => ?_)
    · subst eH e
      have hg : (ns.map V.int)[i]? = some (.int ns[i]) := by rw [List.getElem?_map, List.getElem?_eq_getElem hi]; rfl
      have e0 : (0 : Int) + (i : Nat) = ((i : Nat) : Int) := by omega
      rw [e0]
      refine ⟨_, rfl, _, rfl, c, _, (i : Nat), _, rfl, rfl, SqL.of hc, atI_nat hg, _, rfl, _, _, rfl, rfl, _, rfl, ?_⟩
      by_cases hgt : j < ns[i]
      · rw [decide_eq_true hgt]
        have hp := place_eq hi hgt fun k hk' => hk k hk' (by omega)
        refine iteT ⟨_, rfl, _, rfl, c, _, (i : Nat), _, rfl, rfl, SqL.of hc, atI_nat hg, ?_⟩
        refine ⟨_, rfl, _, rfl, _, rfl, c, _, _, i, rfl, rfl, hc, ixN_of (by omega) (by rw [List.length_map]; omega), ?_⟩
        have z := q1 (by omega)
        simp only [hp] at z
        rw [List.map_set] at z
        exact ⟨_, rfl, z⟩
      · rw [decide_eq_false hgt]
        refine iteF ⟨rfl, ⟨_, _, rfl⟩, fun k hk1 hk2 => ?_⟩
        by_cases hki : k = i
        · subst hki; omega
        · exact hk k (by omega) hk2
    · subst eH e
      have hp := place_none fun k hk' => hk k hk' hk'
      refine ⟨_, rfl, .inl ⟨rfl, _, SqL.of hc⟩, _, rfl, c, _, _, rfl, rfl, hc, by rw [List.length_map]; omega, ?_⟩
      have z := q2 (by omega)
      rw [List.map_append] at z
      exact z
theorem has__law_fill (T : Tx K mg Cl) (h__law_bump : HasRaw P w K mg base 1 "_law_bump" spBump) : FnHas P w K mg base 2 "_law_fill" 1 (.dp 2) f__law_fill := by
  obtain ⟨fp, fdp, psp, hmp, hkp, hbp, FP⟩ := h__law_bump
  obtain ⟨f, fd, hm, F, hb⟩ := T.at__law_fill.ex
  refine ⟨f, fd, _, hm, F.kp, hb, FnOk.imp (sp := spLF) (F.ok (ps := ["row"]) sc__law_fill (fun vs H Q E h => ?_) (fun cdv A outer s0 H vs Q E hr h => ?_)) spLF_of⟩
  · obtain ⟨r, ns, rfl, _⟩ := h
    rfl
  · obtain ⟨r, ns, rfl, hr0, hn, hpos, q⟩ := h
    have nd := sc__law_fill.nd
    have sl := line_ge
    refine ⟨_, pss_cons (ps_set (i := 1) nd rfl (by first | exact Or.inl rfl | exact Or.inr rfl) (pe_lst pa_nil))
      (pss_cons (ps_for PassesOwn.never rfl (pi_list (pv 0)) (pg_name (i := 2) nd rfl (by first | exact Or.inl rfl | exact Or.inr rfl))
        (pss_cons (ps_set (i := 3) nd rfl (by first | exact Or.inl rfl | exact Or.inr rfl) (pv 2))
        (pss_cons (ps_for PassesOwn.never rfl (pi_range1 (by rfl) T.n_range (pa_cons (pe_callB call_len_seq (by rfl) T.n_len PySem.boot_len (pa_cons (pv 1) pa_nil)) pa_nil)) (pg_name (i := 4) nd rfl (by first | exact Or.inl rfl | exact Or.inr rfl))
          (pss_one (ps_if (pt_cmpR op_gt (pv 3) pe_int (nomark _))
            (pss_one (ps_set (i := 3) nd rfl (by first | exact Or.inl rfl | exact Or.inr rfl) (pe_call FP (hr.mono (by decide)) (by rfl) hmp hkp hbp .nil pass0 (pa_cons (pe_ix ix_list (pv 1) (pv 4) (fun _ _ => rfl)) (pa_cons (pv 3) pa_nil))))) pss_nil)))
        (pss_one (ps_if (pt_cmpR op_gt (pv 3) pe_int (nomark _))
          (pss_one (ps_expr (pe_bm PySem.F.plainAttrs_list PySem.F.slot_list_append PySem.F.type_list_append mt_append (pv 1) (pa_cons (pe_lst (pa_cons (pv 3) pa_nil)) pa_nil)))) pss_nil)))))
      (pss_one (ps_ret (pv 1)))), ?_⟩
    refine ⟨Nat.zero_le _, fun a ha => ?_⟩
    have S0 : Same H (upd H a (.lst [])) := same_upd (Same.refl _) ha
    refine ⟨_, rfl, r, rfl, ⟨_, SqL.of (S0 _ _ hr0)⟩, ?_⟩
    refine for_list (xs := ns.map V.int) (fun i σ H' => ∃ (cs : List Addr) (o2 o3 o4 : Option V), σ = [some (.ref r), some (.ref a), o2, o3, o4] ∧ LL H H' a cs (fillL (ns.take i)) ∧ Same H H')
      ⟨[], _, _, _, rfl, ⟨upd_same, rfl, fun i c m e => by simp at e, fun c hc => by rw [List.mem_singleton.mp hc]; exact ha, by simp⟩, S0⟩ (fun i σ H' _ ⟨_, _, _, _, _, _, s⟩ => SqL.of (s _ _ hr0)) (fun i x σ H' hx ⟨cs, o2, o3, o4, e, l, sm⟩ => ?_) (fun σ H' ⟨cs, o2, o3, o4, e, l, sm⟩ => ?_)
    · subst e
      obtain ⟨j, hj, rfl⟩ : ∃ j, ns[i]? = some j ∧ x = .int j := by
        rw [List.getElem?_map] at hx
        cases e : ns[i]? with
        | none => rw [e] at hx; cases hx
        | some n => rw [e] at hx; exact ⟨n, rfl, (Option.some.inj hx).symm⟩
      have hi : i < ns.length := (List.getElem?_eq_some_iff.mp hj).1
      have hjp : 0 < j := hpos j (List.mem_of_getElem? hj)
      have htk : ns.take (i + 1) = ns.take i ++ [j] := by
        rw [List.take_succ, hj]; rfl
      have hll := fillL_len (ns.take i)
      have htl : (ns.take i).length ≤ 1000 := by rw [List.length_take]; omega
      have hps := fillL_all (P := fun x => 0 < x) (ns.take i) (fun x hx => hpos x (List.mem_of_mem_take hx))
      have hml := fun m (hm : m ∈ fillL (ns.take i)) => fillL_mem hm
      refine ⟨_, rfl, _, rfl, a, _, rfl, .inl (SqL.of l.top), _, rfl, by rw [List.length_map, l.len]; omega, by rw [List.length_map, l.len]; omega, ?_⟩
      rw [show (((cs.map V.ref).length : Nat) : Int).toNat = cs.length by simp]
      generalize hN : fillL (ns.take i) = Ns at l hll hps hml
      refine for_range (lo := 0) (n := cs.length) (fun k σ H' => ∃ (c : Int) (o4 : Option V) (pre post : List (List Int)), σ = [some (.ref r), some (.ref a), some (.int j), some (.int c), o4] ∧ pre.length = k ∧ (pre ++ post).length = Ns.length ∧ LL H H' a cs (pre ++ post) ∧ Same H H' ∧ (∀ s ∈ post, s.length ≤ 1000 ∧ ∀ x ∈ s, 0 < x) ∧
          (putL Ns j).1 = pre ++ (if 0 < c then (putL post c).1 else post))
        ⟨j, _, [], Ns, rfl, rfl, rfl, l, sm, fun s hs => ⟨by have := hml s hs; omega, hps s hs⟩, by rw [if_pos hjp]; rfl⟩ (fun k σ H' hk ⟨c, o4, pre, post, e, hp, hpl, l, sm, hpo, e1⟩ => ?_) (fun σ H' ⟨c, o4, pre, post, e, hp, hpl, l, sm, hpo, e1⟩ => ?_)
      · subst e
        obtain ⟨s1, post', rfl⟩ : ∃ s1 post', post = s1 :: post' := by
          cases post with
          | nil => have := l.len; simp at hpl this; omega
          | cons s1 post' => exact ⟨s1, post', rfl⟩
        refine ⟨_, rfl, _, _, rfl, rfl, _, rfl, ?_⟩
        by_cases hc : 0 < c
        · rw [decide_eq_true hc]
          rw [if_pos hc] at e1
          obtain ⟨hs1, hps1⟩ := hpo s1 List.mem_cons_self
          have hgi : (pre ++ s1 :: post')[k]? = some s1 := by rw [← hp]; simp
          have hck : cs[k]? = some cs[k] := List.getElem?_eq_getElem hk
          have hx : (cs.map V.ref)[k]? = some (.ref cs[k]) := by rw [List.getElem?_map, hck]; rfl
          have e0 : (0 : Int) + (k : Nat) = ((k : Nat) : Int) := by omega
          rw [e0]
          refine iteT ⟨_, rfl, _, rfl, a, _, (k : Nat), _, rfl, rfl, SqL.of l.top, atI_nat hx, ?_⟩
          refine ⟨_, rfl, cs[k], s1, c, rfl, l.sub k _ s1 hck hgi, by omega, fun h => ?_, fun h => ?_⟩
          · rw [putL_go h] at e1
            refine ⟨s1[placeL s1 c], _, pre ++ [s1.set (placeL s1 c) c], post', rfl, by simp [hp], by simpa using hpl, ?_, same_upd sm (l.new _ (List.mem_cons_of_mem _ (List.getElem_mem hk))), fun s hs => hpo s (List.mem_cons_of_mem _ hs), ?_⟩
            · have z := l.set hck (s1.set (placeL s1 c) c)
              rw [show (pre ++ s1 :: post').set k (s1.set (placeL s1 c) c) = pre ++ [s1.set (placeL s1 c) c] ++ post' by rw [← hp]; simp] at z
              exact z
            · rw [if_pos (hps1 _ (List.getElem_mem h)), e1]; simp
          · rw [putL_end h] at e1
            refine ⟨0, _, pre ++ [s1 ++ [c]], post', rfl, by simp [hp], by simpa using hpl, ?_, same_upd sm (l.new _ (List.mem_cons_of_mem _ (List.getElem_mem hk))), fun s hs => hpo s (List.mem_cons_of_mem _ hs), ?_⟩
            · have z := l.set hck (s1 ++ [c])
              rw [show (pre ++ s1 :: post').set k (s1 ++ [c]) = pre ++ [s1 ++ [c]] ++ post' by rw [← hp]; simp] at z
              exact z
            · rw [if_neg (by decide), e1]; simp
        · rw [decide_eq_false hc]
          rw [if_neg hc] at e1
          exact iteF ⟨c, _, pre ++ [s1], post', rfl, by simp [hp], by simpa using hpl, by simpa using l, sm, fun s hs => hpo s (List.mem_cons_of_mem _ hs), by rw [if_neg hc, e1]; simp⟩
      · subst e
        have hpo0 : post = [] := by
          cases post with
          | nil => rfl
          | cons x y =>
            have := l.len
            simp at hpl this
            omega
        subst hpo0
        rw [List.append_nil] at l hpl
        refine ⟨_, rfl, _, _, rfl, rfl, _, rfl, ?_⟩
        by_cases hc : 0 < c
        · rw [decide_eq_true hc]
          rw [if_pos hc] at e1
          have e1' : (putL Ns j).1 = pre ++ [[c]] := e1
          refine iteT ⟨_, rfl, .inl ⟨rfl, _, SqL.of l.top⟩, _, rfl, by show 1 ≤ sizeLine; omega, fun d hd => ?_⟩
          have k1 : Same H' (upd H' d (.lst [.int c])) := same_upd (Same.refl _) hd
          have l1 := l.same k1
          refine ⟨a, _, _, rfl, rfl, l1.top, by rw [List.length_map, l.len]; omega, cs ++ [d], _, _, _, rfl, ?_, same_upd (sm.trans k1) (l.new a List.mem_cons_self)⟩
          have z := l1.push [c] (sm.free hd) upd_same (l.fresh hd)
          rw [← e1', List.map_append] at z
          rw [htk, fillL_append, hN]
          exact z
        · rw [decide_eq_false hc]
          rw [if_neg hc, List.append_nil] at e1
          refine iteF ⟨cs, _, _, _, rfl, ?_, sm⟩
          rw [htk, fillL_append, hN, e1]
          exact l
    · subst e
      rw [List.length_map, List.take_length] at l
      exact ⟨_, rfl, q _ a cs sm l⟩

theorem init_TooMany {fI : Addr} {fd : FuncData} (F : Fun K "__init__" "TooMany.__init__" s_init_TooMany fI fd) : FnOk P w K mg base CX0 1 fI fd ["self", "limit"] (spInit K "limit") := by
  refine F.ok sc_init_TooMany (fun vs H Q E h => ?_) (fun cdv A outer s H vs Q E hr h => ?_)
  · obtain ⟨a, C, y, rfl, _⟩ := h
    rfl
  · obtain ⟨a, C, y, rfl, ox, hno, ha, q⟩ := h
    exact ⟨_, pss_one (ps_ost (pv 0) (pv 1)), _, rfl, _, rfl, a, C, rfl, ox, hno, .inl ⟨ha, q⟩⟩
theorem has_place_for (T : Tx K mg Cl)  : FnHas P w K mg base 1 "place_for" 2 (.fz) f_place_for := by
  obtain ⟨f, fd, hm, F, hb⟩ := T.at_place_for.ex
  refine ⟨f, fd, _, hm, F.kp, hb, fn_ok F sc_place_for (κr := .fz) (b := (b_place_for)) (Oe := fzs N_place_for) (fun cdv A outer s H E hr => ?_) (sem_place_for)⟩
  exact (dss_cons (DSt.to (O2 := (fzs N_place_for)) (dst_for PassesOwn.never rfl (di_enum (by rfl) T.n_enumerate (da_cons (de_var (κ := .fz) (i := 0) rfl (pv 0)) da_nil)) (T := (.many [2, 3])) (pg_tup rfl (pgs_cons (pg_name (i := 2) sc_place_for.nd rfl (by first | exact Or.inl rfl | exact Or.inr rfl)) (pgs_cons (pg_name (i := 3) sc_place_for.nd rfl (by first | exact Or.inl rfl | exact Or.inr rfl)) pgs_nil))) (DSs.frm (O1 := (fzs N_place_for)) (dss_one (DSt.to (O2 := (fzs N_place_for)) (dst_if (dt_cmp op_gt (opd_gt (by decide)) (de_var (κ := .fz) (i := 3) rfl (pv 3)) (de_var (κ := .fz) (i := 1) rfl (pv 1)) (nomark _)) (dss_one (dst_ret (de_var (κ := .fz) (i := 2) rfl (pv 2)))) dss_nil) rfl)) rfl)) rfl)
    (dss_one (dst_ret (de_len (κ := .fz) (by decide) (by rfl) T.n_len (de_var (κ := .vw) (i := 0) rfl (pv 0))))))
theorem has_fill (T : Tx K mg Cl) (h_fill_with_record : FnHas P w K mg base 3 "fill_with_record" 1 (.dp 3) f_fill_with_record) : FnHas P w K mg base 4 "fill" 1 (.dp 2) f_fill := by
  obtain ⟨f, fd, hm, F, hb⟩ := T.at_fill.ex
  refine ⟨f, fd, _, hm, F.kp, hb, fn_ok F sc_fill (κr := .dp 2) (b := (b_fill)) (Oe := fzs N_fill) (fun cdv A outer s H E hr => ?_) (sem_fill)⟩
  exact (dss_one (dst_ret (de_itemR (de_callH h_fill_with_record m_f_fill_with_record (by first | decide | exact Nat.le_refl _) hr (by rfl) (da_cons (de_var (κ := .fz) (i := 0) rfl (pv 0)) da_nil)))))
theorem has_shelves_of_words (T : Tx K mg Cl) (h_fill : FnHas P w K mg base 4 "fill" 1 (.dp 2) f_fill) {C_TooMany : Addr} (x_TooMany : ClsD P w K mg base "TooMany" C_TooMany "limit") (cl_TooMany : Cl "TooMany" = some C_TooMany) : FnHasX P w K mg base Cl 5 "shelves_of_words" 1 (.fz) f_shelves_of_words := by
  obtain ⟨f, fd, hm, F, hb⟩ := T.at_shelves_of_words.ex
  obtain ⟨t_MOST_JARS, c_MOST_JARS⟩ := T.c_MOST_JARS
  refine ⟨f, fd, _, hm, F.kp, hb, fnX_ok F sc_shelves_of_words (κr := .fz) (b := (b_shelves_of_words)) (Oe := fzs N_shelves_of_words) (fun cdv A outer s H E hr => ?_) (sem_shelves_of_words)⟩
  exact (dsX_cons (dstX_of (DSt.to (O2 := (fzs N_shelves_of_words)) (dst_set (i := 1) sc_shelves_of_words.nd rfl (by first | exact Or.inl rfl | exact Or.inr rfl) (DE.up (κ := .nw) (de_lst da_nil))) rfl))
    (dsX_cons (dstX_of (DSt.to (O2 := (fzs N_shelves_of_words)) (dst_for (passes_of rfl) rfl (di_list (de_var (κ := .fz) (i := 0) rfl (pv 0))) (T := (.one 2)) (pg_name (i := 2) sc_shelves_of_words.nd rfl (by first | exact Or.inl rfl | exact Or.inr rfl)) (DSs.frm (O1 := (fzs N_shelves_of_words)) (dss_one (DSt.to (O2 := (fzs N_shelves_of_words)) (dst_set (i := 1) sc_shelves_of_words.nd rfl (by first | exact Or.inl rfl | exact Or.inr rfl) (DE.up (κ := .nw) (de_cat (de_var (κ := .tp) (i := 1) rfl (pv 1)) (de_var (κ := .tp) (i := 2) rfl (pv 2))))) rfl)) rfl)) rfl))
    (dsX_cons (dstX_if (dt_cmp op_gt (opd_gt (by decide)) (de_len (κ := .fz) (by decide) (by rfl) T.n_len (de_var (κ := .vw) (i := 1) rfl (pv 1))) (de_globI (κ := .fz) (by rfl) c_MOST_JARS) (nomark _)) (dsX_one (dstX_raise (k := 0) x_TooMany cl_TooMany rfl (takes_of rfl rfl rfl rfl) (hr.mono (by decide)) (by rfl) (de_globI (κ := .fz) (by rfl) c_MOST_JARS))) dsX_nil)
    (dsX_of (dss_one (dst_ret (DE.up (κ := .dp 2) (de_callH h_fill m_f_fill (by first | decide | exact Nat.le_refl _) hr (by rfl) (da_cons (de_var (κ := .fz) (i := 1) rfl (pv 1)) da_nil)))))))))
theorem has_same_together (T : Tx K mg Cl) (h_fill : FnHas P w K mg base 4 "fill" 1 (.dp 2) f_fill) : FnHas P w K mg base 5 "same_together" 2 (.fz) f_same_together := by
  obtain ⟨f, fd, hm, F, hb⟩ := T.at_same_together.ex
  refine ⟨f, fd, _, hm, F.kp, hb, fn_ok F sc_same_together (κr := .fz) (b := (b_same_together)) (Oe := fzs N_same_together) (fun cdv A outer s H E hr => ?_) (sem_same_together)⟩
  exact (dss_cons (DSt.to (O2 := (fzs N_same_together)) (dst_set (i := 2) sc_same_together.nd rfl (by first | exact Or.inl rfl | exact Or.inr rfl) (de_callB (κ := .fz) (call_min2 rfl) (ard_min2 (by decide)) (by rfl) T.n_min boot_min (da_cons (de_len (κ := .fz) (by decide) (by rfl) T.n_len (de_var (κ := .vw) (i := 0) rfl (pv 0))) (da_cons (de_len (κ := .fz) (by decide) (by rfl) T.n_len (de_var (κ := .vw) (i := 1) rfl (pv 1))) da_nil)))) rfl)
    (dss_cons (DSt.to (O2 := (fzs N_same_together)) (dst_for PassesOwn.never rfl (di_range1 (by rfl) T.n_range (da_cons (de_var (κ := .fz) (i := 2) rfl (pv 2)) da_nil)) (T := (.one 3)) (pg_name (i := 3) sc_same_together.nd rfl (by first | exact Or.inl rfl | exact Or.inr rfl)) (DSs.frm (O1 := (fzs N_same_together)) (dss_one (DSt.to (O2 := (fzs N_same_together)) (dst_if (dt_cmp (op_neD hr.units) (opd_ne (by decide)) (DE.up (κ := .dp 2) (de_callH h_fill m_f_fill (by first | decide | exact Nat.le_refl _) hr (by rfl) (da_cons (de_item (de_var (κ := .tp) (i := 0) rfl (pv 0)) (de_var (κ := .fz) (i := 3) rfl (pv 3))) da_nil))) (DE.up (κ := .dp 2) (de_callH h_fill m_f_fill (by first | decide | exact Nat.le_refl _) hr (by rfl) (da_cons (de_item (de_var (κ := .tp) (i := 1) rfl (pv 1)) (de_var (κ := .fz) (i := 3) rfl (pv 3))) da_nil))) (nomark _)) (dss_one (dst_ret (DE.up (κ := .nw) (de_tup (da_cons (de_str (κ := .fz)) (da_cons (de_var (κ := .fz) (i := 3) rfl (pv 3)) da_nil)))))) dss_nil) rfl)) rfl)) rfl)
    (dss_cons (DSt.to (O2 := (fzs N_same_together)) (dst_if (dt_cmp (op_neD hr.units) (opd_ne (by decide)) (de_len (κ := .vw) (by decide) (by rfl) T.n_len (de_var (κ := .vw) (i := 0) rfl (pv 0))) (de_len (κ := .vw) (by decide) (by rfl) T.n_len (de_var (κ := .vw) (i := 1) rfl (pv 1))) (nomark _)) (dss_one (dst_ret (DE.up (κ := .nw) (de_tup (da_cons (de_str (κ := .fz)) (da_cons (de_var (κ := .fz) (i := 2) rfl (pv 2)) da_nil)))))) dss_nil) rfl)
    (dss_one (dst_ret (DE.up (κ := .nw) (de_tup (da_cons (de_str (κ := .fz)) da_nil))))))))
theorem has_left_from (T : Tx K mg Cl) (h_fill : FnHas P w K mg base 4 "fill" 1 (.dp 2) f_fill) : FnHas P w K mg base 5 "left_from" 2 (.fz) f_left_from := by
  obtain ⟨f, fd, hm, F, hb⟩ := T.at_left_from.ex
  refine ⟨f, fd, _, hm, F.kp, hb, fn_ok F sc_left_from (κr := .fz) (b := (b_left_from)) (Oe := fzs N_left_from) (fun cdv A outer s H E hr => ?_) (sem_left_from)⟩
  exact (dss_one (dst_ret (DE.up (κ := .nw) (de_lc rfl sc_left_from.nd (T := (.one 2)) (own := [("k", 2)]) (di_range1 (by rfl) T.n_range (da_cons (de_add (κ := .fz) (by decide) (de_len (κ := .fz) (by decide) (by rfl) T.n_len (de_var (κ := .vw) (i := 0) rfl (pv 0))) (de_int (κ := .fz))) da_nil)) (blkOk_by (N := N_left_from) (sc := defScope s_left_from) (by decide +kernel)) (by decide) (fun _ _ _ _ _ => (pg_name (i := 2) sc_left_from.nd rfl (by first | exact Or.inl rfl | exact Or.inr rfl))) (fun _ _ _ _ _ => (dts_one (dt_cmp (op_eqD hr.units) (opd_eq (by decide)) (DE.up (κ := .dp 2) (de_callH h_fill m_f_fill (by first | decide | exact Nat.le_refl _) hr (by rfl) (da_cons (DE.up (κ := .nw) (de_slice (de_var (κ := .tp) (i := 0) rfl (pv 0)) (do_some (de_var (κ := .fz) (i := 2) rfl (pv 2))) do_no)) da_nil))) (de_var (κ := .vw) (i := 1) rfl (pv 1)) (nomark _)))) (fun _ _ _ _ _ => (de_var (κ := .fz) (i := 2) rfl (pv 2)))))))
theorem has_parts_that_fill (T : Tx K mg Cl) (h_fill : FnHas P w K mg base 4 "fill" 1 (.dp 2) f_fill) : FnHas P w K mg base 5 "parts_that_fill" 2 (.fz) f_parts_that_fill := by
  obtain ⟨f, fd, hm, F, hb⟩ := T.at_parts_that_fill.ex
  refine ⟨f, fd, _, hm, F.kp, hb, fn_ok F sc_parts_that_fill (κr := .fz) (b := (b_parts_that_fill)) (Oe := fzs N_parts_that_fill) (fun cdv A outer s H E hr => ?_) (sem_parts_that_fill)⟩
  exact (dss_cons (DSt.to (O2 := (fzs N_parts_that_fill)) (dst_set (i := 2) sc_parts_that_fill.nd rfl (by first | exact Or.inl rfl | exact Or.inr rfl) (de_callB (κ := .fz) (cr_sum rfl) (ard_sum (by decide)) (by rfl) T.n_sum boot_sum (da_cons (DE.up (κ := .nw) (de_lc rfl sc_parts_that_fill.nd (T := (.one 4)) (own := [("shelf", 4)]) (di_list (de_var (κ := .fz) (i := 1) rfl (pv 1))) (blkOk_by (N := N_parts_that_fill) (sc := defScope s_parts_that_fill) (by decide +kernel)) (by decide) (fun _ _ _ _ _ => (pg_name (i := 4) sc_parts_that_fill.nd rfl (by first | exact Or.inl rfl | exact Or.inr rfl))) (fun _ _ _ _ _ => dts_nil) (fun _ _ _ _ _ => (de_len (κ := .fz) (by decide) (by rfl) T.n_len (de_var (κ := .vw) (i := 4) rfl (pv 4)))))) da_nil))) rfl)
    (dss_one (dst_ret (DE.up (κ := .nw) (de_lc rfl sc_parts_that_fill.nd (T := (.one 3)) (own := [("k", 3)]) (di_range1 (by rfl) T.n_range (da_cons (de_add (κ := .fz) (by decide) (de_sub (κ := .fz) (by decide) (de_len (κ := .fz) (by decide) (by rfl) T.n_len (de_var (κ := .vw) (i := 0) rfl (pv 0))) (de_var (κ := .fz) (i := 2) rfl (pv 2))) (de_int (κ := .fz))) da_nil)) (blkOk_by (N := N_parts_that_fill) (sc := defScope s_parts_that_fill) (by decide +kernel)) (by decide) (fun _ _ _ _ _ => (pg_name (i := 3) sc_parts_that_fill.nd rfl (by first | exact Or.inl rfl | exact Or.inr rfl))) (fun _ _ _ _ _ => (dts_one (dt_cmp (op_eqD hr.units) (opd_eq (by decide)) (DE.up (κ := .dp 2) (de_callH h_fill m_f_fill (by first | decide | exact Nat.le_refl _) hr (by rfl) (da_cons (DE.up (κ := .nw) (de_slice (de_var (κ := .tp) (i := 0) rfl (pv 0)) (do_some (de_var (κ := .fz) (i := 3) rfl (pv 3))) (do_some (de_add (κ := .fz) (by decide) (de_var (κ := .fz) (i := 3) rfl (pv 3)) (de_var (κ := .fz) (i := 2) rfl (pv 2)))))) da_nil))) (de_var (κ := .vw) (i := 1) rfl (pv 1)) (nomark _)))) (fun _ _ _ _ _ => (DE.up (κ := .nw) (de_tup (da_cons (de_var (κ := .fz) (i := 3) rfl (pv 3)) (da_cons (de_add (κ := .fz) (by decide) (de_var (κ := .fz) (i := 3) rfl (pv 3)) (de_var (κ := .fz) (i := 2) rfl (pv 2))) da_nil))))))))))
theorem has__law_same_step (T : Tx K mg Cl)  {k : Nat} {fnSelf fnNext : Fn} (m_self : MonoF fnSelf) (ff_self : ∀ ds (Q : D → Prop), fnSelf ds Q → fnSelf ds fun d => d.flat ∧ Q d) (h__law_same : FnHas P w K mg base k "_law_same" 2 (.fz) fnSelf) (sem : ∀ ds (Q : D → Prop), ds.length = 2 → fnNext ds Q → b__law_same fnSelf { nx := fun _ => ((Kd.fz : Kd) ≠ .nw) ∧ Q .non, rt := Q } (startD N__law_same ds)) : FnHas P w K mg base (k + 1) "_law_same" 2 (.fz) fnNext := by
  obtain ⟨f, fd, hm, F, hb⟩ := T.at__law_same.ex
  refine ⟨f, fd, _, hm, F.kp, hb, fn_ok F sc__law_same (κr := .fz) (b := (b__law_same fnSelf)) (Oe := fzs N__law_same) (fun cdv A outer s H E hr => ?_) sem⟩
  exact (dss_cons (DSt.to (O2 := (fzs N__law_same)) (dst_if (dt_val (de_isi (κ := .fz) (by decide) (by rfl) T.n_isinstance (de_var (κ := .vw) (i := 1) rfl (pv 1)) (by rfl) T.n_list boot_list)) (dss_cons (DSt.to (O2 := (fzs N__law_same)) (dst_if (DW.dt (dw_or (dt_not (dt_val (de_isi (κ := .fz) (by decide) (by rfl) T.n_isinstance (de_var (κ := .vw) (i := 0) rfl (pv 0)) (by rfl) T.n_list boot_list))) (dw_or1 (dt_cmp (op_neD hr.units) (opd_ne (by decide)) (de_len (κ := .vw) (by decide) (by rfl) T.n_len (de_var (κ := .vw) (i := 0) rfl (pv 0))) (de_len (κ := .vw) (by decide) (by rfl) T.n_len (de_var (κ := .vw) (i := 1) rfl (pv 1))) (nomark _))))) (dss_one (dst_ret (de_bl (κ := .fz)))) dss_nil) rfl)
    (dss_one (dst_ret (de_callB (κ := .fz) (cr_all rfl) (ard_all (by decide)) (by rfl) T.n_all boot_all (da_cons (DE.up (κ := .nw) (de_lc rfl sc__law_same.nd (T := (.one 2)) (own := [("k", 2)]) (di_range1 (by rfl) T.n_range (da_cons (de_len (κ := .fz) (by decide) (by rfl) T.n_len (de_var (κ := .vw) (i := 1) rfl (pv 1))) da_nil)) (blkOk_by (N := N__law_same) (sc := defScope s__law_same) (by decide +kernel)) (by decide) (fun _ _ _ _ _ => (pg_name (i := 2) sc__law_same.nd rfl (by first | exact Or.inl rfl | exact Or.inr rfl))) (fun _ _ _ _ _ => dts_nil) (fun _ _ _ _ _ => (de_callH h__law_same m_self (by first | decide | exact Nat.le_refl _) hr (by rfl) (da_cons (de_item (de_var (κ := .tp) (i := 0) rfl (pv 0)) (de_var (κ := .fz) (i := 2) rfl (pv 2))) (da_cons (de_item (de_var (κ := .tp) (i := 1) rfl (pv 1)) (de_var (κ := .fz) (i := 2) rfl (pv 2))) da_nil)))))) da_nil))))) dss_nil) rfl)
    (dss_cons (DSt.to (O2 := (fzs N__law_same)) (dst_if (dt_val (de_isi (κ := .fz) (by decide) (by rfl) T.n_isinstance (de_var (κ := .vw) (i := 1) rfl (pv 1)) (by rfl) T.n_tuple boot_tuple)) (dss_cons (DSt.to (O2 := (fzs N__law_same)) (dst_if (DW.dt (dw_or (dt_not (dt_val (de_isi (κ := .fz) (by decide) (by rfl) T.n_isinstance (de_var (κ := .vw) (i := 0) rfl (pv 0)) (by rfl) T.n_tuple boot_tuple))) (dw_or1 (dt_cmp (op_neD hr.units) (opd_ne (by decide)) (de_len (κ := .vw) (by decide) (by rfl) T.n_len (de_var (κ := .vw) (i := 0) rfl (pv 0))) (de_len (κ := .vw) (by decide) (by rfl) T.n_len (de_var (κ := .vw) (i := 1) rfl (pv 1))) (nomark _))))) (dss_one (dst_ret (de_bl (κ := .fz)))) dss_nil) rfl)
    (dss_one (dst_ret (de_callB (κ := .fz) (cr_all rfl) (ard_all (by decide)) (by rfl) T.n_all boot_all (da_cons (DE.up (κ := .nw) (de_lc rfl sc__law_same.nd (T := (.one 2)) (own := [("k", 2)]) (di_range1 (by rfl) T.n_range (da_cons (de_len (κ := .fz) (by decide) (by rfl) T.n_len (de_var (κ := .vw) (i := 1) rfl (pv 1))) da_nil)) (blkOk_by (N := N__law_same) (sc := defScope s__law_same) (by decide +kernel)) (by decide) (fun _ _ _ _ _ => (pg_name (i := 2) sc__law_same.nd rfl (by first | exact Or.inl rfl | exact Or.inr rfl))) (fun _ _ _ _ _ => dts_nil) (fun _ _ _ _ _ => (de_callH h__law_same m_self (by first | decide | exact Nat.le_refl _) hr (by rfl) (da_cons (de_item (de_var (κ := .tp) (i := 0) rfl (pv 0)) (de_var (κ := .fz) (i := 2) rfl (pv 2))) (da_cons (de_item (de_var (κ := .tp) (i := 1) rfl (pv 1)) (de_var (κ := .fz) (i := 2) rfl (pv 2))) da_nil)))))) da_nil))))) dss_nil) rfl)
    (dss_cons (DSt.to (O2 := (fzs N__law_same)) (dst_if (dt_cmp op_isN (opd_isN (by decide)) (de_var (κ := .vw) (i := 1) rfl (pv 1)) (de_non (κ := .fz)) (nomark _)) (dss_one (dst_ret (de_cmp (κ := .fz) op_isN (opd_isN (by decide)) (de_var (κ := .vw) (i := 0) rfl (pv 0)) (de_non (κ := .fz)) (nomark _)))) dss_nil) rfl)
    (dss_cons (DSt.to (O2 := (fzs N__law_same)) (dst_if (dt_val (de_isi (κ := .fz) (by decide) (by rfl) T.n_isinstance (de_var (κ := .vw) (i := 1) rfl (pv 1)) (by rfl) T.n_bool boot_bool)) (dss_one (dst_ret (de_and (by decide) (de_isi (κ := .fz) (by decide) (by rfl) T.n_isinstance (de_var (κ := .vw) (i := 0) rfl (pv 0)) (by rfl) T.n_bool boot_bool) (de_one (de_cmp (κ := .fz) (op_eqD hr.units) (opd_eq (by decide)) (de_var (κ := .vw) (i := 0) rfl (pv 0)) (de_var (κ := .vw) (i := 1) rfl (pv 1)) (nomark _)))))) dss_nil) rfl)
    (dss_cons (DSt.to (O2 := (fzs N__law_same)) (dst_if (dt_val (de_isi (κ := .fz) (by decide) (by rfl) T.n_isinstance (de_var (κ := .vw) (i := 1) rfl (pv 1)) (by rfl) T.n_str boot_str)) (dss_one (dst_ret (de_and (by decide) (de_isi (κ := .fz) (by decide) (by rfl) T.n_isinstance (de_var (κ := .vw) (i := 0) rfl (pv 0)) (by rfl) T.n_str boot_str) (de_one (de_cmp (κ := .fz) (op_eqD hr.units) (opd_eq (by decide)) (de_var (κ := .vw) (i := 0) rfl (pv 0)) (de_var (κ := .vw) (i := 1) rfl (pv 1)) (nomark _)))))) dss_nil) rfl)
    (dss_one (dst_ret (de_and (by decide) (de_isi (κ := .fz) (by decide) (by rfl) T.n_isinstance (de_var (κ := .vw) (i := 0) rfl (pv 0)) (by rfl) T.n_int boot_int) (de_and (by decide) (de_not (κ := .fz) (by decide) (de_isi (κ := .vw) (by decide) (by rfl) T.n_isinstance (de_var (κ := .vw) (i := 0) rfl (pv 0)) (by rfl) T.n_bool boot_bool)) (de_one (de_cmp (κ := .fz) (op_eqD hr.units) (opd_eq (by decide)) (de_var (κ := .vw) (i := 0) rfl (pv 0)) (de_var (κ := .vw) (i := 1) rfl (pv 1)) (nomark _))))))))))))
theorem has__law_copy (T : Tx K mg Cl)  : FnHas P w K mg base 1 "_law_copy" 1 (.fz) f__law_copy := by
  obtain ⟨f, fd, hm, F, hb⟩ := T.at__law_copy.ex
  refine ⟨f, fd, _, hm, F.kp, hb, fn_ok F sc__law_copy (κr := .fz) (b := (b__law_copy)) (Oe := fzs N__law_copy) (fun cdv A outer s H E hr => ?_) (sem__law_copy)⟩
  exact (dss_one (dst_ret (DE.up (κ := .nw) (de_lc rfl sc__law_copy.nd (T := (.one 1)) (own := [("line", 1)]) (di_list (de_var (κ := .fz) (i := 0) rfl (pv 0))) (blkOk_by (N := N__law_copy) (sc := defScope s__law_copy) (by decide +kernel)) (by decide) (fun _ _ _ _ _ => (pg_name (i := 1) sc__law_copy.nd rfl (by first | exact Or.inl rfl | exact Or.inr rfl))) (fun _ _ _ _ _ => dts_nil) (fun _ _ _ _ _ => (DE.up (κ := .nw) (de_callTy call_list_of ard_list (by rfl) T.n_list boot_list (da_cons (de_var (κ := .tp) (i := 1) rfl (pv 1)) da_nil))))))))
theorem has__law_row (T : Tx K mg Cl) (h__law_draw : FnHas P w K mg base 1 "_law_draw" 2 (.fz) f_draw) : FnHas P w K mg base 2 "_law_row" 2 (.fz) f_row := by
  obtain ⟨f, fd, hm, F, hb⟩ := T.at__law_row.ex
  refine ⟨f, fd, _, hm, F.kp, hb, fn_ok F sc__law_row (κr := .fz) (b := (b__law_row)) (Oe := fzs N__law_row) (fun cdv A outer s H E hr => ?_) (sem__law_row)⟩
  exact (dss_cons (DSt.to (O2 := (fzs N__law_row)) (dst_set (i := 2) sc__law_row.nd rfl (by first | exact Or.inl rfl | exact Or.inr rfl) (de_add (κ := .fz) (by decide) (de_int (κ := .fz)) (de_callH h__law_draw m_f_draw (by first | decide | exact Nat.le_refl _) hr (by rfl) (da_cons (de_var (κ := .fz) (i := 0) rfl (pv 0)) (da_cons (de_int (κ := .fz)) da_nil))))) rfl)
    (dss_cons (DSt.to (O2 := (fzs N__law_row)) (dst_set (i := 3) sc__law_row.nd rfl (by first | exact Or.inl rfl | exact Or.inr rfl) (de_callH h__law_draw m_f_draw (by first | decide | exact Nat.le_refl _) hr (by rfl) (da_cons (de_var (κ := .fz) (i := 0) rfl (pv 0)) (da_cons (de_int (κ := .fz)) da_nil)))) rfl)
    (dss_cons (DSt.to (O2 := (fzs N__law_row)) (dst_setLc (i := 4) rfl sc__law_row.nd rfl rfl (sw_true rfl rfl rfl (by decide +kernel)) (T := (.one 6)) (own := [("k", 6)]) (di_range1 (by rfl) T.n_range (da_cons (de_var (κ := .fz) (i := 1) rfl (pv 1)) da_nil)) (blkOk_by (N := N__law_row) (sc := defScope s__law_row) (by decide +kernel)) (by decide) (fun _ _ _ _ _ => (pg_name (i := 6) sc__law_row.nd rfl (by first | exact Or.inl rfl | exact Or.inr rfl))) (fun _ _ _ _ _ => dts_nil) (fun _ _ _ _ _ => (de_add (κ := .fz) (by decide) (de_int (κ := .fz)) (de_callH h__law_draw m_f_draw (by first | decide | exact Nat.le_refl _) hr (by rfl) (da_cons (de_var (κ := .fz) (i := 0) rfl (pv 0)) (da_cons (de_var (κ := .fz) (i := 2) rfl (pv 2)) da_nil)))))) rfl)
    (dss_cons (DSt.to (O2 := (fzs N__law_row)) (dst_if (dt_cmp (op_eqD hr.units) (opd_eq (by decide)) (de_var (κ := .vw) (i := 3) rfl (pv 3)) (de_int (κ := .vw)) (nomark _)) (dss_one (dst_ret (DE.up (κ := .nw) (de_callB cr_sortedI ard_sorted (by rfl) T.n_sorted boot_sorted (da_cons (de_var (κ := .vw) (i := 4) rfl (pv 4)) da_nil))))) dss_nil) rfl)
    (dss_cons (DSt.to (O2 := (fzs N__law_row)) (dst_if (dt_cmp (op_eqD hr.units) (opd_eq (by decide)) (de_var (κ := .vw) (i := 3) rfl (pv 3)) (de_int (κ := .vw)) (nomark _)) (dss_one (dst_ret (DE.up (κ := .nw) (de_sortedRev (by rfl) T.n_sorted (de_var (κ := .vw) (i := 4) rfl (pv 4)))))) dss_nil) rfl)
    (dss_cons (DSt.to (O2 := (fzs N__law_row)) (dst_if (dt_cmp (op_eqD hr.units) (opd_eq (by decide)) (de_var (κ := .vw) (i := 3) rfl (pv 3)) (de_int (κ := .vw)) (nomark _)) (dss_cons (DSt.to (O2 := (fzs N__law_row)) (dst_set (i := 5) sc__law_row.nd rfl (by first | exact Or.inl rfl | exact Or.inr rfl) (de_fdiv (κ := .fz) (by decide) (de_var (κ := .fz) (i := 1) rfl (pv 1)) (de_int (κ := .fz)))) rfl)
    (dss_one (dst_ret (DE.up (κ := .nw) (de_cat (DE.up (κ := .nw) (de_callB cr_sortedI ard_sorted (by rfl) T.n_sorted boot_sorted (da_cons (DE.up (κ := .nw) (de_slice (de_var (κ := .tp) (i := 4) rfl (pv 4)) (do_some (de_var (κ := .fz) (i := 5) rfl (pv 5))) do_no)) da_nil))) (DE.up (κ := .nw) (de_callB cr_sortedI ard_sorted (by rfl) T.n_sorted boot_sorted (da_cons (DE.up (κ := .nw) (de_slice (de_var (κ := .tp) (i := 4) rfl (pv 4)) do_no (do_some (de_var (κ := .fz) (i := 5) rfl (pv 5))))) da_nil)))))))) dss_nil) rfl)
    (dss_one (dst_ret (de_var (κ := .fz) (i := 4) rfl (pv 4))))))))))
theorem has__law_may (T : Tx K mg Cl)  : FnHas P w K mg base 1 "_law_may" 3 (.fz) f__law_may := by
  obtain ⟨f, fd, hm, F, hb⟩ := T.at__law_may.ex
  refine ⟨f, fd, _, hm, F.kp, hb, fn_ok F sc__law_may (κr := .fz) (b := (b__law_may)) (Oe := fzs N__law_may) (fun cdv A outer s H E hr => ?_) (sem__law_may)⟩
  exact (dss_cons (DSt.to (O2 := (fzs N__law_may)) (dst_set (i := 3) sc__law_may.nd rfl (by first | exact Or.inl rfl | exact Or.inr rfl) (de_item (de_var (κ := .tp) (i := 0) rfl (pv 0)) (de_var (κ := .fz) (i := 1) rfl (pv 1)))) rfl)
    (dss_cons (DSt.to (O2 := (fzs N__law_may)) (dst_set (i := 4) sc__law_may.nd rfl (by first | exact Or.inl rfl | exact Or.inr rfl) (de_item (de_var (κ := .tp) (i := 0) rfl (pv 0)) (de_add (κ := .fz) (by decide) (de_var (κ := .fz) (i := 1) rfl (pv 1)) (de_int (κ := .fz))))) rfl)
    (dss_cons (DSt.to (O2 := (fzs N__law_may)) (dst_set (i := 5) sc__law_may.nd rfl (by first | exact Or.inl rfl | exact Or.inr rfl) (de_item (de_var (κ := .tp) (i := 0) rfl (pv 0)) (de_add (κ := .fz) (by decide) (de_var (κ := .fz) (i := 1) rfl (pv 1)) (de_int (κ := .fz))))) rfl)
    (dss_cons (DSt.to (O2 := (fzs N__law_may)) (dst_if (dt_cmp (op_eqD hr.units) (opd_eq (by decide)) (de_var (κ := .vw) (i := 2) rfl (pv 2)) (de_int (κ := .vw)) (nomark _)) (dss_one (dst_ret (de_and (by decide) (de_cmp (κ := .fz) op_le (opd_le (by decide)) (de_callB (κ := .fz) (call_min2 rfl) (ard_min2 (by decide)) (by rfl) T.n_min boot_min (da_cons (de_var (κ := .fz) (i := 3) rfl (pv 3)) (da_cons (de_var (κ := .fz) (i := 4) rfl (pv 4)) da_nil))) (de_var (κ := .fz) (i := 5) rfl (pv 5)) (nomark _)) (de_one (de_cmp (κ := .fz) op_lt (opd_lt (by decide)) (de_var (κ := .fz) (i := 5) rfl (pv 5)) (de_callB (κ := .fz) (call_max2 rfl) (ard_max2 (by decide)) (by rfl) T.n_max boot_max (da_cons (de_var (κ := .fz) (i := 3) rfl (pv 3)) (da_cons (de_var (κ := .fz) (i := 4) rfl (pv 4)) da_nil))) (nomark _)))))) dss_nil) rfl)
    (dss_one (dst_ret (de_and (by decide) (de_cmp (κ := .fz) op_lt (opd_lt (by decide)) (de_callB (κ := .fz) (call_min2 rfl) (ard_min2 (by decide)) (by rfl) T.n_min boot_min (da_cons (de_var (κ := .fz) (i := 4) rfl (pv 4)) (da_cons (de_var (κ := .fz) (i := 5) rfl (pv 5)) da_nil))) (de_var (κ := .fz) (i := 3) rfl (pv 3)) (nomark _)) (de_one (de_cmp (κ := .fz) op_le (opd_le (by decide)) (de_var (κ := .fz) (i := 3) rfl (pv 3)) (de_callB (κ := .fz) (call_max2 rfl) (ard_max2 (by decide)) (by rfl) T.n_max boot_max (da_cons (de_var (κ := .fz) (i := 4) rfl (pv 4)) (da_cons (de_var (κ := .fz) (i := 5) rfl (pv 5)) da_nil))) (nomark _))))))))))
theorem has__law_done (T : Tx K mg Cl)  : FnHas P w K mg base 1 "_law_done" 3 (.fz) f__law_done := by
  obtain ⟨f, fd, hm, F, hb⟩ := T.at__law_done.ex
  refine ⟨f, fd, _, hm, F.kp, hb, fn_ok F sc__law_done (κr := .fz) (b := (b__law_done)) (Oe := fzs N__law_done) (fun cdv A outer s H E hr => ?_) (sem__law_done)⟩
  exact (dss_cons (DSt.to (O2 := (fzs N__law_done)) (dst_set (i := 3) sc__law_done.nd rfl (by first | exact Or.inl rfl | exact Or.inr rfl) (de_add (κ := .fz) (by decide) (de_var (κ := .fz) (i := 1) rfl (pv 1)) (de_var (κ := .fz) (i := 2) rfl (pv 2)))) rfl)
    (dss_one (dst_ret (DE.up (κ := .nw) (de_cat (DE.up (κ := .nw) (de_cat (DE.up (κ := .nw) (de_slice (de_var (κ := .tp) (i := 0) rfl (pv 0)) do_no (do_some (de_var (κ := .fz) (i := 3) rfl (pv 3))))) (DE.up (κ := .nw) (de_lst (da_cons (de_item (de_var (κ := .tp) (i := 0) rfl (pv 0)) (de_add (κ := .fz) (by decide) (de_var (κ := .fz) (i := 3) rfl (pv 3)) (de_int (κ := .fz)))) (da_cons (de_item (de_var (κ := .tp) (i := 0) rfl (pv 0)) (de_var (κ := .fz) (i := 3) rfl (pv 3))) da_nil)))))) (DE.up (κ := .nw) (de_slice (de_var (κ := .tp) (i := 0) rfl (pv 0)) (do_some (de_add (κ := .fz) (by decide) (de_var (κ := .fz) (i := 3) rfl (pv 3)) (de_int (κ := .fz)))) do_no)))))))
theorem has__law_led (T : Tx K mg Cl) (h__law_draw : FnHas P w K mg base 1 "_law_draw" 2 (.fz) f_draw) (h__law_may : FnHas P w K mg base 1 "_law_may" 3 (.fz) f__law_may) (h__law_done : FnHas P w K mg base 1 "_law_done" 3 (.fz) f__law_done) : FnHas P w K mg base 2 "_law_led" 3 (.fz) f__law_led := by
  obtain ⟨f, fd, hm, F, hb⟩ := T.at__law_led.ex
  refine ⟨f, fd, _, hm, F.kp, hb, fn_ok F sc__law_led (κr := .fz) (b := (b__law_led)) (Oe := fzs N__law_led) (fun cdv A outer s H E hr => ?_) (sem__law_led)⟩
  exact (dss_cons (DSt.to (O2 := (fzs N__law_led)) (dst_set (i := 3) sc__law_led.nd rfl (by first | exact Or.inl rfl | exact Or.inr rfl) (DE.up (κ := .nw) (de_callTy call_list_of ard_list (by rfl) T.n_list boot_list (da_cons (de_var (κ := .tp) (i := 1) rfl (pv 1)) da_nil)))) rfl)
    (dss_cons (DSt.to (O2 := (fzs N__law_led)) (dst_for PassesOwn.never rfl (di_range1 (by rfl) T.n_range (da_cons (de_var (κ := .fz) (i := 2) rfl (pv 2)) da_nil)) (T := (.one 4)) (pg_name (i := 4) sc__law_led.nd rfl (by first | exact Or.inl rfl | exact Or.inr rfl)) (DSs.frm (O1 := (fzs N__law_led)) (dss_one (DSt.to (O2 := (fzs N__law_led)) (dst_if (dt_cmp op_gt (opd_gt (by decide)) (de_len (κ := .fz) (by decide) (by rfl) T.n_len (de_var (κ := .vw) (i := 3) rfl (pv 3))) (de_int (κ := .fz)) (nomark _)) (dss_cons (DSt.to (O2 := (fzs N__law_led)) (dst_set (i := 5) sc__law_led.nd rfl (by first | exact Or.inl rfl | exact Or.inr rfl) (de_callH h__law_draw m_f_draw (by first | decide | exact Nat.le_refl _) hr (by rfl) (da_cons (de_var (κ := .fz) (i := 0) rfl (pv 0)) (da_cons (de_sub (κ := .fz) (by decide) (de_len (κ := .fz) (by decide) (by rfl) T.n_len (de_var (κ := .vw) (i := 3) rfl (pv 3))) (de_int (κ := .fz))) da_nil)))) rfl)
    (dss_cons (DSt.to (O2 := (fzs N__law_led)) (dst_set (i := 6) sc__law_led.nd rfl (by first | exact Or.inl rfl | exact Or.inr rfl) (de_callH h__law_draw m_f_draw (by first | decide | exact Nat.le_refl _) hr (by rfl) (da_cons (de_var (κ := .fz) (i := 0) rfl (pv 0)) (da_cons (de_int (κ := .fz)) da_nil)))) rfl)
    (dss_one (DSt.to (O2 := (fzs N__law_led)) (dst_if (dt_val (de_callH h__law_may m_f__law_may (by first | decide | exact Nat.le_refl _) hr (by rfl) (da_cons (de_var (κ := .fz) (i := 3) rfl (pv 3)) (da_cons (de_var (κ := .fz) (i := 5) rfl (pv 5)) (da_cons (de_var (κ := .fz) (i := 6) rfl (pv 6)) da_nil))))) (dss_one (DSt.to (O2 := (fzs N__law_led)) (dst_set (i := 3) sc__law_led.nd rfl (by first | exact Or.inl rfl | exact Or.inr rfl) (de_callH h__law_done m_f__law_done (by first | decide | exact Nat.le_refl _) hr (by rfl) (da_cons (de_var (κ := .fz) (i := 3) rfl (pv 3)) (da_cons (de_var (κ := .fz) (i := 5) rfl (pv 5)) (da_cons (de_var (κ := .fz) (i := 6) rfl (pv 6)) da_nil))))) rfl)) dss_nil) rfl)))) dss_nil) rfl)) rfl)) rfl)
    (dss_one (dst_ret (de_var (κ := .fz) (i := 3) rfl (pv 3))))))
theorem has__law_cut (T : Tx K mg Cl) (h__law_draw : FnHas P w K mg base 1 "_law_draw" 2 (.fz) f_draw) : FnHas P w K mg base 2 "_law_cut" 2 (.fz) f__law_cut := by
  obtain ⟨f, fd, hm, F, hb⟩ := T.at__law_cut.ex
  refine ⟨f, fd, _, hm, F.kp, hb, fn_ok F sc__law_cut (κr := .fz) (b := (b__law_cut)) (Oe := fzs N__law_cut) (fun cdv A outer s H E hr => ?_) (sem__law_cut)⟩
  exact (dss_cons (DSt.to (O2 := [.fz, .fz, .nw, .fz, .fz, .fz, .fz]) (dst_setO (i := 2) sc__law_cut.nd rfl (by first | exact Or.inl rfl | exact Or.inr rfl) (de_lst da_nil)) rfl)
    (dss_cons (DSt.to (O2 := [.fz, .fz, .nw, .fz, .fz, .fz, .fz]) (dst_set (i := 3) sc__law_cut.nd rfl (by first | exact Or.inl rfl | exact Or.inr rfl) (de_int (κ := .fz))) rfl)
    (dss_cons (DSt.to (O2 := [.fz, .fz, .nw, .fz, .fz, .fz, .fz]) (dst_set (i := 4) sc__law_cut.nd rfl (by first | exact Or.inl rfl | exact Or.inr rfl) (de_callH h__law_draw m_f_draw (by first | decide | exact Nat.le_refl _) hr (by rfl) (da_cons (de_var (κ := .fz) (i := 0) rfl (pv 0)) (da_cons (de_int (κ := .fz)) da_nil)))) rfl)
    (dss_cons (DSt.to (O2 := [.fz, .fz, .nw, .fz, .fz, .fz, .fz]) (dst_for PassesOwn.never rfl (di_range1 (by rfl) T.n_range (da_cons (de_var (κ := .fz) (i := 4) rfl (pv 4)) da_nil)) (T := (.one 5)) (pg_name (i := 5) sc__law_cut.nd rfl (by first | exact Or.inl rfl | exact Or.inr rfl)) (DSs.frm (O1 := [.fz, .fz, .nw, .fz, .fz, .fz, .fz]) (dss_cons (DSt.to (O2 := [.fz, .fz, .nw, .fz, .fz, .fz, .fz]) (dst_set (i := 6) sc__law_cut.nd rfl (by first | exact Or.inl rfl | exact Or.inr rfl) (de_add (κ := .fz) (by decide) (de_var (κ := .fz) (i := 3) rfl (pv 3)) (de_callH h__law_draw m_f_draw (by first | decide | exact Nat.le_refl _) hr (by rfl) (da_cons (de_var (κ := .fz) (i := 0) rfl (pv 0)) (da_cons (de_add (κ := .fz) (by decide) (de_sub (κ := .fz) (by decide) (de_len (κ := .fz) (by decide) (by rfl) T.n_len (de_var (κ := .vw) (i := 1) rfl (pv 1))) (de_var (κ := .fz) (i := 3) rfl (pv 3))) (de_int (κ := .fz))) da_nil))))) rfl)
    (dss_cons (DSt.to (O2 := [.fz, .fz, .nw, .fz, .fz, .fz, .fz]) (dst_if (dt_cmp (op_eqD hr.units) (opd_eq (by decide)) (de_var (κ := .vw) (i := 5) rfl (pv 5)) (de_sub (κ := .vw) (by decide) (de_var (κ := .fz) (i := 4) rfl (pv 4)) (de_int (κ := .fz))) (nomark _)) (dss_one (DSt.to (O2 := [.fz, .fz, .nw, .fz, .fz, .fz, .fz]) (dst_set (i := 6) sc__law_cut.nd rfl (by first | exact Or.inl rfl | exact Or.inr rfl) (de_len (κ := .fz) (by decide) (by rfl) T.n_len (de_var (κ := .vw) (i := 1) rfl (pv 1)))) rfl)) dss_nil) rfl)
    (dss_cons (DSt.to (O2 := [.fz, .fz, .nw, .fz, .fz, .fz, .fz]) (dst_append (i := 2) (pv 2) rfl (DE.up (κ := .nw) (de_slice (de_var (κ := .tp) (i := 1) rfl (pv 1)) (do_some (de_var (κ := .fz) (i := 3) rfl (pv 3))) (do_some (de_var (κ := .fz) (i := 6) rfl (pv 6)))))) rfl)
    (dss_one (DSt.to (O2 := [.fz, .fz, .nw, .fz, .fz, .fz, .fz]) (dst_set (i := 3) sc__law_cut.nd rfl (by first | exact Or.inl rfl | exact Or.inr rfl) (de_var (κ := .fz) (i := 6) rfl (pv 6))) rfl))))) rfl)) rfl)
    (dss_fzT 2 (O1 := (fzs N__law_cut)) rfl (dss_one (dst_ret (de_var (κ := .fz) (i := 2) rfl (pv 2)))))))))
theorem has__law_whole (T : Tx K mg Cl)  : FnHas P w K mg base 1 "_law_whole" 1 (.fz) f__law_whole := by
  obtain ⟨f, fd, hm, F, hb⟩ := T.at__law_whole.ex
  refine ⟨f, fd, _, hm, F.kp, hb, fn_ok F sc__law_whole (κr := .fz) (b := (b__law_whole)) (Oe := fzs N__law_whole) (fun cdv A outer s H E hr => ?_) (sem__law_whole)⟩
  exact (dss_cons (DSt.to (O2 := (fzs N__law_whole)) (dst_set (i := 1) sc__law_whole.nd rfl (by first | exact Or.inl rfl | exact Or.inr rfl) (DE.up (κ := .nw) (de_lst da_nil))) rfl)
    (dss_cons (DSt.to (O2 := (fzs N__law_whole)) (dst_for PassesOwn.never rfl (di_list (de_var (κ := .fz) (i := 0) rfl (pv 0))) (T := (.one 2)) (pg_name (i := 2) sc__law_whole.nd rfl (by first | exact Or.inl rfl | exact Or.inr rfl)) (DSs.frm (O1 := (fzs N__law_whole)) (dss_one (DSt.to (O2 := (fzs N__law_whole)) (dst_set (i := 1) sc__law_whole.nd rfl (by first | exact Or.inl rfl | exact Or.inr rfl) (DE.up (κ := .nw) (de_cat (de_var (κ := .tp) (i := 1) rfl (pv 1)) (de_var (κ := .tp) (i := 2) rfl (pv 2))))) rfl)) rfl)) rfl)
    (dss_one (dst_ret (de_var (κ := .fz) (i := 1) rfl (pv 1))))))
theorem has__law_told (T : Tx K mg Cl) (h__law_copy : FnHas P w K mg base 1 "_law_copy" 1 (.fz) f__law_copy) (h_shelves_of_words : FnHasX P w K mg base Cl 5 "shelves_of_words" 1 (.fz) f_shelves_of_words) (h__law_same : FnHas P w K mg base 9 "_law_same" 2 (.fz) (f_same 8)) : FnHas P w K mg base 10 "_law_told" 1 (.fz) f__law_told := by
  obtain ⟨f, fd, hm, F, hb⟩ := T.at__law_told.ex
  obtain ⟨cx_BadRow, g_BadRow, k_BadRow⟩ := T.xi_BadRow
  obtain ⟨cx_TooMany, g_TooMany, k_TooMany⟩ := T.xi_TooMany
  obtain ⟨cc_ShelfError, g_ShelfError, k_ShelfError⟩ := T.xc_ShelfError
  refine ⟨f, fd, _, hm, F.kp, hb, fn_ok F sc__law_told (κr := .fz) (b := (b__law_told Cl)) (Oe := fzs N__law_told) (fun cdv A outer s H E hr => ?_) (sem__law_told Cl)⟩
  exact (dss_cons (DSt.to (O2 := (fzs N__law_told)) (dst_set (i := 1) sc__law_told.nd rfl (by first | exact Or.inl rfl | exact Or.inr rfl) (de_callH h__law_copy m_f__law_copy (by first | decide | exact Nat.le_refl _) hr (by rfl) (da_cons (de_var (κ := .fz) (i := 0) rfl (pv 0)) da_nil))) rfl)
    (dss_cons (DSt.to (O2 := (fzs N__law_told)) (dst_set (i := 2) sc__law_told.nd rfl (by first | exact Or.inl rfl | exact Or.inr rfl) (DE.up (κ := .nw) (de_tup (da_cons (de_str (κ := .fz)) (da_cons (de_int (κ := .fz)) da_nil))))) rfl)
    (dss_cons (DSt.to (O2 := (fzs N__law_told)) (dst_try (i := 2) (ie := 3) (κt := .fz) (Cl := Cl) rfl rfl sc__law_told.nd rfl rfl ⟨by rfl, by decide, Or.inl g_ShelfError⟩ rfl rfl (by decide) k_ShelfError (fun W pn xe tk => (deX_up (κ := .nw) (deX_tup (daX_cons (deX_of (de_str (κ := .fz))) (daX_cons (deX_callX h_shelves_of_words m_f_shelves_of_words (by first | decide | exact Nat.le_refl _) hr (fun σ => passAt tk σ) (by rfl) (da_cons (de_var (κ := .fz) (i := 1) rfl (pv 1)) da_nil) rfl) daX_nil))))) (fun te pn xe h => ps_set (i := 2) sc__law_told.nd rfl (by first | exact Or.inl rfl | exact Or.inr rfl) h) (fun c C hC a dd oe pn hz hf => (dss_cons (DSt.to (O2 := (fzs N__law_told)) (dst_set (i := 2) sc__law_told.nd rfl (by first | exact Or.inl rfl | exact Or.inr rfl) (DE.up (κ := .nw) (de_tup (da_cons (de_str (κ := .fz)) (da_cons (de_int (κ := .fz)) da_nil))))) rfl)
    (dss_one (DSt.to (O2 := (fzs N__law_told)) (dst_if (DW.dt (dw_and (dt_val (de_isE (κ := .fz) (by decide) (T.xd c C hC).1 hz hf rfl (pv 3) (pe_glob (v := .ref cx_TooMany) (by rfl) g_TooMany rfl) (fun _ h => h) (k_TooMany c C hC) (by rfl) T.n_isinstance)) (dw_and (dt_val (de_isE (κ := .fz) (by decide) (T.xd c C hC).1 hz hf rfl (pv 3) (pe_bltn (v := .ty "ValueError") (by rfl) T.xi_ValueError.1 (by first | exact PyProof.Rows.Boot.«ValueError» | exact boot_ValueError) rfl (by decide) (by decide)) (fun _ h => h) (T.xi_ValueError.2 c C hC) (by rfl) T.n_isinstance)) (dw_and1 (dt_not (dt_val (de_isE (κ := .fz) (by decide) (T.xd c C hC).1 hz hf rfl (pv 3) (pe_glob (v := .ref cx_BadRow) (by rfl) g_BadRow rfl) (fun _ h => h) (k_BadRow c C hC) (by rfl) T.n_isinstance))))))) (dss_one (DSt.to (O2 := (fzs N__law_told)) (dst_set (i := 2) sc__law_told.nd rfl (by first | exact Or.inl rfl | exact Or.inr rfl) (DE.up (κ := .nw) (de_tup (da_cons (de_str (κ := .fz)) (da_cons (de_fld (κ := .fz) (by decide) (T.xd c C hC).2 (T.xh_limit c C hC) hz hf rfl (pv 3)) da_nil))))) rfl)) dss_nil) rfl))))) rfl)
    (dss_cons (DSt.to (O2 := (fzs N__law_told)) (dst_if (dt_not (dt_val (de_callH h__law_same m_f_same (by first | decide | exact Nat.le_refl _) hr (by rfl) (da_cons (de_var (κ := .fz) (i := 1) rfl (pv 1)) (da_cons (de_var (κ := .fz) (i := 0) rfl (pv 0)) da_nil))))) (dss_one (dst_ret (DE.up (κ := .nw) (de_tup (da_cons (de_str (κ := .fz)) (da_cons (de_int (κ := .fz)) da_nil)))))) dss_nil) rfl)
    (dss_one (dst_ret (de_var (κ := .fz) (i := 2) rfl (pv 2))))))))
theorem has__law_alike (T : Tx K mg Cl) (h__law_fill : FnHas P w K mg base 2 "_law_fill" 1 (.dp 2) f__law_fill) : FnHas P w K mg base 3 "_law_alike" 2 (.fz) f__law_alike := by
  obtain ⟨f, fd, hm, F, hb⟩ := T.at__law_alike.ex
  refine ⟨f, fd, _, hm, F.kp, hb, fn_ok F sc__law_alike (κr := .fz) (b := (b__law_alike)) (Oe := fzs N__law_alike) (fun cdv A outer s H E hr => ?_) (sem__law_alike)⟩
  exact (dss_cons (DSt.to (O2 := (fzs N__law_alike)) (dst_for PassesOwn.never rfl (di_range1 (by rfl) T.n_range (da_cons (de_callB (κ := .fz) (call_min2 rfl) (ard_min2 (by decide)) (by rfl) T.n_min boot_min (da_cons (de_len (κ := .fz) (by decide) (by rfl) T.n_len (de_var (κ := .vw) (i := 0) rfl (pv 0))) (da_cons (de_len (κ := .fz) (by decide) (by rfl) T.n_len (de_var (κ := .vw) (i := 1) rfl (pv 1))) da_nil))) da_nil)) (T := (.one 2)) (pg_name (i := 2) sc__law_alike.nd rfl (by first | exact Or.inl rfl | exact Or.inr rfl)) (DSs.frm (O1 := (fzs N__law_alike)) (dss_one (DSt.to (O2 := (fzs N__law_alike)) (dst_if (dt_cmp (op_neD hr.units) (opd_ne (by decide)) (DE.up (κ := .dp 2) (de_callH h__law_fill m_f__law_fill (by first | decide | exact Nat.le_refl _) hr (by rfl) (da_cons (de_item (de_var (κ := .tp) (i := 0) rfl (pv 0)) (de_var (κ := .fz) (i := 2) rfl (pv 2))) da_nil))) (DE.up (κ := .dp 2) (de_callH h__law_fill m_f__law_fill (by first | decide | exact Nat.le_refl _) hr (by rfl) (da_cons (de_item (de_var (κ := .tp) (i := 1) rfl (pv 1)) (de_var (κ := .fz) (i := 2) rfl (pv 2))) da_nil))) (nomark _)) (dss_one (dst_ret (DE.up (κ := .nw) (de_tup (da_cons (de_str (κ := .fz)) (da_cons (de_var (κ := .fz) (i := 2) rfl (pv 2)) da_nil)))))) dss_nil) rfl)) rfl)) rfl)
    (dss_cons (DSt.to (O2 := (fzs N__law_alike)) (dst_if (dt_cmp (op_neD hr.units) (opd_ne (by decide)) (de_len (κ := .vw) (by decide) (by rfl) T.n_len (de_var (κ := .vw) (i := 0) rfl (pv 0))) (de_len (κ := .vw) (by decide) (by rfl) T.n_len (de_var (κ := .vw) (i := 1) rfl (pv 1))) (nomark _)) (dss_one (dst_ret (DE.up (κ := .nw) (de_tup (da_cons (de_str (κ := .fz)) (da_cons (de_callB (κ := .fz) (call_min2 rfl) (ard_min2 (by decide)) (by rfl) T.n_min boot_min (da_cons (de_len (κ := .fz) (by decide) (by rfl) T.n_len (de_var (κ := .vw) (i := 0) rfl (pv 0))) (da_cons (de_len (κ := .fz) (by decide) (by rfl) T.n_len (de_var (κ := .vw) (i := 1) rfl (pv 1))) da_nil))) da_nil)))))) dss_nil) rfl)
    (dss_one (dst_ret (DE.up (κ := .nw) (de_tup (da_cons (de_str (κ := .fz)) da_nil)))))))
theorem has__law_compared (T : Tx K mg Cl) (h__law_copy : FnHas P w K mg base 1 "_law_copy" 1 (.fz) f__law_copy) (h_same_together : FnHas P w K mg base 5 "same_together" 2 (.fz) f_same_together) (h__law_same : FnHas P w K mg base 9 "_law_same" 2 (.fz) (f_same 8)) (h__law_alike : FnHas P w K mg base 3 "_law_alike" 2 (.fz) f__law_alike) : FnHas P w K mg base 10 "_law_compared" 2 (.fz) f__law_compared := by
  obtain ⟨f, fd, hm, F, hb⟩ := T.at__law_compared.ex
  refine ⟨f, fd, _, hm, F.kp, hb, fn_ok F sc__law_compared (κr := .fz) (b := (b__law_compared)) (Oe := fzs N__law_compared) (fun cdv A outer s H E hr => ?_) (sem__law_compared)⟩
  exact (dss_cons (DSt.to (O2 := (fzs N__law_compared)) (dst_set (i := 2) sc__law_compared.nd rfl (by first | exact Or.inl rfl | exact Or.inr rfl) (de_callH h__law_copy m_f__law_copy (by first | decide | exact Nat.le_refl _) hr (by rfl) (da_cons (de_var (κ := .fz) (i := 0) rfl (pv 0)) da_nil))) rfl)
    (dss_cons (DSt.to (O2 := (fzs N__law_compared)) (dst_set (i := 3) sc__law_compared.nd rfl (by first | exact Or.inl rfl | exact Or.inr rfl) (de_callH h__law_copy m_f__law_copy (by first | decide | exact Nat.le_refl _) hr (by rfl) (da_cons (de_var (κ := .fz) (i := 1) rfl (pv 1)) da_nil))) rfl)
    (dss_cons (DSt.to (O2 := (fzs N__law_compared)) (dst_set (i := 4) sc__law_compared.nd rfl (by first | exact Or.inl rfl | exact Or.inr rfl) (de_callH h_same_together m_f_same_together (by first | decide | exact Nat.le_refl _) hr (by rfl) (da_cons (de_var (κ := .fz) (i := 2) rfl (pv 2)) (da_cons (de_var (κ := .fz) (i := 3) rfl (pv 3)) da_nil)))) rfl)
    (dss_one (dst_ret (de_and (by decide) (de_callH h__law_same m_f_same (by first | decide | exact Nat.le_refl _) hr (by rfl) (da_cons (de_var (κ := .fz) (i := 4) rfl (pv 4)) (da_cons (de_callH h__law_alike m_f__law_alike (by first | decide | exact Nat.le_refl _) hr (by rfl) (da_cons (de_var (κ := .fz) (i := 0) rfl (pv 0)) (da_cons (de_var (κ := .fz) (i := 1) rfl (pv 1)) da_nil))) da_nil))) (de_and (by decide) (de_callH h__law_same m_f_same (by first | decide | exact Nat.le_refl _) hr (by rfl) (da_cons (de_var (κ := .fz) (i := 2) rfl (pv 2)) (da_cons (de_var (κ := .fz) (i := 0) rfl (pv 0)) da_nil))) (de_one (de_callH h__law_same m_f_same (by first | decide | exact Nat.le_refl _) hr (by rfl) (da_cons (de_var (κ := .fz) (i := 3) rfl (pv 3)) (da_cons (de_var (κ := .fz) (i := 1) rfl (pv 1)) da_nil)))))))))))
theorem has__law_others (T : Tx K mg Cl) (h__law_draw : FnHas P w K mg base 1 "_law_draw" 2 (.fz) f_draw) : FnHas P w K mg base 2 "_law_others" 2 (.fz) f__law_others := by
  obtain ⟨f, fd, hm, F, hb⟩ := T.at__law_others.ex
  refine ⟨f, fd, _, hm, F.kp, hb, fn_ok F sc__law_others (κr := .fz) (b := (b__law_others)) (Oe := fzs N__law_others) (fun cdv A outer s H E hr => ?_) (sem__law_others)⟩
  exact (dss_cons (DSt.to (O2 := [.fz, .fz, .nw, .fz, .fz, .fz, .fz]) (dst_setO (i := 2) sc__law_others.nd rfl (by first | exact Or.inl rfl | exact Or.inr rfl) (de_lst (da_cons (DE.up (κ := .nw) (de_slice (de_var (κ := .tp) (i := 1) rfl (pv 1)) do_no (do_some (de_sub (κ := .fz) (by decide) (de_len (κ := .fz) (by decide) (by rfl) T.n_len (de_var (κ := .vw) (i := 1) rfl (pv 1))) (de_int (κ := .fz)))))) (da_cons (DE.up (κ := .nw) (de_cat (de_var (κ := .tp) (i := 1) rfl (pv 1)) (DE.up (κ := .nw) (de_lst (da_cons (DE.up (κ := .nw) (de_lst da_nil)) da_nil))))) (da_cons (DE.up (κ := .nw) (de_cat (DE.up (κ := .nw) (de_lst (da_cons (DE.up (κ := .nw) (de_lst da_nil)) da_nil))) (de_var (κ := .tp) (i := 1) rfl (pv 1)))) da_nil))))) rfl)
    (dss_cons (DSt.to (O2 := [.fz, .fz, .nw, .fz, .fz, .fz, .fz]) (dst_if (dt_not (dt_tru (de_var (κ := .vw) (i := 1) rfl (pv 1)))) (dss_fzT 2 (O1 := (fzs N__law_others)) rfl (dss_one (dst_ret (de_var (κ := .fz) (i := 2) rfl (pv 2))))) dss_nil) rfl)
    (dss_cons (DSt.to (O2 := [.fz, .fz, .nw, .fz, .fz, .fz, .fz]) (dst_set (i := 3) sc__law_others.nd rfl (by first | exact Or.inl rfl | exact Or.inr rfl) (de_callH h__law_draw m_f_draw (by first | decide | exact Nat.le_refl _) hr (by rfl) (da_cons (de_var (κ := .fz) (i := 0) rfl (pv 0)) (da_cons (de_len (κ := .fz) (by decide) (by rfl) T.n_len (de_var (κ := .vw) (i := 1) rfl (pv 1))) da_nil)))) rfl)
    (dss_cons (DSt.to (O2 := [.fz, .fz, .nw, .fz, .nw, .fz, .fz]) (dst_setO (i := 4) sc__law_others.nd rfl (by first | exact Or.inl rfl | exact Or.inr rfl) (de_callTy call_list_of ard_list (by rfl) T.n_list boot_list (da_cons (DE.up (κ := .fz) (de_item (de_var (κ := .tp) (i := 1) rfl (pv 1)) (de_var (κ := .fz) (i := 3) rfl (pv 3)))) da_nil))) rfl)
    (dss_cons (DSt.to (O2 := [.fz, .fz, .nw, .fz, .nw, .fz, .fz]) (dst_if (dt_tru (de_var (κ := .vw) (i := 4) rfl (pv 4))) (dss_one (DSt.to (O2 := [.fz, .fz, .nw, .fz, .nw, .fz, .fz]) (dst_put (i := 4) (pv 4) rfl (de_callH h__law_draw m_f_draw (by first | decide | exact Nat.le_refl _) hr (by rfl) (da_cons (de_var (κ := .fz) (i := 0) rfl (pv 0)) (da_cons (de_len (κ := .fz) (by decide) (by rfl) T.n_len (de_var (κ := .vw) (i := 4) rfl (pv 4))) da_nil))) (de_add (κ := .fz) (by decide) (de_int (κ := .fz)) (de_callH h__law_draw m_f_draw (by first | decide | exact Nat.le_refl _) hr (by rfl) (da_cons (de_var (κ := .fz) (i := 0) rfl (pv 0)) (da_cons (de_int (κ := .fz)) da_nil))))) rfl)) dss_nil) rfl)
    (dss_fzT 4 (O1 := [.fz, .fz, .nw, .fz, .fz, .fz, .fz]) rfl (dss_cons (DSt.to (O2 := [.fz, .fz, .nw, .fz, .fz, .fz, .fz]) (dst_append (i := 2) (pv 2) rfl (DE.up (κ := .nw) (de_cat (DE.up (κ := .nw) (de_cat (DE.up (κ := .nw) (de_slice (de_var (κ := .tp) (i := 1) rfl (pv 1)) do_no (do_some (de_var (κ := .fz) (i := 3) rfl (pv 3))))) (DE.up (κ := .nw) (de_lst (da_cons (de_var (κ := .fz) (i := 4) rfl (pv 4)) da_nil))))) (DE.up (κ := .nw) (de_slice (de_var (κ := .tp) (i := 1) rfl (pv 1)) (do_some (de_add (κ := .fz) (by decide) (de_var (κ := .fz) (i := 3) rfl (pv 3)) (de_int (κ := .fz)))) do_no))))) rfl)
    (dss_cons (DSt.to (O2 := [.fz, .fz, .nw, .fz, .fz, .fz, .fz]) (dst_append (i := 2) (pv 2) rfl (DE.up (κ := .nw) (de_cat (DE.up (κ := .nw) (de_cat (DE.up (κ := .nw) (de_cat (DE.up (κ := .nw) (de_slice (de_var (κ := .tp) (i := 1) rfl (pv 1)) do_no (do_some (de_var (κ := .fz) (i := 3) rfl (pv 3))))) (DE.up (κ := .nw) (de_lst (da_cons (de_var (κ := .fz) (i := 4) rfl (pv 4)) da_nil))))) (DE.up (κ := .nw) (de_slice (de_var (κ := .tp) (i := 1) rfl (pv 1)) (do_some (de_add (κ := .fz) (by decide) (de_var (κ := .fz) (i := 3) rfl (pv 3)) (de_int (κ := .fz)))) do_no)))) (DE.up (κ := .nw) (de_lst (da_cons (DE.up (κ := .nw) (de_lst da_nil)) da_nil)))))) rfl)
    (dss_cons (DSt.to (O2 := [.fz, .fz, .nw, .fz, .fz, .fz, .fz]) (dst_append (i := 2) (pv 2) rfl (DE.up (κ := .nw) (de_cat (DE.up (κ := .nw) (de_cat (DE.up (κ := .nw) (de_slice (de_var (κ := .tp) (i := 1) rfl (pv 1)) do_no (do_some (de_var (κ := .fz) (i := 3) rfl (pv 3))))) (DE.up (κ := .nw) (de_lst (da_cons (de_var (κ := .fz) (i := 4) rfl (pv 4)) da_nil))))) (DE.up (κ := .nw) (de_slice (de_var (κ := .tp) (i := 1) rfl (pv 1)) (do_some (de_add (κ := .fz) (by decide) (de_var (κ := .fz) (i := 3) rfl (pv 3)) (de_int (κ := .fz)))) (do_some (de_sub (κ := .fz) (by decide) (de_len (κ := .fz) (by decide) (by rfl) T.n_len (de_var (κ := .vw) (i := 1) rfl (pv 1))) (de_int (κ := .fz))))))))) rfl)
    (dss_cons (DSt.to (O2 := [.fz, .fz, .nw, .fz, .fz, .fz, .fz]) (dst_if (dt_cmp op_gt (opd_gt (by decide)) (de_var (κ := .fz) (i := 3) rfl (pv 3)) (de_int (κ := .fz)) (nomark _)) (dss_cons (DSt.to (O2 := [.fz, .fz, .nw, .fz, .fz, .fz, .fz]) (dst_set (i := 5) sc__law_others.nd rfl (by first | exact Or.inl rfl | exact Or.inr rfl) (DE.up (κ := .nw) (de_cat (DE.up (κ := .fz) (de_item (de_var (κ := .tp) (i := 1) rfl (pv 1)) (de_sub (κ := .fz) (by decide) (de_var (κ := .fz) (i := 3) rfl (pv 3)) (de_int (κ := .fz))))) (DE.up (κ := .fz) (de_item (de_var (κ := .tp) (i := 1) rfl (pv 1)) (de_var (κ := .fz) (i := 3) rfl (pv 3))))))) rfl)
    (dss_cons (DSt.to (O2 := [.fz, .fz, .nw, .fz, .fz, .fz, .fz]) (dst_set (i := 6) sc__law_others.nd rfl (by first | exact Or.inl rfl | exact Or.inr rfl) (de_callH h__law_draw m_f_draw (by first | decide | exact Nat.le_refl _) hr (by rfl) (da_cons (de_var (κ := .fz) (i := 0) rfl (pv 0)) (da_cons (de_add (κ := .fz) (by decide) (de_len (κ := .fz) (by decide) (by rfl) T.n_len (de_var (κ := .vw) (i := 5) rfl (pv 5))) (de_int (κ := .fz))) da_nil)))) rfl)
    (dss_one (DSt.to (O2 := [.fz, .fz, .nw, .fz, .fz, .fz, .fz]) (dst_append (i := 2) (pv 2) rfl (DE.up (κ := .nw) (de_cat (DE.up (κ := .nw) (de_cat (DE.up (κ := .nw) (de_slice (de_var (κ := .tp) (i := 1) rfl (pv 1)) do_no (do_some (de_sub (κ := .fz) (by decide) (de_var (κ := .fz) (i := 3) rfl (pv 3)) (de_int (κ := .fz)))))) (DE.up (κ := .nw) (de_lst (da_cons (DE.up (κ := .nw) (de_slice (de_var (κ := .tp) (i := 5) rfl (pv 5)) do_no (do_some (de_var (κ := .fz) (i := 6) rfl (pv 6))))) (da_cons (DE.up (κ := .nw) (de_slice (de_var (κ := .tp) (i := 5) rfl (pv 5)) (do_some (de_var (κ := .fz) (i := 6) rfl (pv 6))) do_no)) da_nil)))))) (DE.up (κ := .nw) (de_slice (de_var (κ := .tp) (i := 1) rfl (pv 1)) (do_some (de_add (κ := .fz) (by decide) (de_var (κ := .fz) (i := 3) rfl (pv 3)) (de_int (κ := .fz)))) do_no))))) rfl)))) dss_nil) rfl)
    (dss_fzT 2 (O1 := (fzs N__law_others)) rfl (dss_one (dst_ret (de_var (κ := .fz) (i := 2) rfl (pv 2)))))))))))))))
theorem has__law_parts (T : Tx K mg Cl) (h__law_copy : FnHas P w K mg base 1 "_law_copy" 1 (.fz) f__law_copy) (h__law_fill : FnHas P w K mg base 2 "_law_fill" 1 (.dp 2) f__law_fill) (h__law_same : FnHas P w K mg base 9 "_law_same" 2 (.fz) (f_same 8)) (h_left_from : FnHas P w K mg base 5 "left_from" 2 (.fz) f_left_from) (h_parts_that_fill : FnHas P w K mg base 5 "parts_that_fill" 2 (.fz) f_parts_that_fill) : FnHas P w K mg base 10 "_law_parts" 2 (.fz) f__law_parts := by
  obtain ⟨f, fd, hm, F, hb⟩ := T.at__law_parts.ex
  refine ⟨f, fd, _, hm, F.kp, hb, fn_ok F sc__law_parts (κr := .fz) (b := (b__law_parts)) (Oe := fzs N__law_parts) (fun cdv A outer s H E hr => ?_) (sem__law_parts)⟩
  exact (dss_cons (DSt.to (O2 := (fzs N__law_parts)) (dst_set (i := 2) sc__law_parts.nd rfl (by first | exact Or.inl rfl | exact Or.inr rfl) (DE.up (κ := .nw) (de_callTy call_list_of ard_list (by rfl) T.n_list boot_list (da_cons (de_var (κ := .tp) (i := 0) rfl (pv 0)) da_nil)))) rfl)
    (dss_cons (DSt.to (O2 := (fzs N__law_parts)) (dst_set (i := 3) sc__law_parts.nd rfl (by first | exact Or.inl rfl | exact Or.inr rfl) (de_callH h__law_copy m_f__law_copy (by first | decide | exact Nat.le_refl _) hr (by rfl) (da_cons (de_var (κ := .fz) (i := 1) rfl (pv 1)) da_nil))) rfl)
    (dss_cons (DSt.to (O2 := [.fz, .fz, .fz, .fz, .nw, .fz, .fz, .fz]) (dst_setO (i := 4) sc__law_parts.nd rfl (by first | exact Or.inl rfl | exact Or.inr rfl) (de_lst da_nil)) rfl)
    (dss_cons (DSt.to (O2 := [.fz, .fz, .fz, .fz, .nw, .fz, .fz, .fz]) (dst_set (i := 5) sc__law_parts.nd rfl (by first | exact Or.inl rfl | exact Or.inr rfl) (DE.up (κ := .nw) (de_lst da_nil))) rfl)
    (dss_cons (DSt.to (O2 := [.fz, .fz, .fz, .fz, .nw, .fz, .fz, .fz]) (dst_for PassesOwn.never rfl (di_range1 (by rfl) T.n_range (da_cons (de_add (κ := .fz) (by decide) (de_len (κ := .fz) (by decide) (by rfl) T.n_len (de_var (κ := .vw) (i := 0) rfl (pv 0))) (de_int (κ := .fz))) da_nil)) (T := (.one 6)) (pg_name (i := 6) sc__law_parts.nd rfl (by first | exact Or.inl rfl | exact Or.inr rfl)) (DSs.frm (O1 := [.fz, .fz, .fz, .fz, .nw, .fz, .fz, .fz]) (dss_cons (DSt.to (O2 := [.fz, .fz, .fz, .fz, .nw, .fz, .fz, .fz]) (dst_if (dt_cmp (op_eqD hr.units) (opd_eq (by decide)) (DE.up (κ := .dp 2) (de_callH h__law_fill m_f__law_fill (by first | decide | exact Nat.le_refl _) hr (by rfl) (da_cons (DE.up (κ := .nw) (de_slice (de_var (κ := .tp) (i := 0) rfl (pv 0)) (do_some (de_var (κ := .fz) (i := 6) rfl (pv 6))) do_no)) da_nil))) (de_var (κ := .vw) (i := 1) rfl (pv 1)) (nomark _)) (dss_one (DSt.to (O2 := [.fz, .fz, .fz, .fz, .nw, .fz, .fz, .fz]) (dst_append (i := 4) (pv 4) rfl (de_var (κ := .fz) (i := 6) rfl (pv 6))) rfl)) dss_nil) rfl)
    (dss_one (DSt.to (O2 := [.fz, .fz, .fz, .fz, .nw, .fz, .fz, .fz]) (dst_set (i := 5) sc__law_parts.nd rfl (by first | exact Or.inl rfl | exact Or.inr rfl) (DE.up (κ := .nw) (de_cat (de_var (κ := .tp) (i := 5) rfl (pv 5)) (DE.up (κ := .nw) (de_lc rfl sc__law_parts.nd (T := (.one 7)) (own := [("end", 7)]) (di_range2 (by rfl) T.n_range (da_cons (de_var (κ := .fz) (i := 6) rfl (pv 6)) (da_cons (de_add (κ := .fz) (by decide) (de_len (κ := .fz) (by decide) (by rfl) T.n_len (de_var (κ := .vw) (i := 0) rfl (pv 0))) (de_int (κ := .fz))) da_nil))) (blkOk_by (N := N__law_parts) (sc := defScope s__law_parts) (by decide +kernel)) (by decide) (fun _ _ _ _ _ => (pg_name (i := 7) sc__law_parts.nd rfl (by first | exact Or.inl rfl | exact Or.inr rfl))) (fun _ _ _ _ _ => (dts_one (dt_cmp (op_eqD hr.units) (opd_eq (by decide)) (DE.up (κ := .dp 2) (de_callH h__law_fill m_f__law_fill (by first | decide | exact Nat.le_refl _) hr (by rfl) (da_cons (DE.up (κ := .nw) (de_slice (de_var (κ := .tp) (i := 0) rfl (pv 0)) (do_some (de_var (κ := .fz) (i := 6) rfl (pv 6))) (do_some (de_var (κ := .fz) (i := 7) rfl (pv 7))))) da_nil))) (de_var (κ := .vw) (i := 1) rfl (pv 1)) (nomark _)))) (fun _ _ _ _ _ => (DE.up (κ := .nw) (de_tup (da_cons (de_var (κ := .fz) (i := 6) rfl (pv 6)) (da_cons (de_var (κ := .fz) (i := 7) rfl (pv 7)) da_nil)))))))))) rfl))) rfl)) rfl)
    (dss_cons (DSt.to (O2 := [.fz, .fz, .fz, .fz, .nw, .fz, .fz, .fz]) (dst_if (DW.dt (dw_or (dt_not (dt_val (de_callHV (κ := .fz) h__law_same m_f_same ff_f_same (by first | decide | exact Nat.le_refl _) hr (by rfl) (da_cons (DE.up (κ := .fz) (de_callH h_left_from m_f_left_from (by first | decide | exact Nat.le_refl _) hr (by rfl) (da_cons (de_var (κ := .fz) (i := 2) rfl (pv 2)) (da_cons (de_var (κ := .fz) (i := 3) rfl (pv 3)) da_nil)))) (da_cons (de_var (κ := .vw) (i := 4) rfl (pv 4)) da_nil)) (by decide)))) (dw_or1 (dt_not (dt_val (de_callH h__law_same m_f_same (by first | decide | exact Nat.le_refl _) hr (by rfl) (da_cons (de_callH h_parts_that_fill m_f_parts_that_fill (by first | decide | exact Nat.le_refl _) hr (by rfl) (da_cons (de_var (κ := .fz) (i := 2) rfl (pv 2)) (da_cons (de_var (κ := .fz) (i := 3) rfl (pv 3)) da_nil))) (da_cons (de_var (κ := .fz) (i := 5) rfl (pv 5)) da_nil)))))))) (dss_one (dst_ret (de_bl (κ := .fz)))) dss_nil) rfl)
    (dss_one (dst_ret (de_and (by decide) (de_callH h__law_same m_f_same (by first | decide | exact Nat.le_refl _) hr (by rfl) (da_cons (de_var (κ := .fz) (i := 2) rfl (pv 2)) (da_cons (de_var (κ := .fz) (i := 0) rfl (pv 0)) da_nil))) (de_one (de_callH h__law_same m_f_same (by first | decide | exact Nat.le_refl _) hr (by rfl) (da_cons (de_var (κ := .fz) (i := 3) rfl (pv 3)) (da_cons (de_var (κ := .fz) (i := 1) rfl (pv 1)) da_nil)))))))))))))
theorem law_dss (T : Tx K mg Cl) (h__law_draw : FnHas P w K mg base 1 "_law_draw" 2 (.fz) f_draw) (h__law_row : FnHas P w K mg base 2 "_law_row" 2 (.fz) f_row) (h__law_cut : FnHas P w K mg base 2 "_law_cut" 2 (.fz) f__law_cut) (h__law_whole : FnHas P w K mg base 1 "_law_whole" 1 (.fz) f__law_whole) (h__law_led : FnHas P w K mg base 2 "_law_led" 3 (.fz) f__law_led) (h__law_same : FnHas P w K mg base 9 "_law_same" 2 (.fz) (f_same 8)) (h__law_told : FnHas P w K mg base 10 "_law_told" 1 (.fz) f__law_told) (h__law_fill : FnHas P w K mg base 2 "_law_fill" 1 (.dp 2) f__law_fill) (h__law_compared : FnHas P w K mg base 10 "_law_compared" 2 (.fz) f__law_compared) (h__law_others : FnHas P w K mg base 2 "_law_others" 2 (.fz) f__law_others) (h__law_parts : FnHas P w K mg base 10 "_law_parts" 2 (.fz) f__law_parts) {fL : Addr} {cdv : Value} {A : Around} {outer : List Env} {s : Shared} {H : Hp} {E : XK} (hr : Room 10 (A.deeper (envOfC "law" (defScope s_law) s.heap.objs.size fL cdv))) : DSs (cxOf CX0 P w K mg base N_law "law" (defScope s_law) fL cdv A outer s H E).nox .fz [] (fzs N_law) (fzs N_law) (defBody s_law).tail (b_law) := by
  exact (dss_cons (DSt.to (O2 := (fzs N_law)) (dst_set (i := 2) sc_law.nd rfl (by first | exact Or.inl rfl | exact Or.inr rfl) (de_int (κ := .fz))) rfl)
    (dss_cons (DSt.to (O2 := (fzs N_law)) (dst_if (dt_cmp (op_eqD hr.units) (opd_eq (by decide)) (DE.up (κ := .fz) (de_callH h__law_draw m_f_draw (by first | decide | exact Nat.le_refl _) hr (by rfl) (da_cons (de_var (κ := .fz) (i := 1) rfl (pv 1)) (da_cons (de_int (κ := .fz)) da_nil)))) (de_int (κ := .vw)) (nomark _)) (dss_one (DSt.to (O2 := (fzs N_law)) (dst_set (i := 2) sc_law.nd rfl (by first | exact Or.inl rfl | exact Or.inr rfl) (de_callH h__law_draw m_f_draw (by first | decide | exact Nat.le_refl _) hr (by rfl) (da_cons (de_var (κ := .fz) (i := 1) rfl (pv 1)) (da_cons (de_int (κ := .fz)) da_nil)))) rfl)) dss_nil) rfl)
    (dss_cons (DSt.to (O2 := (fzs N_law)) (dst_set (i := 3) sc_law.nd rfl (by first | exact Or.inl rfl | exact Or.inr rfl) (de_callH h__law_row m_f_row (by first | decide | exact Nat.le_refl _) hr (by rfl) (da_cons (de_var (κ := .fz) (i := 1) rfl (pv 1)) (da_cons (de_var (κ := .fz) (i := 2) rfl (pv 2)) da_nil)))) rfl)
    (dss_cons (DSt.to (O2 := (fzs N_law)) (dst_set (i := 4) sc_law.nd rfl (by first | exact Or.inl rfl | exact Or.inr rfl) (de_callH h__law_cut m_f__law_cut (by first | decide | exact Nat.le_refl _) hr (by rfl) (da_cons (de_var (κ := .fz) (i := 1) rfl (pv 1)) (da_cons (de_var (κ := .fz) (i := 3) rfl (pv 3)) da_nil)))) rfl)
    (dss_cons (DSt.to (O2 := (fzs N_law)) (dst_set (i := 5) sc_law.nd rfl (by first | exact Or.inl rfl | exact Or.inr rfl) (de_callH h__law_whole m_f__law_whole (by first | decide | exact Nat.le_refl _) hr (by rfl) (da_cons (de_var (κ := .fz) (i := 4) rfl (pv 4)) da_nil))) rfl)
    (dss_cons (DSt.to (O2 := (fzs N_law)) (dst_setLc (i := 6) rfl sc_law.nd rfl rfl (sw_true rfl rfl rfl (by decide +kernel)) (T := (.one 11)) (own := [("one", 11)]) (di_list (de_var (κ := .fz) (i := 4) rfl (pv 4))) (blkOk_by (N := N_law) (sc := defScope s_law) (by decide +kernel)) (by decide) (fun _ _ _ _ _ => (pg_name (i := 11) sc_law.nd rfl (by first | exact Or.inl rfl | exact Or.inr rfl))) (fun _ _ _ _ _ => dts_nil) (fun _ _ _ _ _ => (de_callH h__law_led m_f__law_led (by first | decide | exact Nat.le_refl _) hr (by rfl) (da_cons (de_var (κ := .fz) (i := 1) rfl (pv 1)) (da_cons (de_var (κ := .fz) (i := 11) rfl (pv 11)) (da_cons (de_int (κ := .fz)) da_nil)))))) rfl)
    (dss_cons (DSt.to (O2 := (fzs N_law)) (dst_for PassesOwn.never rfl (di_list (DE.up (κ := .nw) (de_lst (da_cons (de_var (κ := .fz) (i := 4) rfl (pv 4)) (da_cons (de_var (κ := .fz) (i := 6) rfl (pv 6)) da_nil))))) (T := (.one 7)) (pg_name (i := 7) sc_law.nd rfl (by first | exact Or.inl rfl | exact Or.inr rfl)) (DSs.frm (O1 := (fzs N_law)) (dss_one (DSt.to (O2 := (fzs N_law)) (dst_if (dt_not (dt_val (de_callH h__law_same m_f_same (by first | decide | exact Nat.le_refl _) hr (by rfl) (da_cons (de_callH h__law_told m_f__law_told (by first | decide | exact Nat.le_refl _) hr (by rfl) (da_cons (de_var (κ := .fz) (i := 7) rfl (pv 7)) da_nil)) (da_cons (DE.up (κ := .nw) (de_tup (da_cons (de_str (κ := .fz)) (da_cons (DE.up (κ := .dp 2) (de_callH h__law_fill m_f__law_fill (by first | decide | exact Nat.le_refl _) hr (by rfl) (da_cons (de_var (κ := .fz) (i := 5) rfl (pv 5)) da_nil))) da_nil)))) da_nil))))) (dss_one (dst_ret (de_bl (κ := .fz)))) dss_nil) rfl)) rfl)) rfl)
    (dss_cons (DSt.to (O2 := (fzs N_law)) (dst_if (DW.dt (dw_and (dt_cmp op_lt (opd_lt (by decide)) (de_len (κ := .fz) (by decide) (by rfl) T.n_len (de_var (κ := .vw) (i := 4) rfl (pv 4))) (de_int (κ := .fz)) (nomark _)) (dw_and1 (dt_cmp op_gt (opd_gt (by decide)) (de_len (κ := .fz) (by decide) (by rfl) T.n_len (de_var (κ := .vw) (i := 5) rfl (pv 5))) (de_int (κ := .fz)) (nomark _))))) (dss_one (DSt.to (O2 := (fzs N_law)) (dst_if (dt_not (dt_val (de_callH h__law_same m_f_same (by first | decide | exact Nat.le_refl _) hr (by rfl) (da_cons (de_callH h__law_told m_f__law_told (by first | decide | exact Nat.le_refl _) hr (by rfl) (da_cons (DE.up (κ := .nw) (de_cat (de_var (κ := .tp) (i := 4) rfl (pv 4)) (DE.up (κ := .nw) (de_lst (da_cons (de_callH h__law_row m_f_row (by first | decide | exact Nat.le_refl _) hr (by rfl) (da_cons (de_var (κ := .fz) (i := 1) rfl (pv 1)) (da_cons (de_sub (κ := .fz) (by decide) (de_int (κ := .fz)) (de_len (κ := .fz) (by decide) (by rfl) T.n_len (de_var (κ := .vw) (i := 5) rfl (pv 5)))) da_nil))) da_nil))))) da_nil)) (da_cons (DE.up (κ := .nw) (de_tup (da_cons (de_str (κ := .fz)) (da_cons (de_int (κ := .fz)) da_nil)))) da_nil))))) (dss_one (dst_ret (de_bl (κ := .fz)))) dss_nil) rfl)) dss_nil) rfl)
    (dss_cons (DSt.to (O2 := (fzs N_law)) (dst_if (DW.dt (dw_or (dt_not (dt_val (de_callH h__law_compared m_f__law_compared (by first | decide | exact Nat.le_refl _) hr (by rfl) (da_cons (de_var (κ := .fz) (i := 4) rfl (pv 4)) (da_cons (de_var (κ := .fz) (i := 6) rfl (pv 6)) da_nil))))) (dw_or1 (dt_not (dt_val (de_callH h__law_compared m_f__law_compared (by first | decide | exact Nat.le_refl _) hr (by rfl) (da_cons (de_var (κ := .fz) (i := 6) rfl (pv 6)) (da_cons (de_var (κ := .fz) (i := 4) rfl (pv 4)) da_nil)))))))) (dss_one (dst_ret (de_bl (κ := .fz)))) dss_nil) rfl)
    (dss_cons (DSt.to (O2 := (fzs N_law)) (dst_for PassesOwn.never rfl (di_list (de_callH h__law_others m_f__law_others (by first | decide | exact Nat.le_refl _) hr (by rfl) (da_cons (de_var (κ := .fz) (i := 1) rfl (pv 1)) (da_cons (de_var (κ := .fz) (i := 6) rfl (pv 6)) da_nil)))) (T := (.one 7)) (pg_name (i := 7) sc_law.nd rfl (by first | exact Or.inl rfl | exact Or.inr rfl)) (DSs.frm (O1 := (fzs N_law)) (dss_one (DSt.to (O2 := (fzs N_law)) (dst_if (DW.dt (dw_and (dt_cmp op_lt (opd_lt (by decide)) (de_len (κ := .fz) (by decide) (by rfl) T.n_len (de_var (κ := .vw) (i := 7) rfl (pv 7))) (de_int (κ := .fz)) (nomark _)) (dw_and1 (DW.dt (dw_or (dt_not (dt_val (de_callH h__law_compared m_f__law_compared (by first | decide | exact Nat.le_refl _) hr (by rfl) (da_cons (de_var (κ := .fz) (i := 4) rfl (pv 4)) (da_cons (de_var (κ := .fz) (i := 7) rfl (pv 7)) da_nil))))) (dw_or1 (dt_not (dt_val (de_callH h__law_compared m_f__law_compared (by first | decide | exact Nat.le_refl _) hr (by rfl) (da_cons (de_var (κ := .fz) (i := 7) rfl (pv 7)) (da_cons (de_var (κ := .fz) (i := 4) rfl (pv 4)) da_nil))))))))))) (dss_one (dst_ret (de_bl (κ := .fz)))) dss_nil) rfl)) rfl)) rfl)
    (dss_cons (DSt.to (O2 := (fzs N_law)) (dst_set (i := 8) sc_law.nd rfl (by first | exact Or.inl rfl | exact Or.inr rfl) (de_callH h__law_draw m_f_draw (by first | decide | exact Nat.le_refl _) hr (by rfl) (da_cons (de_var (κ := .fz) (i := 1) rfl (pv 1)) (da_cons (de_add (κ := .fz) (by decide) (de_len (κ := .fz) (by decide) (by rfl) T.n_len (de_var (κ := .vw) (i := 3) rfl (pv 3))) (de_int (κ := .fz))) da_nil)))) rfl)
    (dss_cons (DSt.to (O2 := (fzs N_law)) (dst_set (i := 9) sc_law.nd rfl (by first | exact Or.inl rfl | exact Or.inr rfl) (de_add (κ := .fz) (by decide) (de_var (κ := .fz) (i := 8) rfl (pv 8)) (de_callH h__law_draw m_f_draw (by first | decide | exact Nat.le_refl _) hr (by rfl) (da_cons (de_var (κ := .fz) (i := 1) rfl (pv 1)) (da_cons (de_add (κ := .fz) (by decide) (de_callB (κ := .fz) (call_min2 rfl) (ard_min2 (by decide)) (by rfl) T.n_min boot_min (da_cons (de_int (κ := .fz)) (da_cons (de_sub (κ := .fz) (by decide) (de_len (κ := .fz) (by decide) (by rfl) T.n_len (de_var (κ := .vw) (i := 3) rfl (pv 3))) (de_var (κ := .fz) (i := 8) rfl (pv 8))) da_nil))) (de_int (κ := .fz))) da_nil))))) rfl)
    (dss_cons (DSt.to (O2 := (fzs N_law)) (dst_for PassesOwn.never rfl (di_list (DE.up (κ := .nw) (de_lst (da_cons (DE.up (κ := .dp 2) (de_callH h__law_fill m_f__law_fill (by first | decide | exact Nat.le_refl _) hr (by rfl) (da_cons (DE.up (κ := .nw) (de_slice (de_var (κ := .tp) (i := 3) rfl (pv 3)) (do_some (de_var (κ := .fz) (i := 8) rfl (pv 8))) do_no)) da_nil))) (da_cons (DE.up (κ := .dp 2) (de_callH h__law_fill m_f__law_fill (by first | decide | exact Nat.le_refl _) hr (by rfl) (da_cons (DE.up (κ := .nw) (de_slice (de_var (κ := .tp) (i := 3) rfl (pv 3)) (do_some (de_var (κ := .fz) (i := 8) rfl (pv 8))) (do_some (de_var (κ := .fz) (i := 9) rfl (pv 9))))) da_nil))) (da_cons (DE.up (κ := .dp 2) (de_callH h__law_fill m_f__law_fill (by first | decide | exact Nat.le_refl _) hr (by rfl) (da_cons (de_callH h__law_row m_f_row (by first | decide | exact Nat.le_refl _) hr (by rfl) (da_cons (de_var (κ := .fz) (i := 1) rfl (pv 1)) (da_cons (de_int (κ := .fz)) da_nil))) da_nil))) (da_cons (DE.up (κ := .nw) (de_lst da_nil)) da_nil))))))) (T := (.one 10)) (pg_name (i := 10) sc_law.nd rfl (by first | exact Or.inl rfl | exact Or.inr rfl)) (DSs.frm (O1 := (fzs N_law)) (dss_one (DSt.to (O2 := (fzs N_law)) (dst_if (dt_not (dt_val (de_callH h__law_parts m_f__law_parts (by first | decide | exact Nat.le_refl _) hr (by rfl) (da_cons (de_var (κ := .fz) (i := 3) rfl (pv 3)) (da_cons (de_var (κ := .fz) (i := 10) rfl (pv 10)) da_nil))))) (dss_one (dst_ret (de_bl (κ := .fz)))) dss_nil) rfl)) rfl)) rfl)
    (dss_one (dst_ret (de_bl (κ := .fz)))))))))))))))))
theorem has_law (T : Tx K mg Cl) (h__law_draw : FnHas P w K mg base 1 "_law_draw" 2 (.fz) f_draw) (h__law_row : FnHas P w K mg base 2 "_law_row" 2 (.fz) f_row) (h__law_cut : FnHas P w K mg base 2 "_law_cut" 2 (.fz) f__law_cut) (h__law_whole : FnHas P w K mg base 1 "_law_whole" 1 (.fz) f__law_whole) (h__law_led : FnHas P w K mg base 2 "_law_led" 3 (.fz) f__law_led) (h__law_same : FnHas P w K mg base 9 "_law_same" 2 (.fz) (f_same 8)) (h__law_told : FnHas P w K mg base 10 "_law_told" 1 (.fz) f__law_told) (h__law_fill : FnHas P w K mg base 2 "_law_fill" 1 (.dp 2) f__law_fill) (h__law_compared : FnHas P w K mg base 10 "_law_compared" 2 (.fz) f__law_compared) (h__law_others : FnHas P w K mg base 2 "_law_others" 2 (.fz) f__law_others) (h__law_parts : FnHas P w K mg base 10 "_law_parts" 2 (.fz) f__law_parts) {fL : Addr} {fdL : FuncData} (F : Fun K "law" "law" s_law fL fdL) (sem : b_law { nx := fun _ => False, rt := fun d => d = .bl true } (none :: some .fd :: List.replicate (N_law.length - 2) none)) : FnOk P w K mg base CX0 11 fL fdL ["script"] (spLaw K) := by
  obtain ⟨f0, fd0, ps0, hm0, hk0, hb0, F0⟩ := has__law_feed (P := P) (w := w) (base := base) T
  refine F.ok sc_law (fun vs H Q E h => ?_) (fun cdv A outer s H vs Q E hr h => ?_)
  · obtain ⟨a, ns, rfl, _⟩ := h
    rfl
  · obtain ⟨a, ns, rfl, hS, hl, q⟩ := h
    refine ⟨_, law_tail (N := N_law) (Oe := fzs N_law) (ps_set (i := 1) sc_law.nd rfl (by first | exact Or.inl rfl | exact Or.inr rfl) (pe_call F0 (hr.mono (by decide)) (by rfl) hm0 hk0 hb0 .nil pass0 (pa_cons (pv 0) pa_nil))) (law_dss T h__law_draw h__law_row h__law_cut h__law_whole h__law_led h__law_same h__law_told h__law_fill h__law_compared h__law_others h__law_parts hr), ?_⟩
    refine ⟨_, rfl, a, ns, rfl, hS, hl, fun p b hp hb hpb => ?_⟩
    refine ⟨_, _, _, _, sr_feed (N := N_law) (by decide) hp hb hpb hl, (law_dss (w := w) (P := P) (base := base) (cdv := cdv) (A := A) (outer := outer) (s := s) (H := H) (E := E) T h__law_draw h__law_row h__law_cut h__law_whole h__law_led h__law_same h__law_told h__law_fill h__law_compared h__law_others h__law_parts hr).mono _ _ _ ⟨fun δ z => (show False from z).elim, fun d e F' H' v x r => ?_, fun _ z => (show False from z).elim, fun _ z => (show False from z).elim⟩ sem⟩
    subst e
    cases Rv.bl (κ := .fz) r
    exact q _

end

end K08
end

/-! part: E_K08 -/
section
set_option Elab.async false
set_option linter.all false
set_option maxRecDepth 100000
set_option maxHeartbeats 2000000
namespace K08
open PySem PySem.Spec L2 DL
open PyProof.Rows hiding St
theorem has_same_n {P : Program} {w : World} {K : PySem.W.Frag} {mg : Str → Option Value} {base : Heap} {Cl : ClT} (T : Tx K mg Cl) : ∀ n, FnHas P w K mg base n "_law_same" 2 .fz (f_sameL n)
  | 0 => has_false T.at__law_same
  | n + 1 => has__law_same_step T m_f_sameL ff_f_sameL (has_same_n T n) (sem__law_same n)
theorem all_mk {P : Program} {w : World} {K : PySem.W.Frag} {h : Heap} {mg : Str → Option Value} {fa : Addr}
    {C_BadRow : Addr}
    {C_ShelfError : Addr}
    {C_TooMany : Addr}
    {nm_TooMany q_TooMany : Str} {N_TooMany : Addr} {bs_TooMany bm_TooMany : List Value} {sn_TooMany : List Str} {sub_TooMany : List Value} {ab_TooMany : Bool} {col_TooMany : Option Bool} {dd_TooMany : Option Addr} {m0_TooMany m1_TooMany m2_TooMany m3_TooMany m5_TooMany : Option Value}
    {fI_TooMany : Addr} {oc_TooMany : Value} {od_TooMany an_TooMany : Option Addr} {kV_TooMany dc_TooMany pm_TooMany cd_TooMany ct_TooMany : Value} {sl_TooMany : Array (Option Value)}
    {t_MOST_JARS : Tok}
    {f_place_for : Addr} {od_place_for an_place_for : Option Addr} {sl_place_for : Array (Option Value)} {oc_place_for kV_place_for dc_place_for pm_place_for cd_place_for ct_place_for : Value}
    {f_put_in : Addr} {od_put_in an_put_in : Option Addr} {sl_put_in : Array (Option Value)} {oc_put_in kV_put_in dc_put_in pm_put_in cd_put_in ct_put_in : Value}
    {f_fill_with_record : Addr} {od_fill_with_record an_fill_with_record : Option Addr} {sl_fill_with_record : Array (Option Value)} {oc_fill_with_record kV_fill_with_record dc_fill_with_record pm_fill_with_record cd_fill_with_record ct_fill_with_record : Value}
    {f_fill : Addr} {od_fill an_fill : Option Addr} {sl_fill : Array (Option Value)} {oc_fill kV_fill dc_fill pm_fill cd_fill ct_fill : Value}
    {f_shelves_of_words : Addr} {od_shelves_of_words an_shelves_of_words : Option Addr} {sl_shelves_of_words : Array (Option Value)} {oc_shelves_of_words kV_shelves_of_words dc_shelves_of_words pm_shelves_of_words cd_shelves_of_words ct_shelves_of_words : Value}
    {f_same_together : Addr} {od_same_together an_same_together : Option Addr} {sl_same_together : Array (Option Value)} {oc_same_together kV_same_together dc_same_together pm_same_together cd_same_together ct_same_together : Value}
    {f_left_from : Addr} {od_left_from an_left_from : Option Addr} {sl_left_from : Array (Option Value)} {oc_left_from kV_left_from dc_left_from pm_left_from cd_left_from ct_left_from : Value}
    {f_parts_that_fill : Addr} {od_parts_that_fill an_parts_that_fill : Option Addr} {sl_parts_that_fill : Array (Option Value)} {oc_parts_that_fill kV_parts_that_fill dc_parts_that_fill pm_parts_that_fill cd_parts_that_fill ct_parts_that_fill : Value}
    {f__law_feed : Addr} {od__law_feed an__law_feed : Option Addr} {sl__law_feed : Array (Option Value)} {oc__law_feed kV__law_feed dc__law_feed pm__law_feed cd__law_feed ct__law_feed : Value}
    {f__law_draw : Addr} {od__law_draw an__law_draw : Option Addr} {sl__law_draw : Array (Option Value)} {oc__law_draw kV__law_draw dc__law_draw pm__law_draw cd__law_draw ct__law_draw : Value}
    {f__law_same : Addr} {od__law_same an__law_same : Option Addr} {sl__law_same : Array (Option Value)} {oc__law_same kV__law_same dc__law_same pm__law_same cd__law_same ct__law_same : Value}
    {f__law_copy : Addr} {od__law_copy an__law_copy : Option Addr} {sl__law_copy : Array (Option Value)} {oc__law_copy kV__law_copy dc__law_copy pm__law_copy cd__law_copy ct__law_copy : Value}
    {f__law_row : Addr} {od__law_row an__law_row : Option Addr} {sl__law_row : Array (Option Value)} {oc__law_row kV__law_row dc__law_row pm__law_row cd__law_row ct__law_row : Value}
    {f__law_bump : Addr} {od__law_bump an__law_bump : Option Addr} {sl__law_bump : Array (Option Value)} {oc__law_bump kV__law_bump dc__law_bump pm__law_bump cd__law_bump ct__law_bump : Value}
    {f__law_fill : Addr} {od__law_fill an__law_fill : Option Addr} {sl__law_fill : Array (Option Value)} {oc__law_fill kV__law_fill dc__law_fill pm__law_fill cd__law_fill ct__law_fill : Value}
    {f__law_may : Addr} {od__law_may an__law_may : Option Addr} {sl__law_may : Array (Option Value)} {oc__law_may kV__law_may dc__law_may pm__law_may cd__law_may ct__law_may : Value}
    {f__law_done : Addr} {od__law_done an__law_done : Option Addr} {sl__law_done : Array (Option Value)} {oc__law_done kV__law_done dc__law_done pm__law_done cd__law_done ct__law_done : Value}
    {f__law_led : Addr} {od__law_led an__law_led : Option Addr} {sl__law_led : Array (Option Value)} {oc__law_led kV__law_led dc__law_led pm__law_led cd__law_led ct__law_led : Value}
    {f__law_cut : Addr} {od__law_cut an__law_cut : Option Addr} {sl__law_cut : Array (Option Value)} {oc__law_cut kV__law_cut dc__law_cut pm__law_cut cd__law_cut ct__law_cut : Value}
    {f__law_whole : Addr} {od__law_whole an__law_whole : Option Addr} {sl__law_whole : Array (Option Value)} {oc__law_whole kV__law_whole dc__law_whole pm__law_whole cd__law_whole ct__law_whole : Value}
    {f__law_told : Addr} {od__law_told an__law_told : Option Addr} {sl__law_told : Array (Option Value)} {oc__law_told kV__law_told dc__law_told pm__law_told cd__law_told ct__law_told : Value}
    {f__law_alike : Addr} {od__law_alike an__law_alike : Option Addr} {sl__law_alike : Array (Option Value)} {oc__law_alike kV__law_alike dc__law_alike pm__law_alike cd__law_alike ct__law_alike : Value}
    {f__law_compared : Addr} {od__law_compared an__law_compared : Option Addr} {sl__law_compared : Array (Option Value)} {oc__law_compared kV__law_compared dc__law_compared pm__law_compared cd__law_compared ct__law_compared : Value}
    {f__law_others : Addr} {od__law_others an__law_others : Option Addr} {sl__law_others : Array (Option Value)} {oc__law_others kV__law_others dc__law_others pm__law_others cd__law_others ct__law_others : Value}
    {f__law_parts : Addr} {od__law_parts an__law_parts : Option Addr} {sl__law_parts : Array (Option Value)} {oc__law_parts kV__law_parts dc__law_parts pm__law_parts cd__law_parts ct__law_parts : Value}
    {f_law : Addr} {od_law an_law : Option Addr} {sl_law : Array (Option Value)} {oc_law kV_law dc_law pm_law cd_law ct_law : Value} (X : K.In h) (G : h.Ns mainGlobals mg) (hfa : mg "law" = some (.ref fa))
    (aC_BadRow : PySem.W.nsIn K mainGlobals "BadRow" = some (some (.ref C_BadRow)))
    (aC_ShelfError : PySem.W.nsIn K mainGlobals "ShelfError" = some (some (.ref C_ShelfError)))
    (aC_TooMany : PySem.W.nsIn K mainGlobals "TooMany" = some (some (.ref C_TooMany)))
    (xL_TooMany : K.lookup C_TooMany = some (excClassObj nm_TooMany q_TooMany C_TooMany N_TooMany bs_TooMany bm_TooMany true sn_TooMany sub_TooMany ab_TooMany col_TooMany dd_TooMany m0_TooMany m1_TooMany m2_TooMany m3_TooMany m5_TooMany "ValueError.__new__"))
    (rV_TooMany : PySem.HandSPX.refsVE bm_TooMany = true)
    (sa_TooMany : PySem.W.findIn K (.ref C_TooMany) "__setattr__" = some (some (.builtin "object.__setattr__")))
    (ga_TooMany : PySem.W.findIn K (.ref C_TooMany) "__getattribute__" = some (some (.builtin "BaseException.__getattribute__")))
    (gg_TooMany : PySem.W.findIn K (.ref C_TooMany) "__getattr__" = some none)
    (no_TooMany_limit : PySem.W.findIn K (.ref C_TooMany) "limit" = some none)
    (iC_TooMany : PySem.W.findIn K (.ref C_TooMany) "__init__" = some (some (.ref fI_TooMany)))
    (tI_TooMany : PySem.W.typeIn K (.ref fI_TooMany) = some (.type "function"))
    (lI_TooMany : K.lookup fI_TooMany = some ⟨oc_TooMany, od_TooMany, .func (PySem.W.fnOf "__init__" "TooMany.__init__" (defArgs s_init_TooMany) (defBody s_init_TooMany) (defScope s_init_TooMany) .none kV_TooMany dc_TooMany pm_TooMany an_TooMany cd_TooMany ct_TooMany), sl_TooMany⟩)
    (cI_TooMany : PySem.W.codeIn K cd_TooMany "TooMany.__init__" = true)
    (kI_TooMany : PySem.W.keepIn K (.ref fI_TooMany) = true)
    (kC_TooMany : PySem.W.keepIn K (.ref C_TooMany) = true)
    (eC_TooMany : PySem.W.subIn K (.ref C_TooMany) (.type "BaseException") = some true)
    (tC_TooMany : PySem.W.typeIn K (.ref C_TooMany) = some (.type "type"))
    (hC_TooMany : PySem.W.hasDictIn K C_TooMany = true)
    (ca_TooMany : PySem.W.findIn K (.ref C_TooMany) "__class__" = some (some (.builtin "object.__class__")))
    (mr_TooMany : PySem.W.mroIn K C_TooMany (.type "object") = some true)
    (sgN : PySem.W.specialIn K (.builtin "object.__class__") "__get__" = some (some (.builtin "getset_descriptor.__get__")))
    (sgT : PySem.W.takesIn K (.builtin "object.__class__") = some true)
    (kit_TooMany_BadRow : PySem.W.kitOne K (.ref C_TooMany) (.ref C_BadRow) = some (is_BadRow "TooMany"))
    (kit_TooMany_TooMany : PySem.W.kitOne K (.ref C_TooMany) (.ref C_TooMany) = some (is_TooMany "TooMany"))
    (kit_TooMany_ValueError : PySem.W.kitOne K (.ref C_TooMany) (.type "ValueError") = some true)
    (sub_TooMany_ShelfError : PySem.W.subIn K (.ref C_TooMany) (.ref C_ShelfError) = some true)
    (eX_ShelfError : PySem.W.subIn K (.ref C_ShelfError) (.type "BaseException") = some true)
    (tX_ShelfError : PySem.W.typeIn K (.ref C_ShelfError) = some (.type "type"))
    (hX_ShelfError : PySem.W.hasDictIn K C_ShelfError = true)
    (z_abs : PySem.W.nsIn K mainGlobals "abs" = some none)
    (z_all : PySem.W.nsIn K mainGlobals "all" = some none)
    (z_bool : PySem.W.nsIn K mainGlobals "bool" = some none)
    (z_enumerate : PySem.W.nsIn K mainGlobals "enumerate" = some none)
    (z_int : PySem.W.nsIn K mainGlobals "int" = some none)
    (z_isinstance : PySem.W.nsIn K mainGlobals "isinstance" = some none)
    (z_len : PySem.W.nsIn K mainGlobals "len" = some none)
    (z_list : PySem.W.nsIn K mainGlobals "list" = some none)
    (z_max : PySem.W.nsIn K mainGlobals "max" = some none)
    (z_min : PySem.W.nsIn K mainGlobals "min" = some none)
    (z_range : PySem.W.nsIn K mainGlobals "range" = some none)
    (z_sorted : PySem.W.nsIn K mainGlobals "sorted" = some none)
    (z_str : PySem.W.nsIn K mainGlobals "str" = some none)
    (z_sum : PySem.W.nsIn K mainGlobals "sum" = some none)
    (z_tuple : PySem.W.nsIn K mainGlobals "tuple" = some none)
    (z_ValueError : PySem.W.nsIn K mainGlobals "ValueError" = some none)
    (v_MOST_JARS : PySem.W.nsIn K mainGlobals "MOST_JARS" = some (some (.int 14 t_MOST_JARS)))
    (a_place_for : PySem.W.nsIn K mainGlobals "place_for" = some (some (.ref f_place_for)))
    (l_place_for : K.lookup f_place_for = some ⟨oc_place_for, od_place_for, .func (PySem.W.fnOf "place_for" "place_for" (defArgs s_place_for) (defBody s_place_for) (defScope s_place_for) .none kV_place_for dc_place_for pm_place_for an_place_for cd_place_for ct_place_for), sl_place_for⟩)
    (c_place_for : PySem.W.codeIn K cd_place_for "place_for" = true)
    (k_place_for : PySem.W.keepIn K (.ref f_place_for) = true)
    (a_put_in : PySem.W.nsIn K mainGlobals "put_in" = some (some (.ref f_put_in)))
    (l_put_in : K.lookup f_put_in = some ⟨oc_put_in, od_put_in, .func (PySem.W.fnOf "put_in" "put_in" (defArgs s_put_in) (defBody s_put_in) (defScope s_put_in) .none kV_put_in dc_put_in pm_put_in an_put_in cd_put_in ct_put_in), sl_put_in⟩)
    (c_put_in : PySem.W.codeIn K cd_put_in "put_in" = true)
    (k_put_in : PySem.W.keepIn K (.ref f_put_in) = true)
    (a_fill_with_record : PySem.W.nsIn K mainGlobals "fill_with_record" = some (some (.ref f_fill_with_record)))
    (l_fill_with_record : K.lookup f_fill_with_record = some ⟨oc_fill_with_record, od_fill_with_record, .func (PySem.W.fnOf "fill_with_record" "fill_with_record" (defArgs s_fill_with_record) (defBody s_fill_with_record) (defScope s_fill_with_record) .none kV_fill_with_record dc_fill_with_record pm_fill_with_record an_fill_with_record cd_fill_with_record ct_fill_with_record), sl_fill_with_record⟩)
    (c_fill_with_record : PySem.W.codeIn K cd_fill_with_record "fill_with_record" = true)
    (k_fill_with_record : PySem.W.keepIn K (.ref f_fill_with_record) = true)
    (a_fill : PySem.W.nsIn K mainGlobals "fill" = some (some (.ref f_fill)))
    (l_fill : K.lookup f_fill = some ⟨oc_fill, od_fill, .func (PySem.W.fnOf "fill" "fill" (defArgs s_fill) (defBody s_fill) (defScope s_fill) .none kV_fill dc_fill pm_fill an_fill cd_fill ct_fill), sl_fill⟩)
    (c_fill : PySem.W.codeIn K cd_fill "fill" = true)
    (k_fill : PySem.W.keepIn K (.ref f_fill) = true)
    (a_shelves_of_words : PySem.W.nsIn K mainGlobals "shelves_of_words" = some (some (.ref f_shelves_of_words)))
    (l_shelves_of_words : K.lookup f_shelves_of_words = some ⟨oc_shelves_of_words, od_shelves_of_words, .func (PySem.W.fnOf "shelves_of_words" "shelves_of_words" (defArgs s_shelves_of_words) (defBody s_shelves_of_words) (defScope s_shelves_of_words) .none kV_shelves_of_words dc_shelves_of_words pm_shelves_of_words an_shelves_of_words cd_shelves_of_words ct_shelves_of_words), sl_shelves_of_words⟩)
    (c_shelves_of_words : PySem.W.codeIn K cd_shelves_of_words "shelves_of_words" = true)
    (k_shelves_of_words : PySem.W.keepIn K (.ref f_shelves_of_words) = true)
    (a_same_together : PySem.W.nsIn K mainGlobals "same_together" = some (some (.ref f_same_together)))
    (l_same_together : K.lookup f_same_together = some ⟨oc_same_together, od_same_together, .func (PySem.W.fnOf "same_together" "same_together" (defArgs s_same_together) (defBody s_same_together) (defScope s_same_together) .none kV_same_together dc_same_together pm_same_together an_same_together cd_same_together ct_same_together), sl_same_together⟩)
    (c_same_together : PySem.W.codeIn K cd_same_together "same_together" = true)
    (k_same_together : PySem.W.keepIn K (.ref f_same_together) = true)
    (a_left_from : PySem.W.nsIn K mainGlobals "left_from" = some (some (.ref f_left_from)))
    (l_left_from : K.lookup f_left_from = some ⟨oc_left_from, od_left_from, .func (PySem.W.fnOf "left_from" "left_from" (defArgs s_left_from) (defBody s_left_from) (defScope s_left_from) .none kV_left_from dc_left_from pm_left_from an_left_from cd_left_from ct_left_from), sl_left_from⟩)
    (c_left_from : PySem.W.codeIn K cd_left_from "left_from" = true)
    (k_left_from : PySem.W.keepIn K (.ref f_left_from) = true)
    (a_parts_that_fill : PySem.W.nsIn K mainGlobals "parts_that_fill" = some (some (.ref f_parts_that_fill)))
    (l_parts_that_fill : K.lookup f_parts_that_fill = some ⟨oc_parts_that_fill, od_parts_that_fill, .func (PySem.W.fnOf "parts_that_fill" "parts_that_fill" (defArgs s_parts_that_fill) (defBody s_parts_that_fill) (defScope s_parts_that_fill) .none kV_parts_that_fill dc_parts_that_fill pm_parts_that_fill an_parts_that_fill cd_parts_that_fill ct_parts_that_fill), sl_parts_that_fill⟩)
    (c_parts_that_fill : PySem.W.codeIn K cd_parts_that_fill "parts_that_fill" = true)
    (k_parts_that_fill : PySem.W.keepIn K (.ref f_parts_that_fill) = true)
    (a__law_feed : PySem.W.nsIn K mainGlobals "_law_feed" = some (some (.ref f__law_feed)))
    (l__law_feed : K.lookup f__law_feed = some ⟨oc__law_feed, od__law_feed, .func (PySem.W.fnOf "_law_feed" "_law_feed" (defArgs s__law_feed) (defBody s__law_feed) (defScope s__law_feed) .none kV__law_feed dc__law_feed pm__law_feed an__law_feed cd__law_feed ct__law_feed), sl__law_feed⟩)
    (c__law_feed : PySem.W.codeIn K cd__law_feed "_law_feed" = true)
    (k__law_feed : PySem.W.keepIn K (.ref f__law_feed) = true)
    (a__law_draw : PySem.W.nsIn K mainGlobals "_law_draw" = some (some (.ref f__law_draw)))
    (l__law_draw : K.lookup f__law_draw = some ⟨oc__law_draw, od__law_draw, .func (PySem.W.fnOf "_law_draw" "_law_draw" (defArgs s__law_draw) (defBody s__law_draw) (defScope s__law_draw) .none kV__law_draw dc__law_draw pm__law_draw an__law_draw cd__law_draw ct__law_draw), sl__law_draw⟩)
    (c__law_draw : PySem.W.codeIn K cd__law_draw "_law_draw" = true)
    (k__law_draw : PySem.W.keepIn K (.ref f__law_draw) = true)
    (a__law_same : PySem.W.nsIn K mainGlobals "_law_same" = some (some (.ref f__law_same)))
    (l__law_same : K.lookup f__law_same = some ⟨oc__law_same, od__law_same, .func (PySem.W.fnOf "_law_same" "_law_same" (defArgs s__law_same) (defBody s__law_same) (defScope s__law_same) .none kV__law_same dc__law_same pm__law_same an__law_same cd__law_same ct__law_same), sl__law_same⟩)
    (c__law_same : PySem.W.codeIn K cd__law_same "_law_same" = true)
    (k__law_same : PySem.W.keepIn K (.ref f__law_same) = true)
    (a__law_copy : PySem.W.nsIn K mainGlobals "_law_copy" = some (some (.ref f__law_copy)))
    (l__law_copy : K.lookup f__law_copy = some ⟨oc__law_copy, od__law_copy, .func (PySem.W.fnOf "_law_copy" "_law_copy" (defArgs s__law_copy) (defBody s__law_copy) (defScope s__law_copy) .none kV__law_copy dc__law_copy pm__law_copy an__law_copy cd__law_copy ct__law_copy), sl__law_copy⟩)
    (c__law_copy : PySem.W.codeIn K cd__law_copy "_law_copy" = true)
    (k__law_copy : PySem.W.keepIn K (.ref f__law_copy) = true)
    (a__law_row : PySem.W.nsIn K mainGlobals "_law_row" = some (some (.ref f__law_row)))
    (l__law_row : K.lookup f__law_row = some ⟨oc__law_row, od__law_row, .func (PySem.W.fnOf "_law_row" "_law_row" (defArgs s__law_row) (defBody s__law_row) (defScope s__law_row) .none kV__law_row dc__law_row pm__law_row an__law_row cd__law_row ct__law_row), sl__law_row⟩)
    (c__law_row : PySem.W.codeIn K cd__law_row "_law_row" = true)
    (k__law_row : PySem.W.keepIn K (.ref f__law_row) = true)
    (a__law_bump : PySem.W.nsIn K mainGlobals "_law_bump" = some (some (.ref f__law_bump)))
    (l__law_bump : K.lookup f__law_bump = some ⟨oc__law_bump, od__law_bump, .func (PySem.W.fnOf "_law_bump" "_law_bump" (defArgs s__law_bump) (defBody s__law_bump) (defScope s__law_bump) .none kV__law_bump dc__law_bump pm__law_bump an__law_bump cd__law_bump ct__law_bump), sl__law_bump⟩)
    (c__law_bump : PySem.W.codeIn K cd__law_bump "_law_bump" = true)
    (k__law_bump : PySem.W.keepIn K (.ref f__law_bump) = true)
    (a__law_fill : PySem.W.nsIn K mainGlobals "_law_fill" = some (some (.ref f__law_fill)))
    (l__law_fill : K.lookup f__law_fill = some ⟨oc__law_fill, od__law_fill, .func (PySem.W.fnOf "_law_fill" "_law_fill" (defArgs s__law_fill) (defBody s__law_fill) (defScope s__law_fill) .none kV__law_fill dc__law_fill pm__law_fill an__law_fill cd__law_fill ct__law_fill), sl__law_fill⟩)
    (c__law_fill : PySem.W.codeIn K cd__law_fill "_law_fill" = true)
    (k__law_fill : PySem.W.keepIn K (.ref f__law_fill) = true)
    (a__law_may : PySem.W.nsIn K mainGlobals "_law_may" = some (some (.ref f__law_may)))
    (l__law_may : K.lookup f__law_may = some ⟨oc__law_may, od__law_may, .func (PySem.W.fnOf "_law_may" "_law_may" (defArgs s__law_may) (defBody s__law_may) (defScope s__law_may) .none kV__law_may dc__law_may pm__law_may an__law_may cd__law_may ct__law_may), sl__law_may⟩)
    (c__law_may : PySem.W.codeIn K cd__law_may "_law_may" = true)
    (k__law_may : PySem.W.keepIn K (.ref f__law_may) = true)
    (a__law_done : PySem.W.nsIn K mainGlobals "_law_done" = some (some (.ref f__law_done)))
    (l__law_done : K.lookup f__law_done = some ⟨oc__law_done, od__law_done, .func (PySem.W.fnOf "_law_done" "_law_done" (defArgs s__law_done) (defBody s__law_done) (defScope s__law_done) .none kV__law_done dc__law_done pm__law_done an__law_done cd__law_done ct__law_done), sl__law_done⟩)
    (c__law_done : PySem.W.codeIn K cd__law_done "_law_done" = true)
    (k__law_done : PySem.W.keepIn K (.ref f__law_done) = true)
    (a__law_led : PySem.W.nsIn K mainGlobals "_law_led" = some (some (.ref f__law_led)))
    (l__law_led : K.lookup f__law_led = some ⟨oc__law_led, od__law_led, .func (PySem.W.fnOf "_law_led" "_law_led" (defArgs s__law_led) (defBody s__law_led) (defScope s__law_led) .none kV__law_led dc__law_led pm__law_led an__law_led cd__law_led ct__law_led), sl__law_led⟩)
    (c__law_led : PySem.W.codeIn K cd__law_led "_law_led" = true)
    (k__law_led : PySem.W.keepIn K (.ref f__law_led) = true)
    (a__law_cut : PySem.W.nsIn K mainGlobals "_law_cut" = some (some (.ref f__law_cut)))
    (l__law_cut : K.lookup f__law_cut = some ⟨oc__law_cut, od__law_cut, .func (PySem.W.fnOf "_law_cut" "_law_cut" (defArgs s__law_cut) (defBody s__law_cut) (defScope s__law_cut) .none kV__law_cut dc__law_cut pm__law_cut an__law_cut cd__law_cut ct__law_cut), sl__law_cut⟩)
    (c__law_cut : PySem.W.codeIn K cd__law_cut "_law_cut" = true)
    (k__law_cut : PySem.W.keepIn K (.ref f__law_cut) = true)
    (a__law_whole : PySem.W.nsIn K mainGlobals "_law_whole" = some (some (.ref f__law_whole)))
    (l__law_whole : K.lookup f__law_whole = some ⟨oc__law_whole, od__law_whole, .func (PySem.W.fnOf "_law_whole" "_law_whole" (defArgs s__law_whole) (defBody s__law_whole) (defScope s__law_whole) .none kV__law_whole dc__law_whole pm__law_whole an__law_whole cd__law_whole ct__law_whole), sl__law_whole⟩)
    (c__law_whole : PySem.W.codeIn K cd__law_whole "_law_whole" = true)
    (k__law_whole : PySem.W.keepIn K (.ref f__law_whole) = true)
    (a__law_told : PySem.W.nsIn K mainGlobals "_law_told" = some (some (.ref f__law_told)))
    (l__law_told : K.lookup f__law_told = some ⟨oc__law_told, od__law_told, .func (PySem.W.fnOf "_law_told" "_law_told" (defArgs s__law_told) (defBody s__law_told) (defScope s__law_told) .none kV__law_told dc__law_told pm__law_told an__law_told cd__law_told ct__law_told), sl__law_told⟩)
    (c__law_told : PySem.W.codeIn K cd__law_told "_law_told" = true)
    (k__law_told : PySem.W.keepIn K (.ref f__law_told) = true)
    (a__law_alike : PySem.W.nsIn K mainGlobals "_law_alike" = some (some (.ref f__law_alike)))
    (l__law_alike : K.lookup f__law_alike = some ⟨oc__law_alike, od__law_alike, .func (PySem.W.fnOf "_law_alike" "_law_alike" (defArgs s__law_alike) (defBody s__law_alike) (defScope s__law_alike) .none kV__law_alike dc__law_alike pm__law_alike an__law_alike cd__law_alike ct__law_alike), sl__law_alike⟩)
    (c__law_alike : PySem.W.codeIn K cd__law_alike "_law_alike" = true)
    (k__law_alike : PySem.W.keepIn K (.ref f__law_alike) = true)
    (a__law_compared : PySem.W.nsIn K mainGlobals "_law_compared" = some (some (.ref f__law_compared)))
    (l__law_compared : K.lookup f__law_compared = some ⟨oc__law_compared, od__law_compared, .func (PySem.W.fnOf "_law_compared" "_law_compared" (defArgs s__law_compared) (defBody s__law_compared) (defScope s__law_compared) .none kV__law_compared dc__law_compared pm__law_compared an__law_compared cd__law_compared ct__law_compared), sl__law_compared⟩)
    (c__law_compared : PySem.W.codeIn K cd__law_compared "_law_compared" = true)
    (k__law_compared : PySem.W.keepIn K (.ref f__law_compared) = true)
    (a__law_others : PySem.W.nsIn K mainGlobals "_law_others" = some (some (.ref f__law_others)))
    (l__law_others : K.lookup f__law_others = some ⟨oc__law_others, od__law_others, .func (PySem.W.fnOf "_law_others" "_law_others" (defArgs s__law_others) (defBody s__law_others) (defScope s__law_others) .none kV__law_others dc__law_others pm__law_others an__law_others cd__law_others ct__law_others), sl__law_others⟩)
    (c__law_others : PySem.W.codeIn K cd__law_others "_law_others" = true)
    (k__law_others : PySem.W.keepIn K (.ref f__law_others) = true)
    (a__law_parts : PySem.W.nsIn K mainGlobals "_law_parts" = some (some (.ref f__law_parts)))
    (l__law_parts : K.lookup f__law_parts = some ⟨oc__law_parts, od__law_parts, .func (PySem.W.fnOf "_law_parts" "_law_parts" (defArgs s__law_parts) (defBody s__law_parts) (defScope s__law_parts) .none kV__law_parts dc__law_parts pm__law_parts an__law_parts cd__law_parts ct__law_parts), sl__law_parts⟩)
    (c__law_parts : PySem.W.codeIn K cd__law_parts "_law_parts" = true)
    (k__law_parts : PySem.W.keepIn K (.ref f__law_parts) = true)
    (a_law : PySem.W.nsIn K mainGlobals "law" = some (some (.ref f_law)))
    (l_law : K.lookup f_law = some ⟨oc_law, od_law, .func (PySem.W.fnOf "law" "law" (defArgs s_law) (defBody s_law) (defScope s_law) .none kV_law dc_law pm_law an_law cd_law ct_law), sl_law⟩)
    (c_law : PySem.W.codeIn K cd_law "law" = true)
    (k_law : PySem.W.keepIn K (.ref f_law) = true) :
    ∃ fd : FuncData, (∀ (s : Shared) (u : Value), BindsTo s fd ⟨[u], []⟩ [("script", u)]) ∧ ∀ base : Heap, K.In base → base.Ns mainGlobals mg → FnOk P w K mg base CX0 11 fa fd ["script"] (spLaw K) := by
  have e := hfa.symm.trans (PySem.W.mg_of X G a_law)
  cases e
  have F_place_for := fun_mk (st := s_place_for) l_place_for c_place_for k_place_for
  have A_place_for : FnAt K mg "place_for" s_place_for ["shelf", "jar"] := ⟨_, _, PySem.W.mg_of X G a_place_for, F_place_for, F_place_for.binds (ps := ["shelf", "jar"]) fun _ _ _ _ _ _ us hl => match us, hl with | [_, _], _ => rfl⟩
  have F_put_in := fun_mk (st := s_put_in) l_put_in c_put_in k_put_in
  have A_put_in : FnAt K mg "put_in" s_put_in ["shelves", "jar"] := ⟨_, _, PySem.W.mg_of X G a_put_in, F_put_in, F_put_in.binds (ps := ["shelves", "jar"]) fun _ _ _ _ _ _ us hl => match us, hl with | [_, _], _ => rfl⟩
  have F_fill_with_record := fun_mk (st := s_fill_with_record) l_fill_with_record c_fill_with_record k_fill_with_record
  have A_fill_with_record : FnAt K mg "fill_with_record" s_fill_with_record ["row"] := ⟨_, _, PySem.W.mg_of X G a_fill_with_record, F_fill_with_record, F_fill_with_record.binds (ps := ["row"]) fun _ _ _ _ _ _ us hl => match us, hl with | [_], _ => rfl⟩
  have F_fill := fun_mk (st := s_fill) l_fill c_fill k_fill
  have A_fill : FnAt K mg "fill" s_fill ["row"] := ⟨_, _, PySem.W.mg_of X G a_fill, F_fill, F_fill.binds (ps := ["row"]) fun _ _ _ _ _ _ us hl => match us, hl with | [_], _ => rfl⟩
  have F_shelves_of_words := fun_mk (st := s_shelves_of_words) l_shelves_of_words c_shelves_of_words k_shelves_of_words
  have A_shelves_of_words : FnAt K mg "shelves_of_words" s_shelves_of_words ["rows"] := ⟨_, _, PySem.W.mg_of X G a_shelves_of_words, F_shelves_of_words, F_shelves_of_words.binds (ps := ["rows"]) fun _ _ _ _ _ _ us hl => match us, hl with | [_], _ => rfl⟩
  have F_same_together := fun_mk (st := s_same_together) l_same_together c_same_together k_same_together
  have A_same_together : FnAt K mg "same_together" s_same_together ["rows", "others"] := ⟨_, _, PySem.W.mg_of X G a_same_together, F_same_together, F_same_together.binds (ps := ["rows", "others"]) fun _ _ _ _ _ _ us hl => match us, hl with | [_, _], _ => rfl⟩
  have F_left_from := fun_mk (st := s_left_from) l_left_from c_left_from k_left_from
  have A_left_from : FnAt K mg "left_from" s_left_from ["row", "shelves"] := ⟨_, _, PySem.W.mg_of X G a_left_from, F_left_from, F_left_from.binds (ps := ["row", "shelves"]) fun _ _ _ _ _ _ us hl => match us, hl with | [_, _], _ => rfl⟩
  have F_parts_that_fill := fun_mk (st := s_parts_that_fill) l_parts_that_fill c_parts_that_fill k_parts_that_fill
  have A_parts_that_fill : FnAt K mg "parts_that_fill" s_parts_that_fill ["row", "shelves"] := ⟨_, _, PySem.W.mg_of X G a_parts_that_fill, F_parts_that_fill, F_parts_that_fill.binds (ps := ["row", "shelves"]) fun _ _ _ _ _ _ us hl => match us, hl with | [_, _], _ => rfl⟩
  have F__law_feed := fun_mk (st := s__law_feed) l__law_feed c__law_feed k__law_feed
  have A__law_feed : FnAt K mg "_law_feed" s__law_feed ["script"] := ⟨_, _, PySem.W.mg_of X G a__law_feed, F__law_feed, F__law_feed.binds (ps := ["script"]) fun _ _ _ _ _ _ us hl => match us, hl with | [_], _ => rfl⟩
  have F__law_draw := fun_mk (st := s__law_draw) l__law_draw c__law_draw k__law_draw
  have A__law_draw : FnAt K mg "_law_draw" s__law_draw ["feed", "many"] := ⟨_, _, PySem.W.mg_of X G a__law_draw, F__law_draw, F__law_draw.binds (ps := ["feed", "many"]) fun _ _ _ _ _ _ us hl => match us, hl with | [_, _], _ => rfl⟩
  have F__law_same := fun_mk (st := s__law_same) l__law_same c__law_same k__law_same
  have A__law_same : FnAt K mg "_law_same" s__law_same ["actual", "due"] := ⟨_, _, PySem.W.mg_of X G a__law_same, F__law_same, F__law_same.binds (ps := ["actual", "due"]) fun _ _ _ _ _ _ us hl => match us, hl with | [_, _], _ => rfl⟩
  have F__law_copy := fun_mk (st := s__law_copy) l__law_copy c__law_copy k__law_copy
  have A__law_copy : FnAt K mg "_law_copy" s__law_copy ["lines"] := ⟨_, _, PySem.W.mg_of X G a__law_copy, F__law_copy, F__law_copy.binds (ps := ["lines"]) fun _ _ _ _ _ _ us hl => match us, hl with | [_], _ => rfl⟩
  have F__law_row := fun_mk (st := s__law_row) l__law_row c__law_row k__law_row
  have A__law_row : FnAt K mg "_law_row" s__law_row ["feed", "size"] := ⟨_, _, PySem.W.mg_of X G a__law_row, F__law_row, F__law_row.binds (ps := ["feed", "size"]) fun _ _ _ _ _ _ us hl => match us, hl with | [_, _], _ => rfl⟩
  have F__law_bump := fun_mk (st := s__law_bump) l__law_bump c__law_bump k__law_bump
  have A__law_bump : FnAt K mg "_law_bump" s__law_bump ["shelf", "jar"] := ⟨_, _, PySem.W.mg_of X G a__law_bump, F__law_bump, F__law_bump.binds (ps := ["shelf", "jar"]) fun _ _ _ _ _ _ us hl => match us, hl with | [_, _], _ => rfl⟩
  have F__law_fill := fun_mk (st := s__law_fill) l__law_fill c__law_fill k__law_fill
  have A__law_fill : FnAt K mg "_law_fill" s__law_fill ["row"] := ⟨_, _, PySem.W.mg_of X G a__law_fill, F__law_fill, F__law_fill.binds (ps := ["row"]) fun _ _ _ _ _ _ us hl => match us, hl with | [_], _ => rfl⟩
  have F__law_may := fun_mk (st := s__law_may) l__law_may c__law_may k__law_may
  have A__law_may : FnAt K mg "_law_may" s__law_may ["row", "at", "which"] := ⟨_, _, PySem.W.mg_of X G a__law_may, F__law_may, F__law_may.binds (ps := ["row", "at", "which"]) fun _ _ _ _ _ _ us hl => match us, hl with | [_, _, _], _ => rfl⟩
  have F__law_done := fun_mk (st := s__law_done) l__law_done c__law_done k__law_done
  have A__law_done : FnAt K mg "_law_done" s__law_done ["row", "at", "which"] := ⟨_, _, PySem.W.mg_of X G a__law_done, F__law_done, F__law_done.binds (ps := ["row", "at", "which"]) fun _ _ _ _ _ _ us hl => match us, hl with | [_, _, _], _ => rfl⟩
  have F__law_led := fun_mk (st := s__law_led) l__law_led c__law_led k__law_led
  have A__law_led : FnAt K mg "_law_led" s__law_led ["feed", "row", "many"] := ⟨_, _, PySem.W.mg_of X G a__law_led, F__law_led, F__law_led.binds (ps := ["feed", "row", "many"]) fun _ _ _ _ _ _ us hl => match us, hl with | [_, _, _], _ => rfl⟩
  have F__law_cut := fun_mk (st := s__law_cut) l__law_cut c__law_cut k__law_cut
  have A__law_cut : FnAt K mg "_law_cut" s__law_cut ["feed", "row"] := ⟨_, _, PySem.W.mg_of X G a__law_cut, F__law_cut, F__law_cut.binds (ps := ["feed", "row"]) fun _ _ _ _ _ _ us hl => match us, hl with | [_, _], _ => rfl⟩
  have F__law_whole := fun_mk (st := s__law_whole) l__law_whole c__law_whole k__law_whole
  have A__law_whole : FnAt K mg "_law_whole" s__law_whole ["rows"] := ⟨_, _, PySem.W.mg_of X G a__law_whole, F__law_whole, F__law_whole.binds (ps := ["rows"]) fun _ _ _ _ _ _ us hl => match us, hl with | [_], _ => rfl⟩
  have F__law_told := fun_mk (st := s__law_told) l__law_told c__law_told k__law_told
  have A__law_told : FnAt K mg "_law_told" s__law_told ["rows"] := ⟨_, _, PySem.W.mg_of X G a__law_told, F__law_told, F__law_told.binds (ps := ["rows"]) fun _ _ _ _ _ _ us hl => match us, hl with | [_], _ => rfl⟩
  have F__law_alike := fun_mk (st := s__law_alike) l__law_alike c__law_alike k__law_alike
  have A__law_alike : FnAt K mg "_law_alike" s__law_alike ["rows", "others"] := ⟨_, _, PySem.W.mg_of X G a__law_alike, F__law_alike, F__law_alike.binds (ps := ["rows", "others"]) fun _ _ _ _ _ _ us hl => match us, hl with | [_, _], _ => rfl⟩
  have F__law_compared := fun_mk (st := s__law_compared) l__law_compared c__law_compared k__law_compared
  have A__law_compared : FnAt K mg "_law_compared" s__law_compared ["rows", "others"] := ⟨_, _, PySem.W.mg_of X G a__law_compared, F__law_compared, F__law_compared.binds (ps := ["rows", "others"]) fun _ _ _ _ _ _ us hl => match us, hl with | [_, _], _ => rfl⟩
  have F__law_others := fun_mk (st := s__law_others) l__law_others c__law_others k__law_others
  have A__law_others : FnAt K mg "_law_others" s__law_others ["feed", "rows"] := ⟨_, _, PySem.W.mg_of X G a__law_others, F__law_others, F__law_others.binds (ps := ["feed", "rows"]) fun _ _ _ _ _ _ us hl => match us, hl with | [_, _], _ => rfl⟩
  have F__law_parts := fun_mk (st := s__law_parts) l__law_parts c__law_parts k__law_parts
  have A__law_parts : FnAt K mg "_law_parts" s__law_parts ["row", "shelves"] := ⟨_, _, PySem.W.mg_of X G a__law_parts, F__law_parts, F__law_parts.binds (ps := ["row", "shelves"]) fun _ _ _ _ _ _ us hl => match us, hl with | [_, _], _ => rfl⟩
  have F_law := fun_mk (st := s_law) l_law c_law k_law
  have A_law : FnAt K mg "law" s_law ["script"] := ⟨_, _, PySem.W.mg_of X G a_law, F_law, F_law.binds (ps := ["script"]) fun _ _ _ _ _ _ us hl => match us, hl with | [_], _ => rfl⟩
  let Cl : ClT := fun c => if c = ("TooMany" : Str) then some C_TooMany else none
  have clI : ∀ {R : Str → Addr → Prop}, R "TooMany" C_TooMany → (∀ c C, Cl c = some C → R c C) := fun {R} r_TooMany c C hC => by
    by_cases e_TooMany : c = ("TooMany" : Str)
    · subst e_TooMany
      have : C_TooMany = C := by simpa [Cl] using hC
      subst this; exact r_TooMany
    simp [Cl, e_TooMany] at hC
  have T : Tx K mg Cl :=
    { at_place_for := A_place_for,
      at_put_in := A_put_in,
      at_fill_with_record := A_fill_with_record,
      at_fill := A_fill,
      at_shelves_of_words := A_shelves_of_words,
      at_same_together := A_same_together,
      at_left_from := A_left_from,
      at_parts_that_fill := A_parts_that_fill,
      at__law_feed := A__law_feed,
      at__law_draw := A__law_draw,
      at__law_same := A__law_same,
      at__law_copy := A__law_copy,
      at__law_row := A__law_row,
      at__law_bump := A__law_bump,
      at__law_fill := A__law_fill,
      at__law_may := A__law_may,
      at__law_done := A__law_done,
      at__law_led := A__law_led,
      at__law_cut := A__law_cut,
      at__law_whole := A__law_whole,
      at__law_told := A__law_told,
      at__law_alike := A__law_alike,
      at__law_compared := A__law_compared,
      at__law_others := A__law_others,
      at__law_parts := A__law_parts,
      at_law := A_law,
      n_abs := PySem.W.mg_none_of X G z_abs,
      n_all := PySem.W.mg_none_of X G z_all,
      n_bool := PySem.W.mg_none_of X G z_bool,
      n_enumerate := PySem.W.mg_none_of X G z_enumerate,
      n_int := PySem.W.mg_none_of X G z_int,
      n_isinstance := PySem.W.mg_none_of X G z_isinstance,
      n_len := PySem.W.mg_none_of X G z_len,
      n_list := PySem.W.mg_none_of X G z_list,
      n_max := PySem.W.mg_none_of X G z_max,
      n_min := PySem.W.mg_none_of X G z_min,
      n_range := PySem.W.mg_none_of X G z_range,
      n_sorted := PySem.W.mg_none_of X G z_sorted,
      n_str := PySem.W.mg_none_of X G z_str,
      n_sum := PySem.W.mg_none_of X G z_sum,
      n_tuple := PySem.W.mg_none_of X G z_tuple,
      c_MOST_JARS := ⟨_, PySem.W.mg_of X G v_MOST_JARS⟩,
      xi_BadRow := ⟨_, PySem.W.mg_of X G aC_BadRow, clI kit_TooMany_BadRow⟩,
      xi_TooMany := ⟨_, PySem.W.mg_of X G aC_TooMany, clI kit_TooMany_TooMany⟩,
      xi_ValueError := ⟨PySem.W.mg_none_of X G z_ValueError, clI kit_TooMany_ValueError⟩,
      xc_ShelfError := ⟨_, PySem.W.mg_of X G aC_ShelfError, clI (PySem.W.exm_ref eX_ShelfError hX_ShelfError tX_ShelfError sub_TooMany_ShelfError)⟩,
      xd := clI ⟨⟨ga_TooMany, gg_TooMany, eC_TooMany, hC_TooMany, ca_TooMany, sgN, sgT, mr_TooMany⟩, ⟨ga_TooMany, gg_TooMany, eC_TooMany, hC_TooMany⟩⟩,
      xh_limit := clI no_TooMany_limit }
  have FI_TooMany := fun_mk (st := s_init_TooMany) lI_TooMany cI_TooMany kI_TooMany
  refine ⟨PySem.W.fnOf "law" "law" (defArgs s_law) (defBody s_law) (defScope s_law) .none kV_law dc_law pm_law an_law cd_law ct_law, fun s v => .of_eq rfl, fun base _ _ => ?_⟩
  have cl_TooMany : Cl "TooMany" = some C_TooMany := by simp [Cl]
  have x_TooMany : ClsD P w K mg base "TooMany" C_TooMany "limit" := ⟨PySem.W.mg_of X G aC_TooMany, ⟨⟨nm_TooMany, q_TooMany, N_TooMany, bs_TooMany, bm_TooMany, sn_TooMany, sub_TooMany, ab_TooMany, col_TooMany, dd_TooMany, m0_TooMany, m1_TooMany, m2_TooMany, m3_TooMany, m5_TooMany, xL_TooMany, rV_TooMany⟩, sa_TooMany, eC_TooMany, tC_TooMany, kC_TooMany⟩, no_TooMany_limit, _, _, _, iC_TooMany, tI_TooMany, FI_TooMany.binds (ps := ["self", "limit"]) (fun _ _ _ _ _ _ us hl => match us, hl with | [_, _], _ => rfl), init_TooMany FI_TooMany⟩
  have h_place_for := has_place_for (P := P) (w := w) (base := base) T
  have h__law_draw := has__law_draw (P := P) (w := w) (base := base) T
  have h__law_copy := has__law_copy (P := P) (w := w) (base := base) T
  have h__law_bump := raw__law_bump (P := P) (w := w) (base := base) T
  have h__law_may := has__law_may (P := P) (w := w) (base := base) T
  have h__law_done := has__law_done (P := P) (w := w) (base := base) T
  have h__law_whole := has__law_whole (P := P) (w := w) (base := base) T
  have h_put_in := raw_put_in (P := P) (w := w) (base := base) T h_place_for
  have h__law_row := has__law_row (P := P) (w := w) (base := base) T h__law_draw
  have h__law_fill := has__law_fill (P := P) (w := w) (base := base) T h__law_bump
  have h__law_led := has__law_led (P := P) (w := w) (base := base) T h__law_draw h__law_may h__law_done
  have h__law_cut := has__law_cut (P := P) (w := w) (base := base) T h__law_draw
  have h__law_others := has__law_others (P := P) (w := w) (base := base) T h__law_draw
  have h_fill_with_record := has_fill_with_record (P := P) (w := w) (base := base) T h_put_in
  have h__law_alike := has__law_alike (P := P) (w := w) (base := base) T h__law_fill
  have h_fill := has_fill (P := P) (w := w) (base := base) T h_fill_with_record
  have h_shelves_of_words := has_shelves_of_words (P := P) (w := w) (base := base) T h_fill x_TooMany cl_TooMany
  have h_same_together := has_same_together (P := P) (w := w) (base := base) T h_fill
  have h_left_from := has_left_from (P := P) (w := w) (base := base) T h_fill
  have h_parts_that_fill := has_parts_that_fill (P := P) (w := w) (base := base) T h_fill
  have h__law_same := has_same_n (P := P) (w := w) (base := base) T 9
  have h__law_told := has__law_told (P := P) (w := w) (base := base) T h__law_copy h_shelves_of_words h__law_same
  have h__law_compared := has__law_compared (P := P) (w := w) (base := base) T h__law_copy h_same_together h__law_same h__law_alike
  have h__law_parts := has__law_parts (P := P) (w := w) (base := base) T h__law_copy h__law_fill h__law_same h_left_from h_parts_that_fill
  exact has_law T h__law_draw h__law_row h__law_cut h__law_whole h__law_led h__law_same h__law_told h__law_fill h__law_compared h__law_others h__law_parts F_law sem_law

end K08
open PySem PySem.W PyProof.Rows in
set_option maxRecDepth 100000 in
set_option maxHeartbeats 0 in
theorem PySem.Challenge.cw_spelledrows_k08_words_together_holds : PySem.Challenge.rw_spelledrows_k08_words_together.Holds := by
  w_on; o_law; k_head; (case hw => w_witness2)
  k_fill
  refine DL.walk (l := PySem.Challenge.rw_spelledrows_k08_words_together) 11 ⟨rfl, by decide, by decide⟩ rfl rfl (fun w h Y => PySem.W.kIn_of Y) ?F
  case F =>
    intro w mg fa h KX G hmg
    refine' K08.all_mk KX G hmg ?aC_BadRow ?aC_ShelfError ?aC_TooMany ?xL_TooMany ?rV_TooMany ?sa_TooMany ?ga_TooMany ?gg_TooMany ?no_TooMany_limit ?iC_TooMany ?tI_TooMany ?lI_TooMany ?cI_TooMany ?kI_TooMany ?kC_TooMany ?eC_TooMany ?tC_TooMany ?hC_TooMany ?ca_TooMany ?mr_TooMany ?sgN ?sgT ?kit_TooMany_BadRow ?kit_TooMany_TooMany ?kit_TooMany_ValueError ?sub_TooMany_ShelfError ?eX_ShelfError ?tX_ShelfError ?hX_ShelfError ?z_abs ?z_all ?z_bool ?z_enumerate ?z_int ?z_isinstance ?z_len ?z_list ?z_max ?z_min ?z_range ?z_sorted ?z_str ?z_sum ?z_tuple ?z_ValueError ?v_MOST_JARS ?a_place_for ?l_place_for ?c_place_for ?k_place_for ?a_put_in ?l_put_in ?c_put_in ?k_put_in ?a_fill_with_record ?l_fill_with_record ?c_fill_with_record ?k_fill_with_record ?a_fill ?l_fill ?c_fill ?k_fill ?a_shelves_of_words ?l_shelves_of_words ?c_shelves_of_words ?k_shelves_of_words ?a_same_together ?l_same_together ?c_same_together ?k_same_together ?a_left_from ?l_left_from ?c_left_from ?k_left_from ?a_parts_that_fill ?l_parts_that_fill ?c_parts_that_fill ?k_parts_that_fill ?a__law_feed ?l__law_feed ?c__law_feed ?k__law_feed ?a__law_draw ?l__law_draw ?c__law_draw ?k__law_draw ?a__law_same ?l__law_same ?c__law_same ?k__law_same ?a__law_copy ?l__law_copy ?c__law_copy ?k__law_copy ?a__law_row ?l__law_row ?c__law_row ?k__law_row ?a__law_bump ?l__law_bump ?c__law_bump ?k__law_bump ?a__law_fill ?l__law_fill ?c__law_fill ?k__law_fill ?a__law_may ?l__law_may ?c__law_may ?k__law_may ?a__law_done ?l__law_done ?c__law_done ?k__law_done ?a__law_led ?l__law_led ?c__law_led ?k__law_led ?a__law_cut ?l__law_cut ?c__law_cut ?k__law_cut ?a__law_whole ?l__law_whole ?c__law_whole ?k__law_whole ?a__law_told ?l__law_told ?c__law_told ?k__law_told ?a__law_alike ?l__law_alike ?c__law_alike ?k__law_alike ?a__law_compared ?l__law_compared ?c__law_compared ?k__law_compared ?a__law_others ?l__law_others ?c__law_others ?k__law_others ?a__law_parts ?l__law_parts ?c__law_parts ?k__law_parts ?a_law ?l_law ?c_law ?k_law
    (case aC_BadRow => k_is)
    (case aC_ShelfError => k_is)
    (case aC_TooMany => k_is)
    (case xL_TooMany => k_is)
    (case rV_TooMany => first | rfl | decide +kernel | k_is)
    (case sa_TooMany => k_is)
    (case ga_TooMany => k_is)
    (case gg_TooMany => k_is)
    (case no_TooMany_limit => k_is)
    (case iC_TooMany => k_is)
    (case tI_TooMany => k_is)
    (case lI_TooMany => k_is)
    (case cI_TooMany => k_is)
    (case kI_TooMany => k_is)
    (case kC_TooMany => k_is)
    (case eC_TooMany => k_is)
    (case tC_TooMany => k_is)
    (case hC_TooMany => k_is)
    (case ca_TooMany => k_is)
    (case mr_TooMany => k_is)
    (case sgN => k_is)
    (case sgT => k_is)
    (case kit_TooMany_BadRow => first | k_is | rfl)
    (case kit_TooMany_TooMany => first | k_is | rfl)
    (case kit_TooMany_ValueError => first | k_is | rfl)
    (case sub_TooMany_ShelfError => first | k_is | rfl)
    (case eX_ShelfError => k_is)
    (case tX_ShelfError => k_is)
    (case hX_ShelfError => k_is)
    (case z_abs => k_is)
    (case z_all => k_is)
    (case z_bool => k_is)
    (case z_enumerate => k_is)
    (case z_int => k_is)
    (case z_isinstance => k_is)
    (case z_len => k_is)
    (case z_list => k_is)
    (case z_max => k_is)
    (case z_min => k_is)
    (case z_range => k_is)
    (case z_sorted => k_is)
    (case z_str => k_is)
    (case z_sum => k_is)
    (case z_tuple => k_is)
    (case z_ValueError => k_is)
    (case v_MOST_JARS => k_is)
    (case a_place_for => k_is)
    (case l_place_for => k_is)
    (case c_place_for => k_is)
    (case k_place_for => k_is)
    (case a_put_in => k_is)
    (case l_put_in => k_is)
    (case c_put_in => k_is)
    (case k_put_in => k_is)
    (case a_fill_with_record => k_is)
    (case l_fill_with_record => k_is)
    (case c_fill_with_record => k_is)
    (case k_fill_with_record => k_is)
    (case a_fill => k_is)
    (case l_fill => k_is)
    (case c_fill => k_is)
    (case k_fill => k_is)
    (case a_shelves_of_words => k_is)
    (case l_shelves_of_words => k_is)
    (case c_shelves_of_words => k_is)
    (case k_shelves_of_words => k_is)
    (case a_same_together => k_is)
    (case l_same_together => k_is)
    (case c_same_together => k_is)
    (case k_same_together => k_is)
    (case a_left_from => k_is)
    (case l_left_from => k_is)
    (case c_left_from => k_is)
    (case k_left_from => k_is)
    (case a_parts_that_fill => k_is)
    (case l_parts_that_fill => k_is)
    (case c_parts_that_fill => k_is)
    (case k_parts_that_fill => k_is)
    (case a__law_feed => k_is)
    (case l__law_feed => k_is)
    (case c__law_feed => k_is)
    (case k__law_feed => k_is)
    (case a__law_draw => k_is)
    (case l__law_draw => k_is)
    (case c__law_draw => k_is)
    (case k__law_draw => k_is)
    (case a__law_same => k_is)
    (case l__law_same => k_is)
    (case c__law_same => k_is)
    (case k__law_same => k_is)
    (case a__law_copy => k_is)
    (case l__law_copy => k_is)
    (case c__law_copy => k_is)
    (case k__law_copy => k_is)
    (case a__law_row => k_is)
    (case l__law_row => k_is)
    (case c__law_row => k_is)
    (case k__law_row => k_is)
    (case a__law_bump => k_is)
    (case l__law_bump => k_is)
    (case c__law_bump => k_is)
    (case k__law_bump => k_is)
    (case a__law_fill => k_is)
    (case l__law_fill => k_is)
    (case c__law_fill => k_is)
    (case k__law_fill => k_is)
    (case a__law_may => k_is)
    (case l__law_may => k_is)
    (case c__law_may => k_is)
    (case k__law_may => k_is)
    (case a__law_done => k_is)
    (case l__law_done => k_is)
    (case c__law_done => k_is)
    (case k__law_done => k_is)
    (case a__law_led => k_is)
    (case l__law_led => k_is)
    (case c__law_led => k_is)
    (case k__law_led => k_is)
    (case a__law_cut => k_is)
    (case l__law_cut => k_is)
    (case c__law_cut => k_is)
    (case k__law_cut => k_is)
    (case a__law_whole => k_is)
    (case l__law_whole => k_is)
    (case c__law_whole => k_is)
    (case k__law_whole => k_is)
    (case a__law_told => k_is)
    (case l__law_told => k_is)
    (case c__law_told => k_is)
    (case k__law_told => k_is)
    (case a__law_alike => k_is)
    (case l__law_alike => k_is)
    (case c__law_alike => k_is)
    (case k__law_alike => k_is)
    (case a__law_compared => k_is)
    (case l__law_compared => k_is)
    (case c__law_compared => k_is)
    (case k__law_compared => k_is)
    (case a__law_others => k_is)
    (case l__law_others => k_is)
    (case c__law_others => k_is)
    (case k__law_others => k_is)
    (case a__law_parts => k_is)
    (case l__law_parts => k_is)
    (case c__law_parts => k_is)
    (case k__law_parts => k_is)
    (case a_law => k_is)
    (case l_law => k_is)
    (case c_law => k_is)
    (case k_law => k_is)
end
#print axioms PySem.Challenge.cw_spelledrows_k08_words_together_holds
