import PyProof.Rows.All
import Wide.All
import OpenK.AllK
import Wide.FinOn
import HandS.ForMost
import HandS.ForExc
import HandS.TupMul
import HandS.TupAny
import HandS.Zip
import HandS.Conv
import HandS.Flow
import HandS.Deep
import HandS.IsInst
import KE.KDictKeyed
import HandS.Style
import KE.GoesMore
import HandS.Walk
import HandS.More
import HandS.SetFor
import HandS.ExcIs
import HandS.CallSlots
import HandS.ExcValue
import PyProof.ExcBaseAll.ValueError
import HandS.Iter
import HandS.TupLen
import HandS.Dict
import KE.SortData
import KE.KDictCopyH
import HandS.Strs
import KE.GoesRaise
import KE.DataMinMax
import KE.KDictPairs
import HandS.TupSets
import PySem.Challenge.RW_rowsong_k80_whole_made
set_option Elab.async false
set_option linter.all false
set_option maxRecDepth 100000
/-! PL0: plain data, the two-layer heap, what a slot holds, what an expression and a statement denote. -/
namespace PL
open PySem PySem.Spec PyProof.Rows L2

inductive D where
  | non | bl (b : Bool) | int (i : Int) | str (x : Str) | tup (ds : List D) | lst (ds : List D)

inductive Out (α : Type) where
  | ok (a : α) | rs (c : Str) | no

def Out.bind {α β : Type} : Out α → (α → Out β) → Out β
  | .ok a, k => k a
  | .rs c, _ => .rs c
  | .no, _ => .no
@[simp] theorem bind_ok {α β : Type} (a : α) (k : α → Out β) : (Out.ok a).bind k = k a := rfl
@[simp] theorem bind_rs {α β : Type} (c : Str) (k : α → Out β) : (Out.rs c).bind k = .rs c := rfl
@[simp] theorem bind_no {α β : Type} (k : α → Out β) : (Out.no : Out α).bind k = .no := rfl

/-! ### heaps -/
def Ex (H H' : Hp) : Prop := ∀ a o, H a = some o → H' a = some o
theorem Ex.refl (H : Hp) : Ex H H := fun _ _ h => h
theorem Ex.trans {H H1 H2 : Hp} (a : Ex H H1) (b : Ex H1 H2) : Ex H H2 := fun x o h => b x o (a x o h)
theorem Ex.new {H : Hp} {p : Addr} {o : HO} (h : H p = none) : Ex H (upd H p o) := fun a u e => by
  rw [upd_ne (ne_of_none e h)]; exact e
theorem Ex.back {H H' : Hp} (e : Ex H H') {p : Addr} (h : H' p = none) : H p = none := by
  cases h1 : H p with
  | none => rfl
  | some o => rw [e p o h1] at h; cases h
theorem Ex.mut {H H' : Hp} {p : Addr} {o : HO} (e : Ex H H') (h : H p = none) : Ex H (upd H' p o) := fun a u ha => by
  rw [upd_ne (ne_of_none ha h)]; exact e a u ha
theorem Ex.both {G H : Hp} {p : Addr} {o : HO} (e : Ex G H) : Ex (upd G p o) (upd H p o) := fun a u ha => by
  by_cases h : a = p
  · subst h; rw [upd_same] at ha ⊢; exact ha
  · rw [upd_ne h] at ha ⊢; exact e a u ha
theorem ex_rd {H H' : Hp} {a : Addr} {u : HO} (e : Ex H H') (h : Rd H a u) : Rd H' a u := by
  rcases h with h | ⟨o, h⟩
  · exact .inl (e a _ h)
  · exact .inr ⟨o, e a _ h⟩
theorem ex_l {K : PySem.W.Frag} {H H' : Hp} {a : Addr} {xs : List V} (e : Ex H H') (h : SqL K H a xs) : SqL K H' a xs := by
  rcases h with h | h
  · exact .inl (ex_rd e h)
  · exact .inr h
theorem ex_t {K : PySem.W.Frag} {H H' : Hp} {a : Addr} {xs : List V} (e : Ex H H') (h : SqT K H a xs) : SqT K H' a xs := by
  rcases h with h | h
  · exact .inl (ex_rd e h)
  · exact .inr h

/-! ### a value stands for data in G -/
mutual
inductive Rp (K : PySem.W.Frag) (G : Hp) : V → D → Prop
  | non : Rp K G .non .non
  | bl (b : Bool) : Rp K G (.bl b) (.bl b)
  | int (i : Int) : Rp K G (.int i) (.int i)
  | str (x : Str) : Rp K G (.str x) (.str x)
  | lst {a : Addr} {xs : List V} {ds : List D} : SqL K G a xs → RpAll K G xs ds → Rp K G (.ref a) (.lst ds)
  | tup {a : Addr} {xs : List V} {ds : List D} : SqT K G a xs → RpAll K G xs ds → Rp K G (.ref a) (.tup ds)
inductive RpAll (K : PySem.W.Frag) (G : Hp) : List V → List D → Prop
  | nil : RpAll K G [] []
  | cons {v : V} {vs : List V} {d : D} {ds : List D} : Rp K G v d → RpAll K G vs ds → RpAll K G (v :: vs) (d :: ds)
end
section
variable {K : PySem.W.Frag} {G G' H : Hp}
mutual
theorem Rp.ex (e : Ex G G') : ∀ (d : D) (v : V), Rp K G v d → Rp K G' v d
  | .non, _, h => by cases h; exact .non
  | .bl b, _, h => by cases h; exact .bl b
  | .int i, _, h => by cases h; exact .int i
  | .str x, _, h => by cases h; exact .str x
  | .lst ds, _, h => by
    cases h with
    | lst hs ha => exact .lst (ex_l e hs) (RpAll.ex e ds _ ha)
  | .tup ds, _, h => by
    cases h with
    | tup hs ha => exact .tup (ex_t e hs) (RpAll.ex e ds _ ha)
theorem RpAll.ex (e : Ex G G') : ∀ (ds : List D) (vs : List V), RpAll K G vs ds → RpAll K G' vs ds
  | [], _, h => by cases h; exact .nil
  | d :: ds, _, h => by
    cases h with
    | cons h1 h2 => exact .cons (Rp.ex e d _ h1) (RpAll.ex e ds _ h2)
end
theorem Rp.up {d : D} {v : V} (h : Rp K G v d) (e : Ex G G') : Rp K G' v d := Rp.ex e d v h
theorem RpAll.up {ds : List D} {vs : List V} (h : RpAll K G vs ds) (e : Ex G G') : RpAll K G' vs ds := RpAll.ex e ds vs h
theorem RpAll.length : ∀ {vs : List V} {ds : List D}, RpAll K G vs ds → vs.length = ds.length
  | _, [], h => by cases h; rfl
  | _, _ :: ds, h => by
    cases h with
    | cons _ h2 => rw [List.length_cons, List.length_cons, RpAll.length h2]
theorem RpAll.get : ∀ {vs : List V} {ds : List D} {i : Nat} {v : V}, RpAll K G vs ds → vs[i]? = some v → ∃ d, ds[i]? = some d ∧ Rp K G v d
  | _, [], i, v, h, e => by cases h; simp at e
  | _, d :: ds, 0, v, h, e => by
    cases h with
    | cons h1 h2 => simp at e; subst e; exact ⟨d, rfl, h1⟩
  | _, d :: ds, i + 1, v, h, e => by
    cases h with
    | cons h1 h2 => exact RpAll.get (i := i) h2 (by simpa using e)
theorem RpAll.getD : ∀ {vs : List V} {ds : List D} {i : Nat} {d : D}, RpAll K G vs ds → ds[i]? = some d → ∃ v, vs[i]? = some v ∧ Rp K G v d
  | _, [], i, v, h, e => by cases h; simp at e
  | _, d :: ds, 0, v, h, e => by
    cases h with
    | cons h1 h2 => simp at e; subst e; exact ⟨_, rfl, h1⟩
  | _, d :: ds, i + 1, v, h, e => by
    cases h with
    | cons h1 h2 => exact RpAll.getD (i := i) h2 (by simpa using e)
theorem RpAll.append : ∀ {vs ws : List V} {ds es : List D}, RpAll K G vs ds → RpAll K G ws es → RpAll K G (vs ++ ws) (ds ++ es)
  | _, _, [], _, h, h' => by cases h; exact h'
  | _, _, _ :: _, _, h, h' => by
    cases h with
    | cons h1 h2 => exact .cons h1 (RpAll.append h2 h')
theorem RpAll.drop : ∀ (n : Nat) {vs : List V} {ds : List D}, RpAll K G vs ds → RpAll K G (vs.drop n) (ds.drop n)
  | 0, _, _, h => h
  | n + 1, _, [], h => by cases h; exact .nil
  | n + 1, _, _ :: _, h => by
    cases h with
    | cons _ h2 => exact RpAll.drop n h2
theorem RpAll.take : ∀ (n : Nat) {vs : List V} {ds : List D}, RpAll K G vs ds → RpAll K G (vs.take n) (ds.take n)
  | 0, _, _, _ => .nil
  | n + 1, _, [], h => by cases h; exact .nil
  | n + 1, _, _ :: _, h => by
    cases h with
    | cons h1 h2 => exact .cons h1 (RpAll.take n h2)
theorem RpAll.set {v : V} {d : D} (r : Rp K G v d) : ∀ (i : Nat) {vs : List V} {ds : List D}, RpAll K G vs ds → RpAll K G (vs.set i v) (ds.set i d)
  | _, _, [], h => by cases h; exact .nil
  | 0, _, _ :: _, h => by
    cases h with
    | cons h1 h2 => exact .cons r h2
  | i + 1, _, _ :: _, h => by
    cases h with
    | cons h1 h2 => exact .cons h1 (RpAll.set r i h2)
theorem RpAll.rep {vs : List V} {ds : List D} (h : RpAll K G vs ds) : ∀ n : Nat, RpAll K G (List.replicate n vs).flatten (List.replicate n ds).flatten
  | 0 => .nil
  | n + 1 => by
    rw [List.replicate_succ, List.replicate_succ, List.flatten_cons, List.flatten_cons]
    exact h.append (RpAll.rep h n)
theorem RpAll.reverse : ∀ {vs : List V} {ds : List D}, RpAll K G vs ds → RpAll K G vs.reverse ds.reverse
  | _, [], h => by cases h; exact .nil
  | _, _ :: _, h => by
    cases h with
    | cons h1 h2 =>
      rw [List.reverse_cons, List.reverse_cons]
      exact (RpAll.reverse h2).append (.cons h1 .nil)
theorem RpAll.ints : ∀ ns : List Int, RpAll K G (ns.map V.int) (ns.map D.int)
  | [] => .nil
  | i :: ns => .cons (.int i) (RpAll.ints ns)
end

/-! ### going on: G is what is never changed again, H all that is tracked -/
structure Ext (G H G' H' : Hp) : Prop where
  gg : Ex G G'
  hh : Ex H H'
  gh : Ex G' H'
  fr : ∀ a o, H a = some o → G a = none → G' a = none
section
variable {G H G1 H1 G2 H2 : Hp}
theorem Ext.refl (e : Ex G H) : Ext G H G H := ⟨Ex.refl _, Ex.refl _, e, fun _ _ _ h => h⟩
theorem Ext.trans (a : Ext G H G1 H1) (b : Ext G1 H1 G2 H2) : Ext G H G2 H2 :=
  ⟨a.gg.trans b.gg, a.hh.trans b.hh, b.gh, fun c o h n => b.fr c o (a.hh c o h) (a.fr c o h n)⟩
/-- a new object that is never changed -/
theorem Ext.lay {p : Addr} {o : HO} (e : Ex G H) (h : H p = none) : Ext G H (upd G p o) (upd H p o) :=
  ⟨Ex.new (e.back h), Ex.new h, e.both, fun a u ha n => by rw [upd_ne (ne_of_none ha h)]; exact n⟩
/-- a new object that stays open to change -/
theorem Ext.open_ {p : Addr} {o : HO} (e : Ex G H) (h : H p = none) : Ext G H G (upd H p o) :=
  ⟨Ex.refl _, Ex.new h, fun a u ha => by rw [upd_ne (ne_of_none (e a u ha) h)]; exact e a u ha, fun _ _ _ n => n⟩
/-- .. closed -/
theorem Ext.close {p : Addr} {o : HO} (x : Ext G H G1 H1) (h : H p = none) (h1 : H1 p = some o) (g1 : G1 p = none) : Ext G H (upd G1 p o) H1 :=
  ⟨x.gg.trans (Ex.new g1), x.hh, fun a u ha => by
    by_cases e : a = p
    · subst e; rw [upd_same] at ha; rw [h1]; exact ha
    · rw [upd_ne e] at ha; exact x.gh a u ha, fun a u ha n => by rw [upd_ne (ne_of_none ha h)]; exact x.fr a u ha n⟩
end

/-! ### slots -/
inductive Sl where
  | un
  | val (d : D)
  | own (ds : List D)
  | exc (c : Str)
  | dct (kvs : List (D × D))
  | vdc (kvs : List (D × D))
abbrev Ev := List Sl

/-- an exception of the class cls, kept -/
def ExC (cls : Value) (a : Addr) : HO := .ext fun h => ∃ (oe : Obj) (vs : Array Value), h.get? a = some oe ∧ Zc cls none oe ∧ oe.data = .fields vs
/-! dicts whose keys are nested tuples -/
mutual
def nkD : D → NestedKey
  | .non => .none
  | .bl b => .num (if b = true then 1 else 0)
  | .int i => .num i
  | .str x => .text x
  | .tup ds => .tup (nkAll ds)
  | .lst _ => .none
def nkAll : List D → List NestedKey
  | [] => []
  | d :: ds => nkD d :: nkAll ds
end
mutual
def nkOk : D → Bool
  | .lst _ => false
  | .tup ds => nkOkAll ds
  | _ => true
def nkOkAll : List D → Bool
  | [] => true
  | d :: ds => nkOk d && nkOkAll ds
end
def keyOk : D → Bool
  | .tup ds => nkOkAll ds && decide ((nkD (.tup ds)).depth ≤ 8)
  | _ => false
def entN (w : World) (x : NestedKey × Addr × Value) : DictEntry := ⟨x.1.hash w, .ref x.2.1, x.2.2⟩
def DctO (w : World) (a : Addr) (xs : List (NestedKey × Addr × Value)) : HO := .ext fun h => ∃ o es ep, h.get? a = some o ∧ o.ExactDict ∧ o.data = .dict es ep ∧ es.toList = xs.map (entN w) ∧ (xs.map (·.1)).Nodup ∧ xs.length ≤ sizeLine ∧ (a == sysModules) = false
inductive DctR (K : PySem.W.Frag) (G : Hp) : List (NestedKey × Addr × Value) → List (D × D) → Prop
  | nil : DctR K G [] []
  | cons {x : NestedKey × Addr × Value} {p : D × D} {xs : List (NestedKey × Addr × Value)} {ps : List (D × D)} : x.1 = nkD p.1 → keyOk p.1 = true → Rp K G (.ref x.2.1) p.1 → (∃ v, RelV v x.2.2 ∧ Rp K G v p.2) → DctR K G xs ps → DctR K G (x :: xs) (p :: ps)
theorem DctR.up {K : PySem.W.Frag} {G G' : Hp} {xs : List (NestedKey × Addr × Value)} {ps : List (D × D)} (h : DctR K G xs ps) (e : Ex G G') : DctR K G' xs ps := by
  induction h with
  | nil => exact .nil
  | cons h1 h2 h3 h4 _ ih =>
    obtain ⟨v, r1, r2⟩ := h4
    exact .cons h1 h2 (h3.up e) ⟨v, r1, r2.up e⟩ ih
def SlOk (w : World) (K : PySem.W.Frag) (mg : Str → Option Value) (H0 G H : Hp) (ov : Option (Option V)) : Option Sl → Prop
  | some (.val d) => ∃ v, ov = some (some v) ∧ Rp K G v d
  | some (.own ds) => ∃ a vs, ov = some (some (.ref a)) ∧ H a = some (.lst vs) ∧ G a = none ∧ H0 a = none ∧ RpAll K G vs ds
  | some (.dct kvs) => ∃ a xs, ov = some (some (.ref a)) ∧ H a = some (DctO w a xs) ∧ G a = none ∧ H0 a = none ∧ DctR K G xs kvs
  | some (.exc c) => ∃ a u, ov = some (some (.ref a)) ∧ mg c = some u ∧ G a = some (ExC u a)
  | some (.vdc kvs) => ∃ a xs o, ov = some (some (.ref a)) ∧ H a = some (DctO w a xs) ∧ H0 a = some o ∧ DctR K G xs kvs
  | _ => True

structure EnvOk (w : World) (K : PySem.W.Frag) (mg : Str → Option Value) (G0 H0 : Hp) (ε : Ev) (σ : L2.St) (G H : Hp) : Prop where
  ext : Ext G0 H0 G H
  len : ε.length = σ.length
  sl : ∀ i : Nat, SlOk w K mg H0 G H σ[i]? ε[i]?
  ap : ∀ (i j : Nat) (a : Addr) (ds es : List D), i ≠ j → ε[i]? = some (.own ds) → ε[j]? = some (.own es) → σ[i]? = some (some (.ref a)) → σ[j]? = some (some (.ref a)) → False
  ad : ∀ (i j : Nat) (a : Addr) (ds es : List (D × D)), i ≠ j → ε[i]? = some (.dct ds) → ε[j]? = some (.dct es) → σ[i]? = some (some (.ref a)) → σ[j]? = some (some (.ref a)) → False

section
variable {w : World} {K : PySem.W.Frag} {mg : Str → Option Value} {G0 H0 G H G' H' : Hp} {ε : Ev} {σ : L2.St}
theorem EnvOk.gh (e : EnvOk w K mg G0 H0 ε σ G H) : Ex G H := e.ext.gh
theorem SlOk.on {ov : Option (Option V)} {s : Option Sl} (x : Ext G H G' H') (h : SlOk w K mg H0 G H ov s) : SlOk w K mg H0 G' H' ov s := by
  cases s with
  | none => trivial
  | some s =>
    cases s with
    | un => trivial
    | val d => obtain ⟨v, e, r⟩ := h; exact ⟨v, e, r.up x.gg⟩
    | own ds => obtain ⟨a, vs, e, h1, h2, h3, r⟩ := h; exact ⟨a, vs, e, x.hh _ _ h1, x.fr _ _ h1 h2, h3, r.up x.gg⟩
    | exc c => obtain ⟨a, u, e, h1, h2⟩ := h; exact ⟨a, u, e, h1, x.gg _ _ h2⟩
    | dct kvs => obtain ⟨a, xs, e, h1, h2, h3, r⟩ := h; exact ⟨a, xs, e, x.hh _ _ h1, x.fr _ _ h1 h2, h3, r.up x.gg⟩
    | vdc kvs => obtain ⟨a, xs, o, e, h1, h2, r⟩ := h; exact ⟨a, xs, o, e, x.hh _ _ h1, h2, r.up x.gg⟩
theorem EnvOk.on (e : EnvOk w K mg G0 H0 ε σ G H) (x : Ext G H G' H') : EnvOk w K mg G0 H0 ε σ G' H' :=
  ⟨e.ext.trans x, e.len, fun i => (e.sl i).on x, e.ap, e.ad⟩
theorem EnvOk.val {i : Nat} {d : D} (e : EnvOk w K mg G0 H0 ε σ G H) (h : ε[i]? = some (.val d)) : ∃ v, σ[i]? = some (some v) ∧ Rp K G v d := by
  have := e.sl i; rw [h] at this; exact this
theorem EnvOk.own {i : Nat} {ds : List D} (e : EnvOk w K mg G0 H0 ε σ G H) (h : ε[i]? = some (.own ds)) :
    ∃ a vs, σ[i]? = some (some (.ref a)) ∧ H a = some (.lst vs) ∧ G a = none ∧ H0 a = none ∧ RpAll K G vs ds := by
  have := e.sl i; rw [h] at this; exact this
theorem set_none {α : Type} {l : List α} {i : Nat} {x : α} (h : ¬ i < l.length) : (l.set i x)[i]? = none := List.getElem?_eq_none (by rw [List.length_set]; omega)
theorem lt_of_get {α : Type} {l : List α} {i : Nat} {x : α} (h : l[i]? = some x) : i < l.length := (List.getElem?_eq_some_iff.mp h).1
/-- a slot gets a value that is never changed -/
theorem EnvOk.setVal {i : Nat} {v : V} {d : D} (e : EnvOk w K mg G0 H0 ε σ G H) (r : Rp K G v d) : EnvOk w K mg G0 H0 (ε.set i (.val d)) (σ.set i (some v)) G H := by
  refine ⟨e.ext, by rw [List.length_set, List.length_set]; exact e.len, fun j => ?_, fun j k a ds es hjk h1 h2 h3 h4 => ?_, fun j k a ds es hjk h1 h2 h3 h4 => ?_⟩
  · by_cases hj : i = j
    · subst hj
      by_cases hi : i < ε.length
      · rw [List.getElem?_set_self hi, List.getElem?_set_self (by rw [← e.len]; exact hi)]
        exact ⟨v, rfl, r⟩
      · rw [set_none (l := ε) hi]; trivial
    · rw [List.getElem?_set_ne hj, List.getElem?_set_ne hj]; exact e.sl j
  · have n1 : i ≠ j := fun z => by
      subst z
      by_cases hi : i < ε.length
      · rw [List.getElem?_set_self hi] at h1; cases h1
      · rw [List.getElem?_eq_none (by rw [List.length_set]; omega)] at h1; cases h1
    have n2 : i ≠ k := fun z => by
      subst z
      by_cases hi : i < ε.length
      · rw [List.getElem?_set_self hi] at h2; cases h2
      · rw [List.getElem?_eq_none (by rw [List.length_set]; omega)] at h2; cases h2
    rw [List.getElem?_set_ne n1] at h1 h3
    rw [List.getElem?_set_ne n2] at h2 h4
    exact e.ap j k a ds es hjk h1 h2 h3 h4
  · have n1 : i ≠ j := fun z => by
      subst z
      by_cases hi : i < ε.length
      · rw [List.getElem?_set_self hi] at h1; cases h1
      · rw [List.getElem?_eq_none (by rw [List.length_set]; omega)] at h1; cases h1
    have n2 : i ≠ k := fun z => by
      subst z
      by_cases hi : i < ε.length
      · rw [List.getElem?_set_self hi] at h2; cases h2
      · rw [List.getElem?_eq_none (by rw [List.length_set]; omega)] at h2; cases h2
    rw [List.getElem?_set_ne n1] at h1 h3
    rw [List.getElem?_set_ne n2] at h2 h4
    exact e.ad j k a ds es hjk h1 h2 h3 h4
/-- a slot is forgotten -/
theorem EnvOk.setUn {i : Nat} {o : Option V} (e : EnvOk w K mg G0 H0 ε σ G H) : EnvOk w K mg G0 H0 (ε.set i .un) (σ.set i o) G H := by
  refine ⟨e.ext, by rw [List.length_set, List.length_set]; exact e.len, fun j => ?_, fun j k a ds es hjk h1 h2 h3 h4 => ?_, fun j k a ds es hjk h1 h2 h3 h4 => ?_⟩
  · by_cases hj : i = j
    · subst hj
      by_cases hi : i < ε.length
      · rw [List.getElem?_set_self hi]; trivial
      · rw [set_none (l := ε) hi]; trivial
    · rw [List.getElem?_set_ne hj, List.getElem?_set_ne hj]; exact e.sl j
  · have n1 : i ≠ j := fun z => by
      subst z
      by_cases hi : i < ε.length
      · rw [List.getElem?_set_self hi] at h1; cases h1
      · rw [List.getElem?_eq_none (by rw [List.length_set]; omega)] at h1; cases h1
    have n2 : i ≠ k := fun z => by
      subst z
      by_cases hi : i < ε.length
      · rw [List.getElem?_set_self hi] at h2; cases h2
      · rw [List.getElem?_eq_none (by rw [List.length_set]; omega)] at h2; cases h2
    rw [List.getElem?_set_ne n1] at h1 h3
    rw [List.getElem?_set_ne n2] at h2 h4
    exact e.ap j k a ds es hjk h1 h2 h3 h4
  · have n1 : i ≠ j := fun z => by
      subst z
      by_cases hi : i < ε.length
      · rw [List.getElem?_set_self hi] at h1; cases h1
      · rw [List.getElem?_eq_none (by rw [List.length_set]; omega)] at h1; cases h1
    have n2 : i ≠ k := fun z => by
      subst z
      by_cases hi : i < ε.length
      · rw [List.getElem?_set_self hi] at h2; cases h2
      · rw [List.getElem?_eq_none (by rw [List.length_set]; omega)] at h2; cases h2
    rw [List.getElem?_set_ne n1] at h1 h3
    rw [List.getElem?_set_ne n2] at h2 h4
    exact e.ad j k a ds es hjk h1 h2 h3 h4
/-- a slot gets a new list, open to change -/
theorem EnvOk.setOwn {i : Nat} {p : Addr} {vs : List V} {ds : List D} (e : EnvOk w K mg G0 H0 ε σ G H) (hH : H p = some (.lst vs)) (hG : G p = none) (h0 : H0 p = none) (r : RpAll K G vs ds)
    (nw : ∀ (j : Nat) (es : List D), ε[j]? = some (.own es) → σ[j]? = some (some (.ref p)) → j = i) : EnvOk w K mg G0 H0 (ε.set i (.own ds)) (σ.set i (some (.ref p))) G H := by
  refine ⟨e.ext, by rw [List.length_set, List.length_set]; exact e.len, fun j => ?_, fun j k a ds' es hjk h1 h2 h3 h4 => ?_, fun j k a ds' es hjk h1 h2 h3 h4 => ?_⟩
  · by_cases hj : i = j
    · subst hj
      by_cases hi : i < ε.length
      · rw [List.getElem?_set_self hi, List.getElem?_set_self (by rw [← e.len]; exact hi)]
        exact ⟨p, vs, rfl, hH, hG, h0, r⟩
      · rw [set_none (l := ε) hi]; trivial
    · rw [List.getElem?_set_ne hj, List.getElem?_set_ne hj]; exact e.sl j
  · by_cases n1 : i = j
    · subst n1
      rw [List.getElem?_set_ne hjk] at h2 h4
      have hi : i < (σ.set i (some (V.ref p))).length := lt_of_get h3
      rw [List.length_set] at hi
      rw [List.getElem?_set_self hi] at h3
      cases h3
      exact hjk (nw k es h2 h4).symm
    · rw [List.getElem?_set_ne n1] at h1 h3
      by_cases n2 : i = k
      · subst n2
        have hi : i < (σ.set i (some (V.ref p))).length := lt_of_get h4
        rw [List.length_set] at hi
        rw [List.getElem?_set_self hi] at h4
        cases h4
        exact hjk (nw j ds' h1 h3)
      · rw [List.getElem?_set_ne n2] at h2 h4
        exact e.ap j k a ds' es hjk h1 h2 h3 h4
  · have n1 : i ≠ j := fun z => by
      subst z
      by_cases hi : i < ε.length
      · rw [List.getElem?_set_self hi] at h1; cases h1
      · rw [List.getElem?_eq_none (by rw [List.length_set]; omega)] at h1; cases h1
    have n2 : i ≠ k := fun z => by
      subst z
      by_cases hi : i < ε.length
      · rw [List.getElem?_set_self hi] at h2; cases h2
      · rw [List.getElem?_eq_none (by rw [List.length_set]; omega)] at h2; cases h2
    rw [List.getElem?_set_ne n1] at h1 h3
    rw [List.getElem?_set_ne n2] at h2 h4
    exact e.ad j k a ds' es hjk h1 h2 h3 h4
/-- the list that a slot holds is changed -/
theorem EnvOk.change {i : Nat} {a : Addr} {vs vs' : List V} {ds ds' : List D} (e : EnvOk w K mg G0 H0 ε σ G H) (hi : ε[i]? = some (.own ds)) (hs : σ[i]? = some (some (.ref a))) (hH : H a = some (.lst vs)) (hG : G a = none) (h0 : H0 a = none)
    (r : RpAll K G vs' ds') : EnvOk w K mg G0 H0 (ε.set i (.own ds')) σ G (upd H a (.lst vs')) := by
  have hlt := lt_of_get hi
  have gh : Ex G (upd H a (.lst vs')) := fun b u hb => by rw [upd_ne (ne_of_none hb hG)]; exact e.gh b u hb
  refine ⟨⟨e.ext.gg, e.ext.hh.mut h0, gh, e.ext.fr⟩, by rw [List.length_set]; exact e.len, fun j => ?_, fun j k b ds1 es hjk h1 h2 h3 h4 => ?_, fun j k b ds1 es hjk h1 h2 h3 h4 => ?_⟩
  · by_cases hj : i = j
    · subst hj
      rw [List.getElem?_set_self hlt]
      exact ⟨a, vs', hs, upd_same, hG, h0, r⟩
    · rw [List.getElem?_set_ne hj]
      have q := e.sl j
      cases hx : ε[j]? with
      | none => trivial
      | some s =>
        rw [hx] at q
        cases s with
        | un => trivial
        | val d => exact q
        | exc c => exact q
        | dct kvs =>
          obtain ⟨b, xs, e1, e2, e3, e4, e5⟩ := q
          have nb : b ≠ a := fun z => by subst z; rw [hH] at e2; cases e2
          exact ⟨b, xs, e1, by rw [upd_ne nb]; exact e2, e3, e4, e5⟩
        | vdc kvs =>
          obtain ⟨b, xs, o, e1, e2, e3, e4⟩ := q
          have nb : b ≠ a := fun z => by subst z; rw [hH] at e2; cases e2
          exact ⟨b, xs, o, e1, by rw [upd_ne nb]; exact e2, e3, e4⟩
        | own es =>
          obtain ⟨b, ws, e1, e2, e3, e4, e5⟩ := q
          have nb : b ≠ a := fun z => by subst z; exact e.ap i j b ds es hj hi hx hs e1
          exact ⟨b, ws, e1, by rw [upd_ne nb]; exact e2, e3, e4, e5⟩
  · have o1 : ∃ d1, ε[j]? = some (.own d1) := by
      by_cases z : i = j
      · subst z; exact ⟨ds, hi⟩
      · rw [List.getElem?_set_ne z] at h1; exact ⟨_, h1⟩
    have o2 : ∃ d1, ε[k]? = some (.own d1) := by
      by_cases z : i = k
      · subst z; exact ⟨ds, hi⟩
      · rw [List.getElem?_set_ne z] at h2; exact ⟨_, h2⟩
    obtain ⟨d1, o1⟩ := o1
    obtain ⟨d2, o2⟩ := o2
    exact e.ap j k b d1 d2 hjk o1 o2 h3 h4
  · have n1 : i ≠ j := fun z => by subst z; rw [List.getElem?_set_self hlt] at h1; cases h1
    have n2 : i ≠ k := fun z => by subst z; rw [List.getElem?_set_self hlt] at h2; cases h2
    rw [List.getElem?_set_ne n1] at h1
    rw [List.getElem?_set_ne n2] at h2
    exact e.ad j k b ds1 es hjk h1 h2 h3 h4
/-- the list that a slot holds is changed no more -/
theorem EnvOk.freeze {i : Nat} {ds : List D} (e : EnvOk w K mg G0 H0 ε σ G H) (hi : ε[i]? = some (.own ds)) : ∃ G', EnvOk w K mg G0 H0 (ε.set i (.val (.lst ds))) σ G' H ∧ Ex G G' := by
  have hlt := lt_of_get hi
  obtain ⟨a, vs, hs, hH, hG, h0, r⟩ := e.own hi
  have xg : Ex G (upd G a (.lst vs)) := Ex.new hG
  refine ⟨upd G a (.lst vs), ⟨e.ext.close h0 hH hG, by rw [List.length_set]; exact e.len, fun j => ?_, fun j k b ds1 es hjk h1 h2 h3 h4 => ?_, fun j k b ds1 es hjk h1 h2 h3 h4 => ?_⟩, xg⟩
  · by_cases hj : i = j
    · subst hj
      rw [List.getElem?_set_self hlt]
      exact ⟨_, hs, .lst (SqL.of upd_same) (r.up xg)⟩
    · rw [List.getElem?_set_ne hj]
      have q := e.sl j
      cases hx : ε[j]? with
      | none => trivial
      | some s =>
        rw [hx] at q
        cases s with
        | un => trivial
        | val d => obtain ⟨v, e1, r1⟩ := q; exact ⟨v, e1, r1.up xg⟩
        | exc c => obtain ⟨b, u, e1, e2, e3⟩ := q; exact ⟨b, u, e1, e2, xg _ _ e3⟩
        | dct kvs =>
          obtain ⟨b, xs, e1, e2, e3, e4, e5⟩ := q
          have nb : b ≠ a := fun z => by subst z; rw [hH] at e2; cases e2
          exact ⟨b, xs, e1, e2, by rw [upd_ne nb]; exact e3, e4, e5.up xg⟩
        | vdc kvs => obtain ⟨b, xs, o, e1, e2, e3, e4⟩ := q; exact ⟨b, xs, o, e1, e2, e3, e4.up xg⟩
        | own es =>
          obtain ⟨b, ws, e1, e2, e3, e4, e5⟩ := q
          have nb : b ≠ a := fun z => by subst z; exact e.ap i j b ds es hj hi hx hs e1
          exact ⟨b, ws, e1, e2, by rw [upd_ne nb]; exact e3, e4, e5.up xg⟩
  · have n1 : i ≠ j := fun z => by subst z; rw [List.getElem?_set_self hlt] at h1; cases h1
    have n2 : i ≠ k := fun z => by subst z; rw [List.getElem?_set_self hlt] at h2; cases h2
    rw [List.getElem?_set_ne n1] at h1
    rw [List.getElem?_set_ne n2] at h2
    exact e.ap j k b ds1 es hjk h1 h2 h3 h4
  · have n1 : i ≠ j := fun z => by subst z; rw [List.getElem?_set_self hlt] at h1; cases h1
    have n2 : i ≠ k := fun z => by subst z; rw [List.getElem?_set_self hlt] at h2; cases h2
    rw [List.getElem?_set_ne n1] at h1
    rw [List.getElem?_set_ne n2] at h2
    exact e.ad j k b ds1 es hjk h1 h2 h3 h4
theorem EnvOk.setExc {i : Nat} {a : Addr} {c : Str} {u : Value} (e : EnvOk w K mg G0 H0 ε σ G H) (h1 : mg c = some u) (h2 : G a = some (ExC u a)) : EnvOk w K mg G0 H0 (ε.set i (.exc c)) (σ.set i (some (.ref a))) G H := by
  refine ⟨e.ext, by rw [List.length_set, List.length_set]; exact e.len, fun j => ?_, fun j k a ds es hjk h1 h2 h3 h4 => ?_, fun j k a ds es hjk h1 h2 h3 h4 => ?_⟩
  · by_cases hj : i = j
    · subst hj
      by_cases hi : i < ε.length
      · rw [List.getElem?_set_self hi, List.getElem?_set_self (by rw [← e.len]; exact hi)]
        exact ⟨a, u, rfl, h1, h2⟩
      · rw [set_none (l := ε) hi]; trivial
    · rw [List.getElem?_set_ne hj, List.getElem?_set_ne hj]; exact e.sl j
  · have n1 : i ≠ j := fun z => by
      subst z
      by_cases hi : i < ε.length
      · rw [List.getElem?_set_self hi] at h1; cases h1
      · rw [List.getElem?_eq_none (by rw [List.length_set]; omega)] at h1; cases h1
    have n2 : i ≠ k := fun z => by
      subst z
      by_cases hi : i < ε.length
      · rw [List.getElem?_set_self hi] at h2; cases h2
      · rw [List.getElem?_eq_none (by rw [List.length_set]; omega)] at h2; cases h2
    rw [List.getElem?_set_ne n1] at h1 h3
    rw [List.getElem?_set_ne n2] at h2 h4
    exact e.ap j k a ds es hjk h1 h2 h3 h4
  · have n1 : i ≠ j := fun z => by
      subst z
      by_cases hi : i < ε.length
      · rw [List.getElem?_set_self hi] at h1; cases h1
      · rw [List.getElem?_eq_none (by rw [List.length_set]; omega)] at h1; cases h1
    have n2 : i ≠ k := fun z => by
      subst z
      by_cases hi : i < ε.length
      · rw [List.getElem?_set_self hi] at h2; cases h2
      · rw [List.getElem?_eq_none (by rw [List.length_set]; omega)] at h2; cases h2
    rw [List.getElem?_set_ne n1] at h1 h3
    rw [List.getElem?_set_ne n2] at h2 h4
    exact e.ad j k a ds es hjk h1 h2 h3 h4
theorem EnvOk.none_ {n : Nat} (x : Ext G0 H0 G H) (hl : σ.length = n) : EnvOk w K mg G0 H0 (List.replicate n .un) σ G H := by
  refine ⟨x, by rw [List.length_replicate, hl], fun i => ?_, fun i j a ds es _ h1 => ?_, fun i j a ds es _ h1 => ?_⟩
  · rw [List.getElem?_replicate]
    split <;> trivial
  · rw [List.getElem?_replicate] at h1
    split at h1 <;> cases h1
  · rw [List.getElem?_replicate] at h1
    split at h1 <;> cases h1
end
end PL

set_option Elab.async false
set_option linter.all false
set_option maxRecDepth 100000
/-! PL1: denotations; expressions. -/
namespace PL
open PySem PySem.Spec PyProof.Rows L2

/-! ### data -/
mutual
def D.py : D → PyData
  | .non => .none
  | .bl b => .bool b
  | .int i => .int i
  | .str x => .str x
  | .tup ds => .tuple (pyAll ds)
  | .lst ds => .list (pyAll ds)
def pyAll : List D → List PyData
  | [] => []
  | d :: ds => d.py :: pyAll ds
end
def deq (d e : D) : Bool := PyData.eqv d.py e.py
def eqok (d : D) : Bool := SeqAt.shaped d.py
abbrev LIM : Nat := 100000

def tru : D → Option Bool
  | .non => some false
  | .bl b => some b
  | .int i => some (i != 0)
  | .str x => if x.length ≤ LIM then some ((x.length : Int) != 0) else none
  | .tup ds => some (!ds.isEmpty)
  | .lst ds => some (!ds.isEmpty)
def cut {α : Type} (xs : List α) (lo hi : Option Int) : List α := (xs.drop (HT.sIx xs.length 0 lo)).take (HT.sIx xs.length xs.length hi - HT.sIx xs.length 0 lo)

def oIx : D → D → Option D
  | .tup ds, .int i => atI ds i
  | .lst ds, .int i => atI ds i
  | .str z, .int i => if z.length ≤ LIM then (atI z.cps.toList i).map fun c => .str ⟨#[c]⟩ else none
  | _, _ => none
def oAdd : D → D → Option D
  | .int i, .int j => some (.int (i + j))
  | .tup a, .tup b => if a.length + b.length ≤ LIM then some (.tup (a ++ b)) else none
  | .lst a, .lst b => if a.length + b.length ≤ LIM then some (.lst (a ++ b)) else none
  | .str x, .str y => if x.length + y.length ≤ LIM then some (.str (x ++ y)) else none
  | _, _ => none
def oSub : D → D → Option D
  | .int i, .int j => some (.int (i - j))
  | _, _ => none
def small (i : Int) : Bool := decide (-18446744073709551616 < i) && decide (i < 18446744073709551616)
def oMul : D → D → Option D
  | .int i, .int j => if small i || small j then some (.int (i * j)) else none
  | .tup a, .int k => if !a.isEmpty && decide (1 ≤ k) && decide (k ≤ 1000) && decide (a.length ≤ 1000) then some (.tup (List.replicate k.toNat a).flatten) else none
  | .lst a, .int k => if decide (-1000 ≤ k) && decide (k ≤ 1000) && decide (a.length ≤ 1000) then some (.lst (List.replicate k.toNat a).flatten) else none
  | _, _ => none
def oFdiv : D → D → Option D
  | .int i, .int j => if 0 < j ∧ j < 1073741824 then some (.int (i / j)) else none
  | _, _ => none
def oMod : D → D → Option D
  | .int i, .int j => if 0 < j then some (.int (i % j)) else none
  | _, _ => none
def oEq (d e : D) : Option D := if eqok d && eqok e then some (.bl (deq d e)) else none
def oNe (d e : D) : Option D := if eqok d && eqok e then some (.bl (!deq d e)) else none
def oCmp (p : Int → Int → Bool) : D → D → Option D
  | .int i, .int j => some (.bl (p i j))
  | _, _ => none
abbrev oLt := oCmp fun i j => decide (i < j)
abbrev oLe := oCmp fun i j => decide (i ≤ j)
abbrev oGt := oCmp fun i j => decide (j < i)
abbrev oGe := oCmp fun i j => decide (j ≤ i)
def isNon : D → Bool
  | .non => true
  | _ => false
def oIs : D → D → Option D
  | d, .non => some (.bl (isNon d))
  | .bl a, .bl b => some (.bl (decide (a = b)))
  | _, _ => none
def oIsNot : D → D → Option D
  | d, .non => some (.bl (!isNon d))
  | .bl a, .bl b => some (.bl (!decide (a = b)))
  | _, _ => none
def oNeg : D → Option D
  | .int i => some (.int (-i))
  | _ => none
def oLen : D → Option D
  | .tup ds => some (.int ds.length)
  | .lst ds => some (.int ds.length)
  | .str z => if z.length ≤ LIM then some (.int z.length) else none
  | _ => none
def oTuple : D → Option D
  | .tup ds => some (.tup ds)
  | .lst ds => some (.tup ds)
  | _ => none
def oList : D → Option (List D)
  | .tup ds => some ds
  | .lst ds => some ds
  | _ => none
def oMin2 : D → D → Option D
  | .int i, .int j => some (.int (if j < i then j else i))
  | _, _ => none
def oMax2 : D → D → Option D
  | .int i, .int j => some (.int (if j > i then j else i))
  | _, _ => none
def oPart : Option D → Option (Option Int)
  | none => some none
  | some (.int i) => some (some i)
  | _ => none
def oSl : D → Option Int → Option Int → Option D
  | .tup ds, lo, hi => some (.tup (cut ds lo hi))
  | .lst ds, lo, hi => some (.lst (cut ds lo hi))
  | .str z, lo, hi => if z.length ≤ LIM then some (.str (cutS z lo hi)) else none
  | _, _, _ => none
def Out.of {α : Type} : Option α → Out α
  | some a => .ok a
  | none => .no
@[simp] theorem of_some {α : Type} (a : α) : Out.of (some a) = .ok a := rfl
@[simp] theorem of_none {α : Type} : Out.of (none : Option α) = .no := rfl
@[simp] theorem tru_non : tru .non = some false := rfl
@[simp] theorem tru_bl (b : Bool) : tru (.bl b) = some b := rfl
@[simp] theorem tru_int (i : Int) : tru (.int i) = some (i != 0) := rfl
@[simp] theorem tru_tup (ds : List D) : tru (.tup ds) = some (!ds.isEmpty) := rfl
@[simp] theorem tru_lst (ds : List D) : tru (.lst ds) = some (!ds.isEmpty) := rfl
@[simp] theorem oIx_tup (ds : List D) (i : Int) : oIx (.tup ds) (.int i) = atI ds i := rfl
@[simp] theorem oIx_lst (ds : List D) (i : Int) : oIx (.lst ds) (.int i) = atI ds i := rfl
@[simp] theorem oAdd_int (i j : Int) : oAdd (.int i) (.int j) = some (.int (i + j)) := rfl
@[simp] theorem oAdd_tup (a b : List D) : oAdd (.tup a) (.tup b) = if a.length + b.length ≤ LIM then some (.tup (a ++ b)) else none := rfl
@[simp] theorem oAdd_lst (a b : List D) : oAdd (.lst a) (.lst b) = if a.length + b.length ≤ LIM then some (.lst (a ++ b)) else none := rfl
@[simp] theorem oSub_int (i j : Int) : oSub (.int i) (.int j) = some (.int (i - j)) := rfl
@[simp] theorem oMul_int (i j : Int) : oMul (.int i) (.int j) = if small i || small j then some (.int (i * j)) else none := rfl
@[simp] theorem oMul_tup (a : List D) (k : Int) : oMul (.tup a) (.int k) = if !a.isEmpty && decide (1 ≤ k) && decide (k ≤ 1000) && decide (a.length ≤ 1000) then some (.tup (List.replicate k.toNat a).flatten) else none := rfl
@[simp] theorem oMul_lst (a : List D) (k : Int) : oMul (.lst a) (.int k) = if decide (-1000 ≤ k) && decide (k ≤ 1000) && decide (a.length ≤ 1000) then some (.lst (List.replicate k.toNat a).flatten) else none := rfl
@[simp] theorem oFdiv_int (i j : Int) : oFdiv (.int i) (.int j) = if 0 < j ∧ j < 1073741824 then some (.int (i / j)) else none := rfl
@[simp] theorem oMod_int (i j : Int) : oMod (.int i) (.int j) = if 0 < j then some (.int (i % j)) else none := rfl
@[simp] theorem oCmp_int (p : Int → Int → Bool) (i j : Int) : oCmp p (.int i) (.int j) = some (.bl (p i j)) := rfl
@[simp] theorem isNon_non : isNon .non = true := rfl
@[simp] theorem isNon_int (i : Int) : isNon (.int i) = false := rfl
@[simp] theorem isNon_bl (i : Bool) : isNon (.bl i) = false := rfl
@[simp] theorem isNon_str (i : Str) : isNon (.str i) = false := rfl
@[simp] theorem isNon_tup (i : List D) : isNon (.tup i) = false := rfl
@[simp] theorem isNon_lst (i : List D) : isNon (.lst i) = false := rfl
@[simp] theorem oIs_non (d : D) : oIs d .non = some (.bl (isNon d)) := by cases d <;> rfl
@[simp] theorem oIs_bl (a b : Bool) : oIs (.bl a) (.bl b) = some (.bl (decide (a = b))) := rfl
@[simp] theorem oIsNot_non (d : D) : oIsNot d .non = some (.bl (!isNon d)) := by cases d <;> rfl
@[simp] theorem oIsNot_bl (a b : Bool) : oIsNot (.bl a) (.bl b) = some (.bl (!decide (a = b))) := rfl
@[simp] theorem oNeg_int (i : Int) : oNeg (.int i) = some (.int (-i)) := rfl
@[simp] theorem oLen_tup (ds : List D) : oLen (.tup ds) = some (.int ds.length) := rfl
@[simp] theorem oLen_lst (ds : List D) : oLen (.lst ds) = some (.int ds.length) := rfl
@[simp] theorem oTuple_tup (ds : List D) : oTuple (.tup ds) = some (.tup ds) := rfl
@[simp] theorem oTuple_lst (ds : List D) : oTuple (.lst ds) = some (.tup ds) := rfl
@[simp] theorem oList_tup (ds : List D) : oList (.tup ds) = some ds := rfl
@[simp] theorem oList_lst (ds : List D) : oList (.lst ds) = some ds := rfl
@[simp] theorem oMin2_int (i j : Int) : oMin2 (.int i) (.int j) = some (.int (if j < i then j else i)) := rfl
@[simp] theorem oMax2_int (i j : Int) : oMax2 (.int i) (.int j) = some (.int (if j > i then j else i)) := rfl
@[simp] theorem oSl_tup (ds : List D) (lo hi : Option Int) : oSl (.tup ds) lo hi = some (.tup (cut ds lo hi)) := rfl
@[simp] theorem oSl_lst (ds : List D) (lo hi : Option Int) : oSl (.lst ds) lo hi = some (.lst (cut ds lo hi)) := rfl

/-! ### views -/
inductive Vw (K : PySem.W.Frag) (G H : Hp) : V → D → Prop
  | v {v : V} {d : D} : Rp K G v d → Vw K G H v d
  | o {a : Addr} {vs : List V} {ds : List D} : H a = some (.lst vs) → RpAll K G vs ds → Vw K G H (.ref a) (.lst ds)
inductive VwAll (K : PySem.W.Frag) (G H : Hp) : List V → List D → Prop
  | nil : VwAll K G H [] []
  | cons {v : V} {vs : List V} {d : D} {ds : List D} : Vw K G H v d → VwAll K G H vs ds → VwAll K G H (v :: vs) (d :: ds)
section
variable {K : PySem.W.Frag} {G H G' H' : Hp}
theorem Vw.on {v : V} {d : D} (h : Vw K G H v d) (x : Ext G H G' H') : Vw K G' H' v d := by
  cases h with
  | v r => exact .v (r.up x.gg)
  | o h r => exact .o (x.hh _ _ h) (r.up x.gg)
theorem Vw.lst {v : V} {ds : List D} (h : Vw K G H v (.lst ds)) (e : Ex G H) : ∃ a vs, v = .ref a ∧ SqL K H a vs ∧ RpAll K G vs ds := by
  cases h with
  | v r =>
    cases r with
    | lst q r => exact ⟨_, _, rfl, ex_l e q, r⟩
  | o h r => exact ⟨_, _, rfl, SqL.of h, r⟩
theorem Vw.tup {v : V} {ds : List D} (h : Vw K G H v (.tup ds)) (e : Ex G H) : ∃ a vs, v = .ref a ∧ SqT K H a vs ∧ SqT K G a vs ∧ RpAll K G vs ds := by
  cases h with
  | v r =>
    cases r with
    | tup q r => exact ⟨_, _, rfl, ex_t e q, q, r⟩
theorem Vw.tupR {v : V} {ds : List D} (h : Vw K G H v (.tup ds)) : Rp K G v (.tup ds) := by
  cases h with
  | v r => exact r
theorem Vw.int {v : V} {i : Int} (h : Vw K G H v (.int i)) : v = .int i := by
  cases h with
  | v r => cases r; rfl
theorem Vw.bl {v : V} {i : Bool} (h : Vw K G H v (.bl i)) : v = .bl i := by
  cases h with
  | v r => cases r; rfl
theorem Vw.str {v : V} {i : Str} (h : Vw K G H v (.str i)) : v = .str i := by
  cases h with
  | v r => cases r; rfl
theorem Vw.non {v : V} (h : Vw K G H v .non) : v = .non := by
  cases h with
  | v r => cases r; rfl
theorem Vw.isN {v : V} {d : D} (h : Vw K G H v d) : decide (v = .non) = isNon d := by
  cases h with
  | v r => cases r <;> simp [isNon]
  | o h r => simp [isNon]
mutual
theorem Rp.dp : ∀ (d : D) (v : V), Rp K G v d → Dp K G v d.py
  | .non, _, h => by cases h; exact .non
  | .bl b, _, h => by cases h; exact .bl b
  | .int i, _, h => by cases h; exact .int i
  | .str x, _, h => by cases h; exact .str x
  | .lst ds, _, h => by
    cases h with
    | lst hs ha => exact .lst hs (RpAll.dp ds _ ha)
  | .tup ds, _, h => by
    cases h with
    | tup hs ha => exact .tup hs (RpAll.dp ds _ ha)
theorem RpAll.dp : ∀ (ds : List D) (vs : List V), RpAll K G vs ds → DpAll K G vs (pyAll ds)
  | [], _, h => by cases h; exact .nil
  | d :: ds, _, h => by
    cases h with
    | cons h1 h2 => exact .cons (Rp.dp d _ h1) (RpAll.dp ds _ h2)
end
theorem Vw.dp {v : V} {d : D} (h : Vw K G H v d) (e : Ex G H) : Dp K H v d.py := by
  cases h with
  | v r => exact Rp.dp _ _ (r.up e)
  | o h r => exact .lst (.inl (.inl h)) (RpAll.dp _ _ (r.up e))
end

/-! ### what is wanted behind -/
abbrev DE := Ev → Out D
def Xok (mg : Str → Option Value) (E : XK) (c : Str) (H : Hp) : Prop := ∀ u, mg c = some u → E u none H
def Post {α β : Type} (mg : Str → Option Value) (E : XK) (G H : Hp) (o : Out α) (R : α → β → Hp → Hp → Prop) (Q : β → Hp → Prop) : Prop :=
  match o with
  | .ok d => ∀ b G' H', Ext G H G' H' → R d b G' H' → Q b H'
  | .rs c => ∀ G' H', Ext G H G' H' → Xok mg E c H'
  | .no => False
section
variable {α β γ δ : Type} {mg : Str → Option Value} {E : XK} {G H G' H' : Hp}
theorem Post.on {o : Out α} {R : α → β → Hp → Hp → Prop} {Q : β → Hp → Prop} (h : Post mg E G H o R Q) (x : Ext G H G' H') : Post mg E G' H' o R Q := by
  cases o with
  | ok d => exact fun b G2 H2 x2 r => h b G2 H2 (x.trans x2) r
  | rs c => exact fun G2 H2 x2 => h G2 H2 (x.trans x2)
  | no => exact h
theorem Post.bind {o : Out α} {k : α → Out γ} {R : α → β → Hp → Hp → Prop} {R' : γ → δ → Hp → Hp → Prop} {Q : δ → Hp → Prop} {P : β → Hp → Prop} (h : Post mg E G H (o.bind k) R' Q)
    (f : ∀ d b G' H', o = .ok d → Ext G H G' H' → R d b G' H' → Post mg E G' H' (k d) R' Q → P b H') : Post mg E G H o R P := by
  cases o with
  | ok d => exact fun b G2 H2 x2 r => f d b G2 H2 rfl x2 r (Post.on (o := k d) h x2)
  | rs c => exact h
  | no => exact h
theorem Post.of {o : Option α} {R : α → β → Hp → Hp → Prop} {Q : β → Hp → Prop} (h : Post mg E G H (Out.of o) R Q) : ∃ d, o = some d ∧ ∀ b G' H', Ext G H G' H' → R d b G' H' → Q b H' := by
  cases o with
  | some d => exact ⟨d, rfl, h⟩
  | none => exact h.elim
theorem Post.imp {o : Out α} {R : α → β → Hp → Hp → Prop} {R' : α → β → Hp → Hp → Prop} {Q : β → Hp → Prop} (h : Post mg E G H o R' Q) (f : ∀ d b G' H', Ext G H G' H' → R d b G' H' → R' d b G' H') : Post mg E G H o R Q := by
  cases o with
  | ok d => exact fun b G2 H2 x2 r => h b G2 H2 x2 (f d b G2 H2 x2 r)
  | rs c => exact h
  | no => exact h
end
/-- the reading that a denotation gives -/
def tG {α β : Type} (w : World) (K : PySem.W.Frag) (mg : Str → Option Value) (E : XK) (R : α → β → Hp → Hp → Prop) (f : Ev → Out α) : L2.St → Hp → (β → Hp → Prop) → Prop :=
  fun σ H Q => ∃ G0 H0 ε G, EnvOk w K mg G0 H0 ε σ G H ∧ Post mg E G H (f ε) R Q
abbrev rV (K : PySem.W.Frag) : D → V → Hp → Hp → Prop := fun d v G _ => Rp K G v d
abbrev rW (K : PySem.W.Frag) : D → V → Hp → Hp → Prop := fun d v G H => Vw K G H v d
abbrev rB : Bool → Bool → Hp → Hp → Prop := fun b c _ _ => b = c
abbrev rA (K : PySem.W.Frag) : List D → List V → Hp → Hp → Prop := fun ds vs G _ => RpAll K G vs ds
abbrev rAw (K : PySem.W.Frag) : List D → List V → Hp → Hp → Prop := fun ds vs G H => VwAll K G H vs ds
/-- a value | a view | a test | arguments | viewed arguments -/
abbrev PD (X : Cx) (E : XK) (e : Expr) (f : DE) : Prop := PE X e (tG X.w X.K X.mg E (rV X.K) f)
abbrev PVw (X : Cx) (E : XK) (e : Expr) (f : DE) : Prop := PE X e (tG X.w X.K X.mg E (rW X.K) f)
abbrev PTt (X : Cx) (E : XK) (e : Expr) (f : Ev → Out Bool) : Prop := PT X e (tG X.w X.K X.mg E rB f)
abbrev PAd (X : Cx) (E : XK) (es : List Expr) (f : Ev → Out (List D)) : Prop := PA X es (tG X.w X.K X.mg E (rA X.K) f)
abbrev PAw (X : Cx) (E : XK) (es : List Expr) (f : Ev → Out (List D)) : Prop := PA X es (tG X.w X.K X.mg E (rAw X.K) f)
/-- a new list, open to change -/
def PostF (K : PySem.W.Frag) (mg : Str → Option Value) (E : XK) (G H : Hp) (o : Out (List D)) (Q : VK) : Prop :=
  match o with
  | .ok ds => ∀ p vs G' H', Ext G H G' H' → H p = none → H' p = some (.lst vs) → G' p = none → RpAll K G' vs ds → Q (.ref p) H'
  | .rs c => ∀ G' H', Ext G H G' H' → Xok mg E c H'
  | .no => False
def tF (w : World) (K : PySem.W.Frag) (mg : Str → Option Value) (E : XK) (f : Ev → Out (List D)) : TE :=
  fun σ H Q => ∃ G0 H0 ε G, EnvOk w K mg G0 H0 ε σ G H ∧ PostF K mg E G H (f ε) Q
abbrev PF (X : Cx) (E : XK) (e : Expr) (f : Ev → Out (List D)) : Prop := PE X e (tF X.w X.K X.mg E f)
theorem PostF.on {K : PySem.W.Frag} {mg : Str → Option Value} {E : XK} {G H G' H' : Hp} {o : Out (List D)} {Q : VK} (h : PostF K mg E G H o Q) (x : Ext G H G' H') : PostF K mg E G' H' o Q := by
  cases o with
  | ok d => exact fun p vs G2 H2 x2 h1 => h p vs G2 H2 (x.trans x2) (x.hh.back h1)
  | rs c => exact fun G2 H2 x2 => h G2 H2 (x.trans x2)
  | no => exact h
theorem PostF.bind {α β : Type} {K : PySem.W.Frag} {mg : Str → Option Value} {E : XK} {G H : Hp} {o : Out α} {k : α → Out (List D)} {R : α → β → Hp → Hp → Prop} {Q : VK} {P : β → Hp → Prop} (h : PostF K mg E G H (o.bind k) Q)
    (f : ∀ d b G' H', o = .ok d → Ext G H G' H' → R d b G' H' → PostF K mg E G' H' (k d) Q → P b H') : Post mg E G H o R P := by
  cases o with
  | ok d => exact fun b G2 H2 x2 r => f d b G2 H2 rfl x2 r (PostF.on (o := k d) h x2)
  | rs c => exact h
  | no => exact h
theorem PostF.of {K : PySem.W.Frag} {mg : Str → Option Value} {E : XK} {G H : Hp} {o : Option (List D)} {Q : VK} (h : PostF K mg E G H (Out.of o) Q) :
    ∃ ds, o = some ds ∧ ∀ p vs G' H', Ext G H G' H' → H p = none → H' p = some (.lst vs) → G' p = none → RpAll K G' vs ds → Q (.ref p) H' := by
  cases o with
  | some d => exact ⟨d, rfl, h⟩
  | none => exact h.elim

theorem PE.weak {X : Cx} {e : Expr} {t t' : TE} (h : PE X e t) (f : ∀ σ H Q, t' σ H Q → t σ H Q) : PE X e t' := ⟨fun pins s σ H Q I q => h.run pins s σ H Q I (f σ H Q q)⟩
theorem PT.weak {X : Cx} {e : Expr} {t t' : TT} (h : PT X e t) (f : ∀ σ H Q, t' σ H Q → t σ H Q) : PT X e t' := ⟨fun pins s σ H Q I q => h.run pins s σ H Q I (f σ H Q q)⟩
theorem PA.weak {X : Cx} {es : List Expr} {t t' : TA} (h : PA X es t) (f : ∀ σ H Q, t' σ H Q → t σ H Q) : PA X es t' := ⟨fun pos pins s σ H Q I q => h.run pos pins s σ H Q I (f σ H Q q)⟩

/-! ### denotations of expressions -/
def getV : Option Sl → Out D
  | some (.val d) => .ok d
  | _ => .no
def getW : Option Sl → Out D
  | some (.val d) => .ok d
  | some (.own ds) => .ok (.lst ds)
  | _ => .no
@[simp] theorem getV_val (d : D) : getV (some (.val d)) = .ok d := rfl
@[simp] theorem getW_val (d : D) : getW (some (.val d)) = .ok d := rfl
@[simp] theorem getW_own (ds : List D) : getW (some (.own ds)) = .ok (.lst ds) := rfl
@[simp] def dVar (i : Nat) (ε : Ev) : Out D := getV ε[i]?
@[simp] def vVar (i : Nat) (ε : Ev) : Out D := getW ε[i]?
def testB : D → Out Bool
  | .bl b => .ok b
  | _ => .no
@[simp] theorem testB_bl (b : Bool) : testB (.bl b) = .ok b := rfl
def nrm {α : Type} : Out α → Out α
  | .ok d => .ok d
  | _ => .no
@[simp] theorem nrm_ok {α : Type} (d : α) : nrm (.ok d) = .ok d := rfl
def partI : D → Out (Option Int)
  | .int i => .ok (some i)
  | _ => .no
@[simp] theorem partI_int (i : Int) : partI (.int i) = .ok (some i) := rfl
def chF (z : D) (k : Out D) : Out D := match z with
  | .bl true => k
  | .bl false => .ok (.bl false)
  | _ => .no
@[simp] theorem chF_true (k : Out D) : chF (.bl true) k = k := rfl
@[simp] theorem chF_false (k : Out D) : chF (.bl false) k = .ok (.bl false) := rfl
@[simp] def dC (d : D) (_ : Ev) : Out D := .ok d
@[simp] def d1 (o : D → Option D) (fa : DE) (ε : Ev) : Out D := (fa ε).bind fun a => .of (o a)
@[simp] def d2 (o : D → D → Option D) (fa fb : DE) (ε : Ev) : Out D := (fa ε).bind fun a => (fb ε).bind fun b => .of (o a b)
def dArgs : List DE → Ev → Out (List D)
  | [], _ => .ok []
  | f :: fs, ε => (f ε).bind fun d => (dArgs fs ε).bind fun ds => .ok (d :: ds)
@[simp] theorem dArgs_nil (ε : Ev) : dArgs [] ε = .ok [] := rfl
@[simp] theorem dArgs_cons (f : DE) (fs : List DE) (ε : Ev) : dArgs (f :: fs) ε = (f ε).bind fun d => (dArgs fs ε).bind fun ds => .ok (d :: ds) := rfl
@[simp] def dTup (fl : List DE) (ε : Ev) : Out D := (dArgs fl ε).bind fun ds => .ok (.tup ds)
@[simp] def dLst (f : Ev → Out (List D)) (ε : Ev) : Out D := (f ε).bind fun ds => .ok (.lst ds)
@[simp] def dIf (fc : Ev → Out Bool) (fa fb : DE) (ε : Ev) : Out D := (fc ε).bind fun c => if c = true then fa ε else fb ε
@[simp] def dTest (fa : DE) (ε : Ev) : Out Bool := (fa ε).bind fun a => .of (tru a)
@[simp] def dTestB (fa : DE) (ε : Ev) : Out Bool := (fa ε).bind testB
@[simp] def dAndT (fa fb : Ev → Out Bool) (ε : Ev) : Out Bool := (fa ε).bind fun a => if a = true then fb ε else .ok false
@[simp] def dOrT (fa fb : Ev → Out Bool) (ε : Ev) : Out Bool := (fa ε).bind fun a => if a = true then .ok true else fb ε
@[simp] def dNotT (fa : Ev → Out Bool) (ε : Ev) : Out Bool := (fa ε).bind fun a => .ok (!a)
@[simp] def dAnd (fa fb : DE) (ε : Ev) : Out D := (fa ε).bind fun a => (Out.of (tru a)).bind fun k => if k = true then fb ε else .ok a
@[simp] def dOr (fa fb : DE) (ε : Ev) : Out D := (fa ε).bind fun a => (Out.of (tru a)).bind fun k => if k = true then .ok a else fb ε
@[simp] def dNot (fa : DE) (ε : Ev) : Out D := (fa ε).bind fun a => (Out.of (tru a)).bind fun k => .ok (.bl (!k))
/-- a op b op' c -/
@[simp] def dCh (o o' : D → D → Option D) (fa fb fc : DE) (ε : Ev) : Out D := (fa ε).bind fun a => (fb ε).bind fun b => (Out.of (o a b)).bind fun z => chF z ((fc ε).bind fun c => .of (o' b c))
@[simp] def dCall (M : List D → Out D) (fl : Ev → Out (List D)) (ε : Ev) : Out D := (fl ε).bind fun ds => nrm (M ds)
def dPart : Option DE → Ev → Out (Option Int)
  | none, _ => .ok none
  | some f, ε => (f ε).bind partI
@[simp] theorem dPart_none (ε : Ev) : dPart none ε = .ok none := rfl
@[simp] theorem dPart_some (f : DE) (ε : Ev) : dPart (some f) ε = (f ε).bind partI := rfl
@[simp] def dSl (fa : DE) (lo hi : Option DE) (ε : Ev) : Out D := (fa ε).bind fun a => (dPart lo ε).bind fun l => (dPart hi ε).bind fun h => .of (oSl a l h)
@[simp] def lLst (fl : List DE) (ε : Ev) : Out (List D) := dArgs fl ε
@[simp] def lList (fa : DE) (ε : Ev) : Out (List D) := (fa ε).bind fun a => .of (oList a)

section
variable {X : Cx} {E : XK} {a b c : Expr} {es : List Expr} {fa fb fc : DE} {pos : Pos}

theorem pw_of {f : DE} (h : PD X E a f) : PVw X E a f := PE.weak h fun σ H Q ⟨G0, H0, ε, G, e, q⟩ => ⟨G0, H0, ε, G, e, q.imp fun d v G' H' _ r => .v r⟩
theorem pd_of {f : Ev → Out (List D)} (h : PF X E a f) : PD X E a (dLst f) := PE.weak h fun σ H Q ⟨G0, H0, ε, G, e, q⟩ => by
  refine ⟨G0, H0, ε, G, e, ?_⟩
  unfold dLst at q
  cases h : f ε with
  | ok ds =>
    rw [h] at q
    refine fun p vs G' H' x h1 h2 h3 r => q _ (upd G' p (.lst vs)) H' (x.close h1 h2 h3) (.lst (SqL.of upd_same) (r.up (Ex.new h3)))
  | rs c => rw [h] at q; exact q
  | no => rw [h] at q; exact q

theorem pd_var (i : Nat) {x : Str} (hN : X.N[i]? = some x := by rfl) (hv : Vis X.env.scope x := by first | exact Or.inl rfl | exact Or.inr (Or.inl rfl) | exact Or.inr (Or.inr rfl)) (hd : (x == ("__debug__" : Str)) = false := by decide)
    (hcd : (x == ("__classdict__" : Str)) = false := by decide) : PD X E (.Name x pos) (dVar i) :=
  PE.weak (pv i hN hv hd hcd) fun σ H Q ⟨G0, H0, ε, G, e, q⟩ => by
    unfold dVar getV at q
    split at q
    · rename_i d hd'
      obtain ⟨v, h1, r⟩ := e.val hd'
      exact ⟨v, h1, q v G H (Ext.refl e.gh) r⟩
    · exact q.elim
theorem pw_var (i : Nat) {x : Str} (hN : X.N[i]? = some x := by rfl) (hv : Vis X.env.scope x := by first | exact Or.inl rfl | exact Or.inr (Or.inl rfl) | exact Or.inr (Or.inr rfl)) (hd : (x == ("__debug__" : Str)) = false := by decide)
    (hcd : (x == ("__classdict__" : Str)) = false := by decide) : PVw X E (.Name x pos) (vVar i) :=
  PE.weak (pv i hN hv hd hcd) fun σ H Q ⟨G0, H0, ε, G, e, q⟩ => by
    unfold vVar getW at q
    split at q
    · rename_i d hd'
      obtain ⟨v, h1, r⟩ := e.val hd'
      exact ⟨v, h1, q v G H (Ext.refl e.gh) (.v r)⟩
    · rename_i ds hd'
      obtain ⟨p, vs, h1, h2, _, _, r⟩ := e.own hd'
      exact ⟨_, h1, q _ G H (Ext.refl e.gh) (.o h2 r)⟩
    · exact q.elim
theorem tC_of {v : V} {d : D} (r : ∀ G, Rp X.K G v d) : ∀ σ H Q, tG X.w X.K X.mg E (rV X.K) (dC d) σ H Q → tC v σ H Q := fun σ H Q ⟨G0, H0, ε, G, e, q⟩ => q v G H (Ext.refl e.gh) (r G)
theorem pd_int {i : Int} {j} : PD X E (.Constant (.int i) j pos) (dC (.int i)) := PE.weak pe_int (tC_of fun _ => .int i)
theorem pd_bl {i : Bool} {j} : PD X E (.Constant (.bool i) j pos) (dC (.bl i)) := PE.weak pe_bl (tC_of fun _ => .bl i)
theorem pd_str {i : Str} {j} : PD X E (.Constant (.str i) j pos) (dC (.str i)) := PE.weak pe_str (tC_of fun _ => .str i)
theorem pd_non {j} : PD X E (.Constant .none j pos) (dC .non) := PE.weak pe_non (tC_of fun _ => .non)
/-- a module's constant -/
theorem pd_gint {x : Str} {i : Int} (hg : Gl X x) (hm : ∃ t, X.mg x = some (.int i t)) (hd : (x == ("__debug__" : Str)) = false := by decide) : PD X E (.Name x pos) (dC (.int i)) := by
  obtain ⟨t, hm⟩ := hm
  exact PE.weak (pe_glob (v := .int i) hg hm ⟨t, rfl⟩ hd) (tC_of fun _ => .int i)
theorem pd_gstr {x : Str} {i : Str} (hg : Gl X x) (hm : ∃ t, X.mg x = some (.str i t)) (hd : (x == ("__debug__" : Str)) = false := by decide) : PD X E (.Name x pos) (dC (.str i)) := by
  obtain ⟨t, hm⟩ := hm
  exact PE.weak (pe_glob (v := .str i) hg hm ⟨t, rfl⟩ hd) (tC_of fun _ => .str i)

/-! binary operators by data -/
def OpD (X : Cx) (g : Value → Value → Sem Value) (o : D → D → Option D) : Prop :=
  ∃ r : R2, OpR X g r ∧ ∀ G H x y p q d, Ex G H → Vw X.K G H x p → Vw X.K G H y q → o p q = some d → ∀ Q : VK, (∀ v G' H', Ext G H G' H' → Rp X.K G' v d → Q v H') → r x y H Q
theorem op_of {r : R2} {o : D → D → Option D} (f : ∀ G H x y p q d, Ex G H → Vw X.K G H x p → Vw X.K G H y q → o p q = some d → ∀ Q : VK, (∀ v G' H', Ext G H G' H' → Rp X.K G' v d → Q v H') → r x y H Q) :
    ∀ σ H Q, tG X.w X.K X.mg E (rV X.K) (d2 o fa fb) σ H Q → tOp r (tG X.w X.K X.mg E (rW X.K) fa) (tG X.w X.K X.mg E (rW X.K) fb) σ H Q := fun σ H Q ⟨G0, H0, ε, G, e, q⟩ => by
  refine ⟨G0, H0, ε, G, e, q.bind fun p x G1 H1 _ x1 w1 q1 => ?_⟩
  refine ⟨G0, H0, ε, G1, e.on x1, q1.bind fun p2 y G2 H2 _ x2 w2 q2 => ?_⟩
  obtain ⟨d, hd, q3⟩ := q2.of
  exact f G2 H2 x y p p2 d x2.gh (w1.on x2) w2 hd Q q3
theorem pd_op {op : Operator} {o : D → D → Option D} (ho : OpD X (binaryOp op) o) (ha : PVw X E a fa) (hb : PVw X E b fb) : PD X E (.BinOp a op b pos) (d2 o fa fb) := by
  obtain ⟨r, hr, f⟩ := ho
  exact PE.weak (pe_op hr ha hb) (op_of f)
theorem pd_cmp {op : CmpOp} {o : D → D → Option D} (ho : OpD X (compareOp op) o) (ha : PVw X E a fa) (hb : PVw X E b fb) (hm : behindInMarks op b = false) : PD X E (.Compare a [op] [b] pos) (d2 o fa fb) := by
  obtain ⟨r, hr, f⟩ := ho
  exact PE.weak (pe_cmpR hr ha hb hm) (op_of f)
theorem test_of {t : TE} {f : DE} (h : ∀ σ H Q, tG X.w X.K X.mg E (rV X.K) f σ H Q → t σ H Q) : ∀ σ H Q, tG X.w X.K X.mg E rB (dTestB f) σ H Q → tTest t σ H Q := fun σ H Q ⟨G0, H0, ε, G, e, q⟩ => by
  refine h σ H _ ⟨G0, H0, ε, G, e, ?_⟩
  unfold dTestB at q
  refine q.bind fun d v G1 H1 _ x1 r q1 => ?_
  cases d with
  | bl k => cases r; exact ⟨k, rfl, q1 k G1 H1 (Ext.refl x1.gh) rfl⟩
  | _ => exact q1.elim
theorem pt_cmp {op : CmpOp} {o : D → D → Option D} (ho : OpD X (compareOp op) o) (ha : PVw X E a fa) (hb : PVw X E b fb) (hm : behindInMarks op b = false) : PTt X E (.Compare a [op] [b] pos) (dTestB (d2 o fa fb)) := by
  obtain ⟨r, hr, f⟩ := ho
  exact PT.weak (pt_cmpR hr ha hb hm) (test_of (op_of f))
/-- a chain -/
theorem chain_of {r r' : R2} {o o' : D → D → Option D} (f : ∀ G H x y p q d, Ex G H → Vw X.K G H x p → Vw X.K G H y q → o p q = some d → ∀ Q : VK, (∀ v G' H', Ext G H G' H' → Rp X.K G' v d → Q v H') → r x y H Q)
    (f' : ∀ G H x y p q d, Ex G H → Vw X.K G H x p → Vw X.K G H y q → o' p q = some d → ∀ Q : VK, (∀ v G' H', Ext G H G' H' → Rp X.K G' v d → Q v H') → r' x y H Q) :
    ∀ σ H Q, tG X.w X.K X.mg E (rV X.K) (dCh o o' fa fb fc) σ H Q → tChain r r' (tG X.w X.K X.mg E (rW X.K) fa) (tG X.w X.K X.mg E (rW X.K) fb) (tG X.w X.K X.mg E (rW X.K) fc) σ H Q := fun σ H Q ⟨G0, H0, ε, G, e, q⟩ => by
  refine ⟨G0, H0, ε, G, e, q.bind fun p x G1 H1 _ x1 w1 q1 => ?_⟩
  refine ⟨G0, H0, ε, G1, e.on x1, q1.bind fun p2 y G2 H2 _ x2 w2 q2 => ?_⟩
  cases hd : o p p2 with
  | none => rw [hd] at q2; exact q2.elim
  | some d =>
    rw [hd] at q2
    refine f G2 H2 x y p p2 d x2.gh (w1.on x2) w2 hd _ fun v G3 H3 x3 r3 => ?_
    have q3 := Post.on (o := _) q2 x3
    cases d with
    | bl k =>
      cases r3
      refine ⟨k, rfl, ?_⟩
      cases k with
      | true =>
        rw [if_pos rfl]
        refine ⟨G0, H0, ε, G3, ((e.on x1).on x2).on x3, Post.bind q3 fun p3 z G4 H4 _ x4 w4 q4 => ?_⟩
        obtain ⟨d', hd', q5⟩ := q4.of
        exact f' G4 H4 y z p2 p3 d' x4.gh ((w2.on x3).on x4) w4 hd' Q q5
      | false =>
        rw [if_neg Bool.false_ne_true]
        exact q3 _ G3 H3 (Ext.refl x3.gh) (.bl false)
    | _ => exact q3.elim
theorem pd_ch {op op' : CmpOp} {o o' : D → D → Option D} (ho : OpD X (compareOp op) o) (ho' : OpD X (compareOp op') o') (ha : PVw X E a fa) (hb : PVw X E b fb) (hc : PVw X E c fc)
    (hm : lastMarks [op, op'] [b, c] = false := by with_unfolding_all rfl) : PD X E (.Compare a [op, op'] [b, c] pos) (dCh o o' fa fb fc) := by
  obtain ⟨r, hr, f⟩ := ho
  obtain ⟨r', hr', f'⟩ := ho'
  exact PE.weak (pe_chain hr hr' ha hb hc hm) (chain_of f f')
theorem pt_ch {op op' : CmpOp} {o o' : D → D → Option D} (ho : OpD X (compareOp op) o) (ho' : OpD X (compareOp op') o') (ha : PVw X E a fa) (hb : PVw X E b fb) (hc : PVw X E c fc)
    (hm : lastMarks [op, op'] [b, c] = false := by with_unfolding_all rfl) : PTt X E (.Compare a [op, op'] [b, c] pos) (dTestB (dCh o o' fa fb fc)) := by
  obtain ⟨r, hr, f⟩ := ho
  obtain ⟨r', hr', f'⟩ := ho'
  exact PT.weak (pt_chain hr hr' ha hb hc hm) (test_of (chain_of f f'))
end
end PL

set_option Elab.async false
set_option linter.all false
set_option maxRecDepth 100000
set_option maxHeartbeats 2000000
/-! PL2: operators by data; tests; arguments; displays; subscripts; calls. -/
namespace PL
open PySem PySem.Spec PyProof.Rows L2

/-! ### t * 1 -/
theorem tuple_mul1 (l : Addr) (items : Array Value) (n : Nat) (dd : Option Addr) (sl : Array (Option Value)) (u : Tok) :
    Meets (Builtin.«tuple.__mul__» ⟨[.ref l, .int 1 u], []⟩) (fun _ R s => s.heap.get? l = some { cls := .type "tuple", dict := dd, data := .seq items n, slots := sl } ∧ R (.ok (.ret (Value.ref l))) s) :=
  .of_wp fun prog w A R s h => by
    obtain ⟨hp, g, d, tk, os⟩ := s
    obtain ⟨hl, h⟩ := h
    have f1 := AutoSeq1.idx_int
    wp_walk using wpAny_loadPart' hl
    repeat (first
      | (refine wpAny_ite_false (decide_eq_false (by decide)) ?_; wp_walk using wpAny_loadPart' hl)
      | (refine wpAny_ite_true (decide_eq_true (by simp)) ?_; wp_walk using wpAny_loadPart' hl))
    exact ⟨_, rfl, h⟩
section
variable {X : Cx}
def rRep1 (K : PySem.W.Frag) : R2 := fun x y H Q => ∃ l xs, x = .ref l ∧ y = .int 1 ∧ SqT K H l xs ∧ Q (.ref l) H
theorem op_rep1 : OpR X (binaryOp .Mult) (rRep1 X.K) := by
  intro pins s σ H x y v u Q I rx ry h
  obtain ⟨l, xs, rfl, rfl, hT, q⟩ := h
  cases rx
  obtain ⟨t, rfl⟩ := ry
  obtain ⟨its, r, ⟨⟨cls, dd, data, sl⟩, ho, hc, n, hd⟩, hs⟩ := I.tuple hT
  simp only at hc hd
  subst hc hd
  refine wpAny_binaryOp_repeat_ref (T := "tuple") (U := "int") (by decide) ⟨_, ho, rfl⟩ (fun s' => typeIs_int s' 1 t) noFill_tuple_mul F.fills_int_mul F.slot_int_rmul repeat_tuple F.slot_int_index.lookup
    (call_meets F.slot_int_rmul (typeIs_int s 1 t) F.entry_int_rmul (F.args_int_rmul_2 _ _) (int_rmul_tuple 1 t l its.toArray n dd sl)
      ⟨ho, rfl, ⟨_, ho, rfl⟩, call_meets F.slot_tuple_mul ⟨_, ho, rfl⟩ F.entry_tuple_mul (F.args_tuple_mul_2 _ _) (tuple_mul1 l its.toArray n dd sl t) ⟨ho, ?_⟩⟩)
  exact ⟨.ref l, H, I, rfl, q⟩
/-! ### lists that are read or locked -/
theorem lstR {pins : List (Addr × Obj)} {σ : L2.St} {H : Hp} {s : Shared} {l : Addr} {xs : List V} (I : Inv X pins σ H s) (hH : SqL X.K H l xs) :
    xs.length ≤ sizeLine ∧ ∃ (its : List Value) (n : Nat) (sl : Array (Option Value)), Vals xs its ∧ xs.length = its.length ∧ s.heap.get? l = some { cls := .type "list", dict := none, data := .seq its.toArray n, slots := sl } := by
  obtain ⟨its, r, ⟨⟨c, d, dt, sl⟩, n, e, hc, hd, hdt⟩, z⟩ := I.list hH
  simp only at hc hd hdt
  subst hc hd hdt
  exact ⟨z, its, n, sl, r, r.length, e⟩
theorem list_addS (l : Addr) (items : Array Value) (n : Nat) (b : Addr) (items2 : Array Value) (n2 : Nat) (sl sl2 : Array (Option Value)) (hc0 : items.size + items2.size ≤ sizeLine) :
    Meets (Builtin.«list.__add__» ⟨[.ref l, .ref b], []⟩) (fun _ R s => s.heap.get? l = some { cls := .type "list", dict := none, data := .seq items n, slots := sl } ∧ s.heap.get? b = some { cls := .type "list", dict := none, data := .seq items2 n2, slots := sl2 } ∧
      R (.ok (.ret (Value.ref s.heap.objs.size))) { s with heap := s.heap.push { cls := Value.type "list", data := Data.seq (items ++ items2) }, toks := s.toks }) :=
  .of_wp fun prog w A R s h => by
    obtain ⟨hp, g, d, tk, os⟩ := s
    obtain ⟨hl, hb, h⟩ := h
    have f1 := AutoSeq1.idx_int
    have f3 := AutoSeq1.sub_list_list
    wp_walk using AutoSeq1.wpAny_loadPart' hl, AutoSeq1.wpAny_loadPart' hb
    exact ⟨_, rfl, h⟩
theorem list_extS (l : Addr) (items : Array Value) (n : Nat) (b : Addr) (items2 : Array Value) (n2 : Nat) (sl2 : Array (Option Value)) (hc0 : ¬(!items.isEmpty && Builtin.List.listTooLong (items.size + items2.size)) = true) (hc1 : items.size ≤ sizeLine) (hs2 : items.size + items2.size ≤ sizeLine + 1) :
    Meets (Builtin.«list.extend» ⟨[.ref l, .ref b], []⟩) (fun _ R s => s.heap.get? l = some { cls := .type "list", dict := none, data := .seq items n, slots := #[] } ∧ s.heap.get? b = some { cls := .type "list", dict := none, data := .seq items2 n2, slots := sl2 } ∧
      R (.ok (.ret Value.none)) { s with heap := s.heap.update l (Obj.mapSeq fun x => x ++ items2), toks := s.toks }) :=
  .of_wp fun prog w A R s h => by
    obtain ⟨hp, g, d, tk, os⟩ := s
    obtain ⟨hl, hb, h⟩ := h
    have f1 := AutoSeq1.idx_int
    have f3 := AutoSeq1.sub_list_list
    have hz' : (items ++ items2).size ≤ sizeLine + 1 := by rw [Array.size_append]; exact hs2
    wp_walk using (wpAny_updateSeq hl rfl (hz := hc1) (_hz' := hz')), AutoSeq1.wpAny_loadPart' hl, AutoSeq1.wpAny_loadPart' hb
    exact ⟨_, rfl, h⟩
theorem int_rmulS (a : Int) (t : Tok) (l : Addr) (items : Array Value) (n : Nat) (sl : Array (Option Value)) :
    Meets (Builtin.«int.__rmul__» ⟨[.int a t, .ref l], []⟩) (fun _ R s => s.heap.get? l = some { cls := .type "list", dict := none, data := .seq items n, slots := sl } ∧ R (.ok (.ret Value.notImplemented)) s) :=
  .of_wp fun prog w A R s h => by
    obtain ⟨hp, g, d, tk, os⟩ := s
    obtain ⟨hl, h⟩ := h
    wp_walk using AutoSeq1.wpAny_loadPart' hl
    exact ⟨_, rfl, h⟩
theorem list_mulS (l : Addr) (items : Array Value) (n : Nat) (sl : Array (Option Value)) (x : Int) (u : Tok) (hc0 : ¬(!Builtin.List.listFitsIndex x) = true) (hc1 : ¬items.size * x.toNat > (2 ^ 63 - 1) / 8) (hc2 : ¬Builtin.List.listTooLong (items.size * x.toNat) = true)
    (hsz : (List.foldl (fun x1 x2 => x1 ++ x2) #[] (List.replicate (if items.isEmpty = true then 0 else x.toNat) items)).size ≤ sizeLine) :
    Meets (Builtin.«list.__mul__» ⟨[.ref l, .int x u], []⟩) (fun _ R s => s.heap.get? l = some { cls := .type "list", dict := none, data := .seq items n, slots := sl } ∧
      R (.ok (.ret (Value.ref s.heap.objs.size))) { s with heap := s.heap.push { cls := Value.type "list", data := Data.seq (List.foldl (fun x1 x2 => x1 ++ x2) #[] (List.replicate (if items.isEmpty = true then 0 else x.toNat) items)) }, toks := s.toks }) :=
  .of_wp fun prog w A R s h => by
    obtain ⟨hp, g, d, tk, os⟩ := s
    obtain ⟨hl, h⟩ := h
    have f1 := AutoSeq1.idx_int
    wp_walk using AutoSeq1.wpAny_loadPart' hl
    repeat (first
      | (refine wpAny_ite_false (decide_eq_false hc0) ?_; wp_walk using AutoSeq1.wpAny_loadPart' hl)
      | (refine wpAny_ite_false (decide_eq_false hc1) ?_; wp_walk using AutoSeq1.wpAny_loadPart' hl)
      | (refine wpAny_ite_false (decide_eq_false hc2) ?_; wp_walk using AutoSeq1.wpAny_loadPart' hl)
      | (refine wpAny_ite_false (decide_eq_false (Nat.not_lt.mpr hsz)) ?_; wp_walk using AutoSeq1.wpAny_loadPart' hl))
    exact ⟨_, rfl, h⟩
def rCatR (K : PySem.W.Frag) : R2 := fun x y H Q => ∃ l b xs zs, x = .ref l ∧ y = .ref b ∧ SqL K H l xs ∧ SqL K H b zs ∧ xs.length + zs.length ≤ sizeLine ∧ ∀ p, H p = none → Q (.ref p) (upd H p (.lst (xs ++ zs)))
theorem op_catR : OpR X (binaryOp .Add) (rCatR X.K) := by
  intro pins s σ H x y v u Q I rx ry h
  obtain ⟨l, b, xs, zs, rfl, rfl, hH, hB, hz, q⟩ := h
  cases rx
  cases ry
  obtain ⟨z, its, n, sl, r, hl, e⟩ := lstR I hH
  obtain ⟨z2, its2, n2, sl2, r2, hl2, e2⟩ := lstR I hB
  refine concat_meets ⟨_, e, rfl⟩ ⟨_, e2, rfl⟩ noFill_list_add seq_list_add F.slot_list_add F.entry_list_add (F.args_list_add_2 _ _) (list_addS l its.toArray n b its2.toArray n2 sl sl2 (by rw [List.size_toArray, List.size_toArray]; omega)) ⟨e, e2, ?_⟩
  have ea : its.toArray ++ its2.toArray = (its ++ its2).toArray := by simp
  rw [ea]
  exact ⟨.ref _, _, I.lnew (t' := s.toks) (r.append r2) (by rw [List.length_append]; omega), rfl, q _ I.fresh⟩
def rRepR (K : PySem.W.Frag) : R2 := fun x y H Q => ∃ l k xs, x = .ref l ∧ y = .int k ∧ SqL K H l xs ∧ -(2 ^ 63) ≤ k ∧ k < 2 ^ 63 ∧ xs.length * k.toNat ≤ sizeLine ∧
  ∀ p, H p = none → Q (.ref p) (upd H p (.lst (List.replicate k.toNat xs).flatten))
theorem op_repR : OpR X (binaryOp .Mult) (rRepR X.K) := by
  intro pins s σ H x y v u Q I rx ry h
  obtain ⟨l, k, xs, rfl, rfl, hH, h1, h2, hz, q⟩ := h
  cases rx
  obtain ⟨t, rfl⟩ := ry
  obtain ⟨z, its, n, sl, r, hl, e⟩ := lstR I hH
  have hlen : its.toArray.size * k.toNat ≤ sizeLine := by rw [List.size_toArray, ← hl]; exact hz
  have hcap : ¬ its.toArray.size * k.toNat > (2 ^ 63 - 1) / 8 := by
    have : (sizeLine : Nat) ≤ (2 ^ 63 - 1) / 8 := by decide
    omega
  have hfit : ¬ (!Builtin.List.listFitsIndex k) = true := by
    rw [fitsIndex_both h1 h2]
    exact Bool.false_ne_true
  have hlong : ¬ Builtin.List.listTooLong (its.toArray.size * k.toNat) = true := by
    rw [notLongL hlen]
    exact Bool.false_ne_true
  have hnew : List.foldl (fun x1 x2 => x1 ++ x2) #[] (List.replicate (if its.toArray.isEmpty = true then 0 else k.toNat) its.toArray) = (List.replicate k.toNat its).flatten.toArray := by
    have f0 : ∀ m : Nat, List.foldl (fun x1 x2 => x1 ++ x2) #[] (List.replicate m its.toArray) = (List.replicate m its).flatten.toArray := fun m => by
      have := foldl_rep its m []
      rw [List.nil_append] at this
      exact this
    rw [f0]
    cases its with
    | nil => simp
    | cons a r' => rw [if_neg (by simp)]
  have hfl : (List.replicate k.toNat its).flatten.length ≤ sizeLine := by
    rw [PyProof.Rows.lm_len_rep_flat, Nat.mul_comm, ← hl]; exact hz
  refine wpAny_binaryOp_repeat_ref (T := "list") (U := "int") (by decide) ⟨_, e, rfl⟩ (fun s' => typeIs_int s' k t) noFill_list_mul F.fills_int_mul F.slot_int_rmul repeat_list F.slot_int_index.lookup
    (call_meets F.slot_int_rmul (typeIs_int s k t) F.entry_int_rmul (F.args_int_rmul_2 _ _) (int_rmulS k t l its.toArray n sl)
      ⟨e, rfl, ⟨_, e, rfl⟩, call_meets F.slot_list_mul ⟨_, e, rfl⟩ F.entry_list_mul (F.args_list_mul_2 _ _) (list_mulS l its.toArray n sl k t hfit hcap hlong (by rw [hnew, List.size_toArray]; exact hfl)) ⟨e, ?_⟩⟩)
  rw [hnew]
  exact ⟨.ref _, _, I.lnew (t' := s.toks) (r.rep k.toNat) (by rw [PyProof.Rows.lm_len_rep_flat, Nat.mul_comm]; exact hz), rfl, q _ I.fresh⟩

/-! ### operators by data -/
theorem lim_le {n : Nat} (h : n ≤ LIM) : n ≤ sizeLine := Nat.le_trans h (by decide)
theorem rep_one {α : Type} (a : List α) : (List.replicate 1 a).flatten = a := by simp
theorem opd_add : OpD X (binaryOp .Add) oAdd := by
  refine ⟨_, OpR.or op_add (OpR.or op_catA (OpR.or op_catR op_add_str)), fun G H x y p q d e wx wy h Q k => ?_⟩
  unfold oAdd at h
  split at h
  · cases h
    exact .inl ⟨_, _, wx.int, wy.int, k _ G H (Ext.refl e) (.int _)⟩
  · split at h
    · rename_i hl
      cases h
      obtain ⟨a, vs, rfl, s1, s1', r1⟩ := wx.tup e
      obtain ⟨b, ws, rfl, s2, s2', r2⟩ := wy.tup e
      have l1 := r1.length
      have l2 := r2.length
      refine .inr (.inl ⟨a, b, vs, ws, rfl, rfl, s1, s2, lim_le (by omega), fun z => ?_, fun _ z => ?_, fun _ _ p hp => ?_⟩)
      · subst z
        cases r1
        exact k _ G H (Ext.refl e) wy.tupR
      · subst z
        cases r2
        rw [List.append_nil] at k
        exact k _ G H (Ext.refl e) wx.tupR
      · exact k _ _ _ (Ext.lay e hp) (.tup (.inl (.inl upd_same)) ((r1.append r2).up (Ex.new (e.back hp))))
    · cases h
  · split at h
    · rename_i hl
      cases h
      obtain ⟨a, vs, rfl, s1, r1⟩ := wx.lst e
      obtain ⟨b, ws, rfl, s2, r2⟩ := wy.lst e
      have l1 := r1.length
      have l2 := r2.length
      refine .inr (.inr (.inl ⟨a, b, vs, ws, rfl, rfl, s1, s2, lim_le (by omega), fun p hp => ?_⟩))
      exact k _ _ _ (Ext.lay e hp) (.lst (SqL.of upd_same) ((r1.append r2).up (Ex.new (e.back hp))))
    · cases h
  · split at h
    · rename_i hl
      cases h
      exact .inr (.inr (.inr ⟨_, _, wx.str, wy.str, lim_le hl, k _ G H (Ext.refl e) (.str _)⟩))
    · cases h
  · cases h
theorem opd_sub : OpD X (binaryOp .Sub) oSub := by
  refine ⟨_, op_sub, fun G H x y p q d e wx wy h Q k => ?_⟩
  unfold oSub at h
  split at h
  · cases h; exact ⟨_, _, wx.int, wy.int, k _ G H (Ext.refl e) (.int _)⟩
  · cases h
theorem small_iff {i : Int} (h : small i = true) : -(2 ^ 64) < i ∧ i < 2 ^ 64 := by
  unfold small at h
  rw [Bool.and_eq_true, decide_eq_true_eq, decide_eq_true_eq] at h
  omega
theorem opd_mul : OpD X (binaryOp .Mult) oMul := by
  refine ⟨_, OpR.or op_mul (OpR.or op_rep1 (OpR.or op_repT op_repR)), fun G H x y p q d e wx wy h Q k => ?_⟩
  unfold oMul at h
  split at h
  · split at h
    · rename_i i j hs
      cases h
      refine .inl ⟨_, _, wx.int, wy.int, ?_, k _ G H (Ext.refl e) (.int _)⟩
      rw [Bool.or_eq_true] at hs
      rcases hs with hs | hs
      · exact .inl (small_iff hs)
      · exact .inr (small_iff hs)
    · cases h
  · split at h
    · rename_i a kk hs
      cases h
      simp only [Bool.and_eq_true, decide_eq_true_eq] at hs
      obtain ⟨⟨⟨h1, h2⟩, h3⟩, h4⟩ := hs
      obtain ⟨b, vs, rfl, s1, s1', r1⟩ := wx.tup e
      have l1 := r1.length
      by_cases hk : kk = 1
      · subst hk
        have ek := wy.int
        refine .inr (.inl ⟨b, vs, rfl, ek, s1, ?_⟩)
        rw [show (1 : Int).toNat = 1 from rfl, rep_one] at k
        exact k _ G H (Ext.refl e) wx.tupR
      · refine .inr (.inr (.inl ⟨b, kk, vs, rfl, wy.int, s1, fun z => ?_, by omega, h3, by omega, fun p hp => ?_⟩))
        · subst z
          cases r1
          simp at h1
        · exact k _ _ _ (Ext.lay e hp) (.tup (.inl (.inl upd_same)) ((r1.rep _).up (Ex.new (e.back hp))))
    · cases h
  · split at h
    · rename_i a kk hs
      cases h
      simp only [Bool.and_eq_true, decide_eq_true_eq] at hs
      obtain ⟨⟨h1, h2⟩, h3⟩ := hs
      obtain ⟨b, vs, rfl, s1, r1⟩ := wx.lst e
      have l1 := r1.length
      refine .inr (.inr (.inr ⟨b, kk, vs, rfl, wy.int, s1, by omega, by omega, ?_, fun p hp => ?_⟩))
      · have : vs.length * kk.toNat ≤ 1000 * 1000 := Nat.mul_le_mul (by omega) (by omega)
        rw [sizeLine_eq]; omega
      · exact k _ _ _ (Ext.lay e hp) (.lst (SqL.of upd_same) ((r1.rep _).up (Ex.new (e.back hp))))
    · cases h
  · cases h
theorem opd_fdiv : OpD X (binaryOp .FloorDiv) oFdiv := by
  refine ⟨_, op_fdiv, fun G H x y p q d e wx wy h Q k => ?_⟩
  unfold oFdiv at h
  split at h
  · split at h
    · rename_i hc; cases h; exact ⟨_, _, wx.int, wy.int, hc, k _ G H (Ext.refl e) (.int _)⟩
    · cases h
  · cases h
theorem opd_mod : OpD X (binaryOp .Mod) oMod := by
  refine ⟨_, op_mod, fun G H x y p q d e wx wy h Q k => ?_⟩
  unfold oMod at h
  split at h
  · split at h
    · rename_i hc; cases h; exact ⟨_, _, wx.int, wy.int, hc, k _ G H (Ext.refl e) (.int _)⟩
    · cases h
  · cases h
theorem opd_eq (hu : X.A.units + 64 < cLine) : OpD X (compareOp .Eq) oEq := by
  refine ⟨_, op_eqD hu, fun G H x y p q d e wx wy h Q k => ?_⟩
  unfold oEq at h
  split at h
  · rename_i hs
    cases h
    rw [Bool.and_eq_true] at hs
    exact ⟨_, _, wx.dp e, wy.dp e, hs.1, hs.2, k _ G H (Ext.refl e) (.bl _)⟩
  · cases h
theorem opd_ne (hu : X.A.units + 64 < cLine) : OpD X (compareOp .NotEq) oNe := by
  refine ⟨_, op_neD hu, fun G H x y p q d e wx wy h Q k => ?_⟩
  unfold oNe at h
  split at h
  · rename_i hs
    cases h
    rw [Bool.and_eq_true] at hs
    exact ⟨_, _, wx.dp e, wy.dp e, hs.1, hs.2, k _ G H (Ext.refl e) (.bl _)⟩
  · cases h
theorem opd_cmp {op : CmpOp} {p : Int → Int → Bool} (h : OpR X (compareOp op) (rI0 fun i j => .bl (p i j))) : OpD X (compareOp op) (oCmp p) := by
  refine ⟨_, h, fun G H x y p q d e wx wy h Q k => ?_⟩
  unfold oCmp at h
  split at h
  · cases h; exact ⟨_, _, wx.int, wy.int, k _ G H (Ext.refl e) (.bl _)⟩
  · cases h
theorem opd_lt : OpD X (compareOp .Lt) oLt := opd_cmp op_lt
theorem opd_le : OpD X (compareOp .LtE) oLe := opd_cmp op_le
theorem opd_gt : OpD X (compareOp .Gt) oGt := opd_cmp op_gt
theorem opd_ge : OpD X (compareOp .GtE) oGe := opd_cmp op_ge
theorem opd_is : OpD X (compareOp .Is) oIs := by
  refine ⟨_, OpR.or op_isN op_isBl, fun G H x y p q d e wx wy h Q k => ?_⟩
  unfold oIs at h
  split at h
  · cases h
    refine .inl ⟨wy.non, ?_⟩
    rw [wx.isN]
    exact k _ G H (Ext.refl e) (.bl _)
  · cases h
    exact .inr ⟨_, _, wx.bl, wy.bl, k _ G H (Ext.refl e) (.bl _)⟩
  · cases h
theorem opd_isNot : OpD X (compareOp .IsNot) oIsNot := by
  refine ⟨_, OpR.or op_notN op_notBl, fun G H x y p q d e wx wy h Q k => ?_⟩
  unfold oIsNot at h
  split at h
  · cases h
    refine .inl ⟨wy.non, ?_⟩
    rw [wx.isN]
    exact k _ G H (Ext.refl e) (.bl _)
  · cases h
    exact .inr ⟨_, _, wx.bl, wy.bl, k _ G H (Ext.refl e) (.bl _)⟩
  · cases h
end

section
variable {X : Cx} {E : XK} {a b c e : Expr} {es : List Expr} {fa fb fc : DE} {ta tb tc : Ev → Out Bool} {pos : Pos} {rest : List Expr}
theorem pd_neg (ha : PVw X E a fa) : PD X E (.UnaryOp .USub a pos) (d1 oNeg fa) := PE.weak (pe_un un_neg ha) fun σ H Q ⟨G0, H0, ε, G, ev, q⟩ => by
  refine ⟨G0, H0, ε, G, ev, q.bind fun p x G1 H1 _ x1 w1 q1 => ?_⟩
  obtain ⟨d, hd, q2⟩ := q1.of
  unfold oNeg at hd
  split at hd
  · cases hd; exact ⟨_, w1.int, q2 _ G1 H1 (Ext.refl x1.gh) (.int _)⟩
  · cases hd
/-! tests -/
theorem tru_of {K : PySem.W.Frag} {G H : Hp} {x : V} {d : D} {k : Bool} (w : Vw K G H x d) (e : Ex G H) (h : tru d = some k) : TruV K x H k := by
  cases d with
  | non => rw [w.non]; cases h; rfl
  | bl b => rw [w.bl]; cases h; rfl
  | int i => rw [w.int]; cases h; rfl
  | str z =>
    rw [w.str]
    simp only [tru] at h
    split at h
    · rename_i hl; cases h; exact ⟨lim_le hl, rfl⟩
    · cases h
  | tup ds =>
    obtain ⟨a, vs, rfl, s1, _, r1⟩ := w.tup e
    cases h
    refine .inr (.inl ⟨vs, s1, ?_⟩)
    cases r1 <;> rfl
  | lst ds =>
    obtain ⟨a, vs, rfl, s1, r1⟩ := w.lst e
    cases h
    refine .inl ⟨vs, s1, ?_⟩
    cases r1 <;> rfl
theorem pt_of (ha : PVw X E a fa) (he : ∀ whole, isTrue a X.env whole = (do let v ← whole; standAt a.pos; holding [v] (truthy v)) := by intro _; rfl) : PTt X E a (dTest fa) :=
  PT.weak (pt_truth ha he) fun σ H Q ⟨G0, H0, ε, G, ev, q⟩ => by
    refine ⟨G0, H0, ε, G, ev, q.bind fun p x G1 H1 _ x1 w1 q1 => ?_⟩
    obtain ⟨k, hk, q2⟩ := q1.of
    exact ⟨k, tru_of w1 x1.gh hk, q2 k G1 H1 (Ext.refl x1.gh) rfl⟩
theorem pt_no (ha : PTt X E a ta) : PTt X E (.UnaryOp .Not a pos) (dNotT ta) := PT.weak (pt_not ha) fun σ H Q ⟨G0, H0, ε, G, ev, q⟩ => by
  refine ⟨G0, H0, ε, G, ev, q.bind fun p x G1 H1 _ x1 w1 q1 => ?_⟩
  cases w1
  exact q1 _ G1 H1 (Ext.refl x1.gh) rfl
/-- and, or of tests -/
abbrev PWt (X : Cx) (E : XK) (e : Expr) (f : Ev → Out Bool) : Prop := PW X e (tG X.w X.K X.mg E rB f)
theorem PW.weak {t t' : TT} (h : PW X e t) (f : ∀ σ H Q, t' σ H Q → t σ H Q) : PW X e t' := ⟨fun wh pins s σ H Q I q => h.run wh pins s σ H Q I (f σ H Q q)⟩
theorem pw_a1 (ha : PTt X E a ta) : PWt X E (.BoolOp .And [a] pos) ta := pw_and1 ha
theorem pw_o1 (ha : PTt X E a ta) : PWt X E (.BoolOp .Or [a] pos) ta := pw_or1 ha
theorem pw_a (ha : PTt X E a ta) (hb : PWt X E (.BoolOp .And (b :: rest) pos) tb) : PWt X E (.BoolOp .And (a :: b :: rest) pos) (dAndT ta tb) := PW.weak (pw_and ha hb) fun σ H Q ⟨G0, H0, ε, G, ev, q⟩ => by
  refine ⟨G0, H0, ε, G, ev, q.bind fun p x G1 H1 _ x1 w1 q1 => ?_⟩
  cases w1
  cases p with
  | true => exact ⟨G0, H0, ε, G1, ev.on x1, q1⟩
  | false => exact q1 _ G1 H1 (Ext.refl x1.gh) rfl
theorem pw_o (ha : PTt X E a ta) (hb : PWt X E (.BoolOp .Or (b :: rest) pos) tb) : PWt X E (.BoolOp .Or (a :: b :: rest) pos) (dOrT ta tb) := PW.weak (pw_or ha hb) fun σ H Q ⟨G0, H0, ε, G, ev, q⟩ => by
  refine ⟨G0, H0, ε, G, ev, q.bind fun p x G1 H1 _ x1 w1 q1 => ?_⟩
  cases w1
  cases p with
  | false => exact ⟨G0, H0, ε, G1, ev.on x1, q1⟩
  | true => exact q1 _ G1 H1 (Ext.refl x1.gh) rfl
theorem pt_w (h : PWt X E e ta) : PTt X E e ta := PW.pt h
/-- .. as values -/
theorem pd_one {op} (h : PD X E a fa) : PD X E (.BoolOp op [a] pos) fa := pe_one h
theorem pd_or (ha : PD X E a fa) (hb : PD X E (.BoolOp .Or (b :: rest) pos) fb) : PD X E (.BoolOp .Or (a :: b :: rest) pos) (dOr fa fb) := PE.weak (pe_orT ha hb) fun σ H Q ⟨G0, H0, ε, G, ev, q⟩ => by
  refine ⟨G0, H0, ε, G, ev, q.bind fun p x G1 H1 _ x1 w1 q1 => ?_⟩
  cases hk : tru p with
  | none => rw [hk] at q1; exact q1.elim
  | some k =>
    rw [hk] at q1
    refine ⟨k, tru_of (.v w1) x1.gh hk, ?_⟩
    cases k with
    | true => exact q1 _ G1 H1 (Ext.refl x1.gh) w1
    | false => exact ⟨G0, H0, ε, G1, ev.on x1, q1⟩
theorem pd_and (ha : PD X E a fa) (hb : PD X E (.BoolOp .And (b :: rest) pos) fb) : PD X E (.BoolOp .And (a :: b :: rest) pos) (dAnd fa fb) := PE.weak (pe_andT ha hb) fun σ H Q ⟨G0, H0, ε, G, ev, q⟩ => by
  refine ⟨G0, H0, ε, G, ev, q.bind fun p x G1 H1 _ x1 w1 q1 => ?_⟩
  cases hk : tru p with
  | none => rw [hk] at q1; exact q1.elim
  | some k =>
    rw [hk] at q1
    refine ⟨k, tru_of (.v w1) x1.gh hk, ?_⟩
    cases k with
    | false => exact q1 _ G1 H1 (Ext.refl x1.gh) w1
    | true => exact ⟨G0, H0, ε, G1, ev.on x1, q1⟩
theorem pd_not (ha : PVw X E a fa) : PD X E (.UnaryOp .Not a pos) (dNot fa) := PE.weak (pe_notT ha) fun σ H Q ⟨G0, H0, ε, G, ev, q⟩ => by
  refine ⟨G0, H0, ε, G, ev, q.bind fun p x G1 H1 _ x1 w1 q1 => ?_⟩
  cases hk : tru p with
  | none => rw [hk] at q1; exact q1.elim
  | some k =>
    rw [hk] at q1
    exact ⟨k, tru_of w1 x1.gh hk, q1 _ G1 H1 (Ext.refl x1.gh) (.bl _)⟩
theorem pd_if (hc : PTt X E c tc) (ha : PD X E a fa) (hb : PD X E b fb) : PD X E (.IfExp c a b pos) (dIf tc fa fb) := PE.weak (pe_ifExp hc ha hb) fun σ H Q ⟨G0, H0, ε, G, ev, q⟩ => by
  refine ⟨G0, H0, ε, G, ev, q.bind fun p x G1 H1 _ x1 w1 q1 => ?_⟩
  cases w1
  cases p with
  | true => exact ⟨G0, H0, ε, G1, ev.on x1, q1⟩
  | false => exact ⟨G0, H0, ε, G1, ev.on x1, q1⟩
/-! arguments, displays -/
theorem pa_n : PAd X E [] (dArgs []) := PA.weak pa_nil fun σ H Q ⟨G0, H0, ε, G, ev, q⟩ => q [] G H (Ext.refl ev.gh) .nil
theorem pa_c {fl : List DE} (ha : PD X E e fa) (hr : PAd X E es (dArgs fl)) (hs : starEach (e :: es) X.env = (false, eval e X.env) :: starEach es X.env := by rfl) : PAd X E (e :: es) (dArgs (fa :: fl)) :=
  PA.weak (pa_cons ha hr hs) fun σ H Q ⟨G0, H0, ε, G, ev, q⟩ => by
    refine ⟨G0, H0, ε, G, ev, Post.bind q fun p x G1 H1 _ x1 w1 q1 => ?_⟩
    refine ⟨G0, H0, ε, G1, ev.on x1, Post.bind q1 fun ps xs G2 H2 _ x2 w2 q2 => ?_⟩
    exact q2 _ G2 H2 (Ext.refl x2.gh) (.cons (w1.up x2.gg) w2)
theorem pv_n : PAw X E [] (dArgs []) := PA.weak pa_nil fun σ H Q ⟨G0, H0, ε, G, ev, q⟩ => q [] G H (Ext.refl ev.gh) .nil
theorem pv_c {fl : List DE} (ha : PVw X E e fa) (hr : PAw X E es (dArgs fl)) (hs : starEach (e :: es) X.env = (false, eval e X.env) :: starEach es X.env := by rfl) : PAw X E (e :: es) (dArgs (fa :: fl)) :=
  PA.weak (pa_cons ha hr hs) fun σ H Q ⟨G0, H0, ε, G, ev, q⟩ => by
    refine ⟨G0, H0, ε, G, ev, Post.bind q fun p x G1 H1 _ x1 w1 q1 => ?_⟩
    refine ⟨G0, H0, ε, G1, ev.on x1, Post.bind q1 fun ps xs G2 H2 _ x2 w2 q2 => ?_⟩
    exact q2 _ G2 H2 (Ext.refl x2.gh) (.cons (w1.on x2) w2)
theorem dArgs_len : ∀ {fl : List DE} {ε : Ev} {ds : List D}, dArgs fl ε = .ok ds → ds.length = fl.length
  | [], ε, ds, h => by cases h; rfl
  | f :: fl, ε, ds, h => by
    unfold dArgs at h
    cases h1 : f ε with
    | ok d =>
      rw [h1] at h
      simp only [Out.bind] at h
      cases h2 : dArgs fl ε with
      | ok ds' => rw [h2] at h; cases h; rw [List.length_cons, List.length_cons, dArgs_len h2]
      | rs c => rw [h2] at h; cases h
      | no => rw [h2] at h; cases h
    | rs c => rw [h1] at h; cases h
    | no => rw [h1] at h; cases h
theorem pd_tup {fl : List DE} {x1} (h : PAd X E es (dArgs fl)) (hn : fl.length ≤ LIM := by decide) : PD X E (.Tuple es x1 pos) (dTup fl) := PE.weak (pe_tup h) fun σ H Q ⟨G0, H0, ε, G, ev, q⟩ => by
  refine ⟨G0, H0, ε, G, ev, Post.bind q fun ps xs G1 H1 hd x1 w1 q1 => ⟨lim_le ?_, fun p hp => ?_⟩⟩
  · rw [w1.length, dArgs_len hd]; exact hn
  · exact q1 _ _ _ (Ext.lay x1.gh hp) (.tup (.inl (.inl upd_same)) (w1.up (Ex.new (x1.gh.back hp))))
theorem pf_lst {fl : List DE} (h : PAd X E es (dArgs fl)) (hn : fl.length ≤ LIM := by decide) : PF X E (.List es pos) (lLst fl) := PE.weak (pe_lst h) fun σ H Q ⟨G0, H0, ε, G, ev, q⟩ => by
  refine ⟨G0, H0, ε, G, ev, ?_⟩
  unfold lLst at q
  cases h1 : dArgs fl ε with
  | ok ds =>
    rw [h1] at q
    intro xs G1 H1 x1 w1
    refine ⟨lim_le ?_, fun p hp => ?_⟩
    · rw [w1.length, dArgs_len h1]; exact hn
    · exact q p xs G1 _ (x1.trans (Ext.open_ x1.gh hp)) (x1.hh.back hp) upd_same (x1.gh.back hp) w1
  | rs c => rw [h1] at q; exact q
  | no => rw [h1] at q; exact q
/-! subscripts -/
theorem at_get {K : PySem.W.Frag} {G : Hp} {vs : List V} {ds : List D} {i : Int} {d : D} (r : RpAll K G vs ds) (h : atI ds i = some d) : ∃ v, atI vs i = some v ∧ Rp K G v d := by
  unfold atI at h ⊢
  rw [r.length]
  cases hj : ixN ds.length i with
  | none => rw [hj] at h; cases h
  | some j =>
    rw [hj] at h
    obtain ⟨v, h1, h2⟩ := r.getD h
    exact ⟨v, h1, h2⟩
theorem pd_ix (ha : PVw X E a fa) (hb : PVw X E b fb) (hs : PlainIx b := by exact fun _ _ => rfl) : PD X E (.Subscript a b pos) (d2 oIx fa fb) :=
  PE.weak (pe_ix ix_seq ha hb hs) (op_of fun G H x y p q d e wx wy h Q k => by
    unfold oIx at h
    split at h
    · obtain ⟨u, vs, rfl, s1, _, r1⟩ := wx.tup e
      obtain ⟨v, h1, h2⟩ := at_get r1 h
      exact .inr (.inl ⟨u, vs, _, v, rfl, wy.int, s1, h1, k _ G H (Ext.refl e) h2⟩)
    · obtain ⟨u, vs, rfl, s1, r1⟩ := wx.lst e
      obtain ⟨v, h1, h2⟩ := at_get r1 h
      exact .inl ⟨u, vs, _, v, rfl, wy.int, s1, h1, k _ G H (Ext.refl e) h2⟩
    · split at h
      · rename_i z i hl
        cases hc : atI z.cps.toList i with
        | none => rw [hc] at h; cases h
        | some cc =>
          rw [hc] at h
          cases h
          exact .inr (.inr ⟨z, i, cc, wx.str, wy.int, lim_le hl, hc, k _ G H (Ext.refl e) (.str _)⟩)
      · cases h
    · cases h)
/-- an optional part of a slice -/
abbrev rO : Option Int → Option Int → Hp → Hp → Prop := fun a b _ _ => a = b
abbrev PPt (X : Cx) (E : XK) (e : Option Expr) (f : Ev → Out (Option Int)) : Prop := PO X e (tG X.w X.K X.mg E rO f)
theorem PO.weak {oe : Option Expr} {t t' : TO} (h : PO X oe t) (f : ∀ σ H Q, t' σ H Q → t σ H Q) : PO X oe t' := ⟨fun pins s σ H Q I q => h.run pins s σ H Q I (f σ H Q q)⟩
theorem pp_n : PPt X E none (dPart none) := PO.weak po_none fun σ H Q ⟨G0, H0, ε, G, ev, q⟩ => q none G H (Ext.refl ev.gh) rfl
theorem pp_s (h : PVw X E e fa) : PPt X E (some e) (dPart (some fa)) := PO.weak (po_some h) fun σ H Q ⟨G0, H0, ε, G, ev, q⟩ => by
  refine ⟨G0, H0, ε, G, ev, Post.bind q fun p x G1 H1 _ x1 w1 q1 => ?_⟩
  cases p with
  | int i => exact ⟨i, w1.int, q1 _ G1 H1 (Ext.refl x1.gh) rfl⟩
  | _ => exact q1.elim
theorem cut_len {α : Type} (xs : List α) (lo hi : Option Int) : (cut xs lo hi).length ≤ xs.length := by
  unfold cut
  rw [List.length_take, List.length_drop]
  omega
theorem RpAll.cut {K : PySem.W.Frag} {G : Hp} {vs : List V} {ds : List D} (r : RpAll K G vs ds) (lo hi : Option Int) : RpAll K G (cutV vs lo hi) (PL.cut ds lo hi) := by
  unfold cutV PL.cut
  rw [r.length]
  exact (r.drop _).take _
theorem cut_all {α : Type} (xs : List α) (lo hi : Option Int) (h : HT.sIx xs.length 0 lo = 0 ∧ HT.sIx xs.length xs.length hi = xs.length) : cut xs lo hi = xs := by
  unfold cut
  rw [h.1, h.2, List.drop_zero, Nat.sub_zero, List.take_length]
theorem pd_sl {lo hi : Option Expr} {fl fh : Option DE} {p2 : Pos} (ha : PVw X E a fa) (hl : PPt X E lo (dPart fl)) (hh : PPt X E hi (dPart fh)) : PD X E (.Subscript a (.Slice lo hi none p2) pos) (dSl fa fl fh) :=
  PE.weak (pe_slice (SlR.or sl_tupA (SlR.or sl_list sl_str)) ha hl hh) fun σ H Q ⟨G0, H0, ε, G, ev, q⟩ => by
    refine ⟨G0, H0, ε, G, ev, Post.bind q fun p x G1 H1 _ x1 w1 q1 => ?_⟩
    refine ⟨G0, H0, ε, G1, ev.on x1, Post.bind q1 fun l l' G2 H2 _ x2 e2 q2 => ?_⟩
    cases e2
    refine ⟨G0, H0, ε, G2, (ev.on x1).on x2, Post.bind q2 fun h h' G3 H3 _ x3 e3 q3 => ?_⟩
    cases e3
    obtain ⟨d, hd, q4⟩ := q3.of
    have w3 := (w1.on x2).on x3
    unfold oSl at hd
    split at hd
    · cases hd
      obtain ⟨u, vs, rfl, s1, _, r1⟩ := w3.tup x3.gh
      refine .inl ⟨u, vs, rfl, s1, fun z => ?_, fun z p hp => ?_⟩
      · have z' : HT.sIx _ 0 l = 0 ∧ HT.sIx _ _ h = _ := z
        rw [r1.length] at z'
        have e5 := cut_all _ l h z'
        rw [e5] at q4
        exact q4 _ G3 H3 (Ext.refl x3.gh) w3.tupR
      · exact q4 _ _ _ (Ext.lay x3.gh hp) (.tup (.inl (.inl upd_same)) ((r1.cut l h).up (Ex.new (x3.gh.back hp))))
    · cases hd
      obtain ⟨u, vs, rfl, s1, r1⟩ := w3.lst x3.gh
      refine .inr (.inl ⟨u, vs, rfl, s1, fun p hp => ?_⟩)
      exact q4 _ _ _ (Ext.lay x3.gh hp) (.lst (SqL.of upd_same) ((r1.cut l h).up (Ex.new (x3.gh.back hp))))
    · split at hd
      · rename_i hz
        cases hd
        exact .inr (.inr ⟨_, w3.str, lim_le hz, q4 _ G3 H3 (Ext.refl x3.gh) (.str _)⟩)
      · cases hd
    · cases hd
end
end PL

set_option Elab.async false
set_option linter.all false
set_option maxRecDepth 100000
set_option maxHeartbeats 2000000
/-! PL3: what is walked; calls. -/
namespace PL
open PySem PySem.Spec PyProof.Rows L2
open AutoSeq1 (wpAny_loadPart')

/-! ### enumerate of a tuple -/
theorem meets_enum1 {v : Value} {o : Obj} {H : Heap → Prop} (B : Begins v o H) :
    Meets (Builtin.«enumerate.__new__» ⟨[.type "enumerate", v], []⟩) (fun _ R s => H s.heap ∧
      R (.ok (.ret (.ref (s.heap.push o).objs.size))) { s with heap := (s.heap.push o).push { cls := .type "enumerate", data := .fields #[.none, .bool false, .ref s.heap.objs.size, rawInt 0, .none, .none] } }) :=
  .of_wp fun prog w A R s h => by
    obtain ⟨hp, g, d, tk, os⟩ := s
    obtain ⟨h1, h⟩ := h
    have hsub := sub_enumerate
    have q1 : ∀ {A' : Around} {E : Value → Shared → Prop} {Q : Value → Shared → Prop}, Q (.ref hp.objs.size) ⟨(hp.push o), g, d, tk, os⟩ → wpAny (model prog w) A' (pyIter v) Q E ⟨hp, g, d, tk, os⟩ :=
      fun q => B.iter prog w _ _ ⟨hp, g, d, tk, os⟩ _ (B.keeps _ _ h1 fun b o' e => e) q
    wp_walk using q1
    refine wpAny_stack_any fun st => wpAny_pure ?_
    split
    · rename_i c _ _ _ _ _
      cases (c == Value.type "enumerate") <;> (wp_walk using q1; exact ⟨_, rfl, h⟩)
    · wp_walk using q1
      exact ⟨_, rfl, h⟩
theorem enum1_begins {prog : Program} {w : World} {A : Around} {E : Value → Shared → Prop} {s : Shared} {v : Value} {o : Obj} {H : Heap → Prop} {Q : Value → Shared → Prop} (B : Begins v o H) (h1 : H s.heap)
    (h : ∀ h', IsEnum h' (s.heap.objs.size + 1) s.heap.objs.size 0 .none → h'.get? s.heap.objs.size = some o →
      (∀ b o, s.heap.get? b = some o → h'.get? b = some o) → Q (.ref (s.heap.objs.size + 1)) { s with heap := h' }) :
    wpAny (model prog w) A (call (.type "enumerate") [v]) Q E s := by
  refine callType_new F.called_enumerate (by decide) (F.typeCall_enumerate_1 _) (F.newCall_enumerate_1 _) (fun obj => F.args_object_init_2 obj _) F.entry_enumerate_new (meets_enum1 B) ⟨h1, ?_⟩
  have hz : (s.heap.push o).objs.size = s.heap.objs.size + 1 := Heap.size_push ..
  have he := Heap.get?_push_size (s.heap.push o) (o := { cls := .type "enumerate", data := .fields #[.none, .bool false, .ref s.heap.objs.size, rawInt 0, .none, .none] }) rfl
  rw [hz] at he
  show _ ∧ _
  rw [hz]
  exact ⟨⟨_, he, rfl⟩, h _ he (Heap.get?_push_of_some _ (Heap.get?_push_size _ B.free)) fun b o x => Heap.get?_push_of_some _ (Heap.get?_push_of_some _ x)⟩
def IteT (K : PySem.W.Frag) (a : Addr) : It :=
  ⟨fun i H => ∃ (xs : List V) (x : V), SqT K H a xs ∧ xs[i]? = some x, fun i H v H' => ∃ T x, v = .ref T ∧ H T = none ∧ H' = upd H T (.tup [.int (i : Nat), x]) ∧ ∀ xs, SqT K H a xs → xs[i]? = some x, fun i H => ∃ xs : List V, SqT K H a xs ∧ xs.length ≤ i⟩
theorem turn_enumT {P : Program} {w : World} {K : PySem.W.Frag} {elts : List Expr} {kk : Nat} {tpos : Pos} (a e it : Addr) :
    Turn P w K (.Tuple elts kk tpos) (IteT K a) [e, it] e (fun i h => (∃ old, IsEnum h e it ((i : Nat) : Int) old) ∧ h.IsTupleIter it a i ∧ e ≠ it) where
  mem := by simp
  obj := fun i h st b hb => by
    obtain ⟨⟨old, he⟩, ⟨o, ho, hc, hd⟩, _⟩ := st
    have e' : b = e ∨ b = it := by simpa using hb
    rcases e' with z | z
    · rw [z]; exact ⟨_, he, fun v q => nomatch q⟩
    · rw [z]; exact ⟨o, ho, fun v q => by rw [hd] at q; cases q⟩
  keep := fun i h h' st k => let ⟨⟨old, he⟩, hi, hne⟩ := st; ⟨⟨old, k e (by simp) _ he⟩, hi.at fun o q => k it (by simp) o q, hne⟩
  item := by
    intro X hP hw hK hc i pins s σ H E I hf st hg
    subst hP hw hK
    obtain ⟨⟨old, he⟩, hit, hne⟩ := st
    obtain ⟨xs, x, hq, hx⟩ := hg
    obtain ⟨its, rv, p, hz⟩ := I.tuple hq
    obtain ⟨u, hu, ru⟩ := rv.get hx
    have hel : e < s.heap.objs.size := Heap.lt_size he
    have hil : it < s.heap.objs.size := by obtain ⟨_, q, _⟩ := hit; exact Heap.lt_size q
    have nat : a ≠ it := fun z => by
      obtain ⟨o1, h1, c1, _⟩ := p
      obtain ⟨o2, h2, c2, _⟩ := hit
      rw [z, h2] at h1
      cases h1
      rw [c2] at c1
      exact absurd (Value.type.inj c1) (by decide)
    have nae : e ≠ a := fun z => by
      obtain ⟨o1, h1, c1, _⟩ := p
      rw [← z, he] at h1
      cases h1
      exact absurd (Value.type.inj c1) (by decide)
    have DD := Draws.tuple (prog := X.prog) (w := X.w) (A := X.A.in1) (I.ok.hd hc) it a nat its.toArray
    have hiz : i < its.toArray.size := by rw [List.size_toArray]; exact lt_of_get hu
    refine wpAny_pyNext_enum_itemD DD he ⟨hit, p⟩ hiz hne (by simp [hne, nae]) fun x' h' tk hx' ho hst' hT hsz hk => ?_
    have ex : x' = u := by
      have : its.toArray[i]? = some x' := hx'
      rw [← Array.getElem?_toList] at this
      exact (Option.some.inj (hu.symm.trans this)).symm
    subst ex
    refine ⟨_, rfl, wpAny_letOwnedTupleGo_enum (s := { s with heap := h', toks := tk + 1 }) ho fun h'' he' sb => ?_⟩
    have hT2 : h''.get? s.heap.objs.size = some { cls := .type "tuple", data := .seq #[.int i tk, x'] } := (sb.2 _ (Nat.ne_of_gt hel)).trans hT
    have new : ObjOk X.prog X.w (upd H s.heap.objs.size (.tup [.int (i : Nat), x])) h'' s.heap.objs.size (.tup [.int (i : Nat), x]) :=
      ⟨by show 2 ≤ sizeLine; decide, [.int i tk, x'], .cons ⟨_, rfl⟩ (.cons ru .nil), ⟨_, hT2, rfl, _, rfl⟩⟩
    have I1 : Inv X pins σ (upd H s.heap.objs.size (.tup [.int (i : Nat), x])) { s with heap := h'', toks := tk + 1 } :=
      I.turnedNew (ch := [e, it]) (fun b ob hb q => (sb.2 b (fun z => hb (by simp [z]))).trans (hk b ob (fun z => hb (by simp [z])) (fun z => hb (by simp [z])) q)) hf (Nat.le_refl _) new
    refine ⟨.ref s.heap.objs.size, _, I1, rfl, ⟨_, x, rfl, I.hok.fresh (Nat.le_refl _), rfl, fun ys hy => by rw [I.tuple_inj hy hq]; exact hx⟩, ⟨⟨x', ?_⟩, hst'.1.at fun o q => (sb.2 it (Ne.symm hne)).trans q, hne⟩, fun b hb => ?_⟩
    · have e1 : ((i + 1 : Nat) : Int) = (i : Int) + 1 := by omega
      rw [e1]; exact he'
    · have hb' : b < s.heap.objs.size := by
        have e' : b = e ∨ b = it := by simpa using hb
        rcases e' with z | z
        · rw [z]; exact hel
        · rw [z]; exact hil
      rw [upd_ne (Nat.ne_of_lt hb')]
      exact (hf b hb).1
  done := by
    intro X hP hw hK hc i pins s σ H E I hf st hg
    subst hP hw hK
    obtain ⟨⟨old, he⟩, hit, hne⟩ := st
    obtain ⟨xs, hq, hx⟩ := hg
    obtain ⟨its, rv, p, hz⟩ := I.tuple hq
    obtain ⟨f0, f1, f2, f3, f4, f5⟩ := hf it (by simp)
    have hl := rv.length
    have hT : s.TypeIs (.ref e) "enumerate" := ⟨_, he, rfl⟩
    unfold pyNext
    refine wpAny_bind (wpAny_attempt (wpAny_callSpecial?_slot (name := Str.ofString "__next__") hT F.slot_enumerate_next
      (wpAny_call_entry F.slot_enumerate_next hT F.entry_enumerate_next ?_ (F.args_enumerate_next_1 _))))
    show wpAny _ _ (field (.ref e) 2 >>= _) _ _ _
    refine wpAny_bind (wpAny_field he rfl (x := .ref it) rfl ?_)
    refine wpAny_bind (wpAny_nextOf_tuple_end (I.ok.hd hc) hit p (by simp; omega) fun h' x he' hx' => ?_)
    obtain ⟨o, ho, hco⟩ := hx'
    refine wpAny_bind (wpAny_isInstance (T := "StopIteration") (b := true) ⟨o, ho, hco⟩ isSubtype_stop ?_)
    exact wpAny_pure ⟨rfl, I.turned (t' := s.toks) (fun b o hb q => he' b o hb q) f0 f1 f3 f4 f5⟩
  self := fun A i s Q E st h => let ⟨⟨_, he⟩, _⟩ := st; wpAny_pyIter_enum he h
section
variable {X : Cx} {tg : Expr}
/-- enumerate of a list or a tuple -/
def iEnumA (K : PySem.W.Frag) (ta : TA) : TI := fun σ H R => ta σ H fun vs H1 => ∃ a xs, vs = [.ref a] ∧ ((SqL K H1 a xs ∧ R (Ite K a) H1) ∨ (SqT K H1 a xs ∧ R (IteT K a) H1))
theorem pi_enumA {e : Expr} {ta : TA} {p pos tpos : Pos} {elts : List Expr} {kk : Nat} (hg : Gl X "enumerate") (hm : X.mg "enumerate" = none) (ha : PA X [e] ta) (hs : starEach [e] X.env = [(false, eval e X.env)] := by rfl) :
    PI X (.Tuple elts kk tpos) (.Call (.Name "enumerate" p) [e] [] pos) (iEnumA X.K ta) := by
  refine ⟨fun pins s σ H R I h => ?_⟩
  refine Call_ (ld_blt I hg hm boot_enumerate (PyProof.Rows.callWith_type1 (thn (ha.run pos pins s σ H _ I h) fun us s1 ⟨vs, H1, I1, r1, q1⟩ => ?_) hs rfl))
  obtain ⟨a, xs, ex, q⟩ := q1
  subst ex
  cases r1 with
  | cons r rr =>
    cases rr
    cases r
    have fr : ∀ b ∈ [s1.heap.objs.size + 1, s1.heap.objs.size], FpOk X pins H1 b := fun b hb => by
      have e' : b = s1.heap.objs.size + 1 ∨ b = s1.heap.objs.size := by simpa using hb
      have hle : s1.heap.objs.size ≤ b := by
        rcases e' with z | z
        · rw [z]; exact Nat.le_add_right _ _
        · rw [z]; exact Nat.le_refl _
      exact I1.fpOk hle (I1.hok.fresh hle)
    rcases q with ⟨hq, q⟩ | ⟨hq, q⟩
    · obtain ⟨its, rv, p', hz⟩ := I1.list hq
      refine enum1_begins (begins_list a its.toArray) p'.isList fun h' he hit hk => wpAny_pyIter_enum he ?_
      have I2 : Inv X pins σ H1 { s1 with heap := h' } := I1.kept (t' := s1.toks) hk
      exact ⟨_, _, _, _, H1, rfl, I2, turn_enum a (s1.heap.objs.size + 1) s1.heap.objs.size, ⟨⟨.none, he⟩, ⟨_, hit, rfl, rfl⟩, Nat.succ_ne_self _⟩, fr, q⟩
    · obtain ⟨its, rv, p', hz⟩ := I1.tuple hq
      refine enum1_begins (begins_tuple a its.toArray) p' fun h' he hit hk => wpAny_pyIter_enum he ?_
      have I2 : Inv X pins σ H1 { s1 with heap := h' } := I1.kept (t' := s1.toks) hk
      exact ⟨_, _, _, _, H1, rfl, I2, turn_enumT a (s1.heap.objs.size + 1) s1.heap.objs.size, ⟨⟨.none, he⟩, ⟨_, hit, rfl, rfl⟩, Nat.succ_ne_self _⟩, fr, q⟩
/-- a list, a tuple or a text is walked -/
def iSeq (K : PySem.W.Frag) (tl : TE) : TI := fun σ H R => tl σ H fun x H1 => (∃ a xs, x = .ref a ∧ SqL K H1 a xs ∧ R (Itl K a) H1) ∨ (∃ a xs, x = .ref a ∧ SqT K H1 a xs ∧ R (Itt K a) H1) ∨ ∃ z, x = .str z ∧ R (Its z) H1
theorem pi_seq {l : Expr} {tl : TE} (hl : PE X l tl) : PI X tg l (iSeq X.K tl) := by
  refine ⟨fun pins s σ H R I h => ?_⟩
  refine thn (hl.run pins s σ H _ I h) fun v s1 ⟨x, H1, I1, r1, q1⟩ => ?_
  rcases q1 with ⟨a, xs, e, hq, q⟩ | ⟨a, xs, e, hq, q⟩ | ⟨z, e, q⟩
  · subst e
    cases r1
    obtain ⟨its, rv, p, hz⟩ := I1.list hq
    refine wpAny_pyIter_list p.isList ⟨_, [s1.heap.objs.size], _, _, H1, rfl, I1.kept (t' := s1.toks) fun b o e => Heap.get?_push_of_some _ e, turn_list a _, ⟨_, Heap.get?_push_size _ rfl, rfl, rfl⟩, fun b hb => ?_, q⟩
    rw [List.mem_singleton.mp hb]
    exact I1.fpOk (Nat.le_refl _) (I1.hok.fresh (Nat.le_refl _))
  · subst e
    cases r1
    obtain ⟨its, rv, p, hz⟩ := I1.tuple hq
    refine wpAny_pyIter_tuple (items := its.toArray) p ⟨_, [s1.heap.objs.size], _, _, H1, rfl, I1.kept (t' := s1.toks) fun b o e => Heap.get?_push_of_some _ e, turn_tuple a _, ⟨_, Heap.get?_push_size _ rfl, rfl, rfl⟩, fun b hb => ?_, q⟩
    rw [List.mem_singleton.mp hb]
    exact I1.fpOk (Nat.le_refl _) (I1.hok.fresh (Nat.le_refl _))
  · subst e
    obtain ⟨t, rfl⟩ := r1
    cases ha : z.cps.all (· < 128) with
    | false => exact wpAny_pyIter_wide ha (pi_one (tk := s1.toks) I1 _ (turn_str _ z t _ (.inr rfl)) ⟨_, Heap.get?_push_size _ rfl, rfl, rfl⟩ q)
    | true => exact wpAny_pyIter_ascii ha (pi_one (tk := s1.toks) I1 _ (turn_str _ z t _ (.inl rfl)) ⟨_, Heap.get?_push_size _ rfl, rfl, rfl⟩ q)
end
end PL

set_option Elab.async false
set_option linter.all false
set_option maxRecDepth 100000
set_option maxHeartbeats 2000000
/-! PL4: walks, targets, comprehensions, statements, defs. -/
namespace PL
open PySem PySem.Spec PyProof.Rows L2

/-! ### walks -/
def ItOk (K : PySem.W.Frag) (G : Hp) (J : It) (ds : List D) : Prop :=
  ∀ G2 H2, Ex G G2 → Ex G2 H2 → ∀ i : Nat, (∀ d, ds[i]? = some d → J.go i H2 ∧ ∀ x H3, J.yld i H2 x H3 → ∃ G3, Ext G2 H2 G3 H3 ∧ Rp K G3 x d) ∧ (ds[i]? = none → J.stop i H2)
abbrev rIt (K : PySem.W.Frag) : List D → It → Hp → Hp → Prop := fun ds J G _ => ItOk K G J ds
abbrev PDI (X : Cx) (E : XK) (tg iter : Expr) (f : Ev → Out (List D)) : Prop := PI X tg iter (tG X.w X.K X.mg E (rIt X.K) f)
theorem PI.weak {X : Cx} {tg e : Expr} {t t' : TI} (h : PI X tg e t) (f : ∀ σ H Q, t' σ H Q → t σ H Q) : PI X tg e t' := ⟨fun pins s σ H Q I q => h.run pins s σ H Q I (f σ H Q q)⟩
def oSeq : D → Option (List D)
  | .tup ds => some ds
  | .lst ds => some ds
  | .str z => some (z.cps.toList.map fun c => .str ⟨#[c]⟩)
  | _ => none
@[simp] theorem oSeq_tup (ds : List D) : oSeq (.tup ds) = some ds := rfl
@[simp] theorem oSeq_lst (ds : List D) : oSeq (.lst ds) = some ds := rfl
@[simp] theorem oSeq_str (z : Str) : oSeq (.str z) = some (z.cps.toList.map fun c => .str ⟨#[c]⟩) := rfl
@[simp] def iSq (f : DE) (ε : Ev) : Out (List D) := (f ε).bind fun d => .of (oSeq d)
def rng (lo : Int) (n : Nat) : List D := (List.range n).map fun (k : Nat) => D.int (lo + k)
def r1F : D → Out (List D)
  | .int n => if -1000000 ≤ n ∧ n ≤ 1000000 then .ok (rng 0 n.toNat) else .no
  | _ => .no
def r2F : D → D → Out (List D)
  | .int a, .int b => if (-1000000 ≤ a ∧ a ≤ 1000000) ∧ -1000000 ≤ b ∧ b ≤ 1000000 then .ok (rng a (b - a).toNat) else .no
  | _, _ => .no
@[simp] theorem r1F_int (n : Int) : r1F (.int n) = if -1000000 ≤ n ∧ n ≤ 1000000 then .ok (rng 0 n.toNat) else .no := rfl
@[simp] theorem r2F_int (a b : Int) : r2F (.int a) (.int b) = if (-1000000 ≤ a ∧ a ≤ 1000000) ∧ -1000000 ≤ b ∧ b ≤ 1000000 then .ok (rng a (b - a).toNat) else .no := rfl
@[simp] def iR1 (f : DE) (ε : Ev) : Out (List D) := (f ε).bind r1F
@[simp] def iR2 (f g : DE) (ε : Ev) : Out (List D) := (f ε).bind fun d => (g ε).bind fun e => r2F d e
@[simp] def enumD : Nat → List D → List D
  | _, [] => []
  | k, d :: ds => .tup [.int (k : Nat), d] :: enumD (k + 1) ds
def oSeq2 : D → Option (List D)
  | .tup ds => some ds
  | .lst ds => some ds
  | _ => none
@[simp] theorem oSeq2_tup (ds : List D) : oSeq2 (.tup ds) = some ds := rfl
@[simp] theorem oSeq2_lst (ds : List D) : oSeq2 (.lst ds) = some ds := rfl
@[simp] def iEn (f : DE) (ε : Ev) : Out (List D) := (f ε).bind fun d => (Out.of (oSeq2 d)).bind fun ds => .ok (enumD 0 ds)
@[simp] def zipD : List D → List D → List D
  | a :: as, b :: bs => .tup [a, b] :: zipD as bs
  | _, _ => []
def zpF : D → D → Out (List D)
  | .tup a, .tup b => .ok (zipD a b)
  | .lst a, .lst b => .ok (zipD a b)
  | _, _ => .no
@[simp] theorem zpF_tup (a b : List D) : zpF (.tup a) (.tup b) = .ok (zipD a b) := rfl
@[simp] theorem zpF_lst (a b : List D) : zpF (.lst a) (.lst b) = .ok (zipD a b) := rfl
@[simp] def iZp (f g : DE) (ε : Ev) : Out (List D) := (f ε).bind fun d => (g ε).bind fun e => zpF d e
section
variable {K : PySem.W.Frag} {G : Hp}
theorem it_list {a : Addr} {vs : List V} {ds : List D} (s : SqL K G a vs) (r : RpAll K G vs ds) : ItOk K G (Itl K a) ds := fun G2 H2 x1 x2 i => by
  have s2 := ex_l x2 (ex_l x1 s)
  refine ⟨fun d hd => ?_, fun hn => ⟨vs, s2, by rw [r.length]; exact List.getElem?_eq_none_iff.mp hn⟩⟩
  obtain ⟨v, h1, h2⟩ := r.getD hd
  refine ⟨⟨vs, v, s2, h1⟩, fun x H3 y => ?_⟩
  obtain ⟨rfl, y⟩ := y
  have := y vs s2
  rw [h1] at this
  cases this
  exact ⟨G2, Ext.refl x2, h2.up x1⟩
theorem it_tup {a : Addr} {vs : List V} {ds : List D} (s : SqT K G a vs) (r : RpAll K G vs ds) : ItOk K G (Itt K a) ds := fun G2 H2 x1 x2 i => by
  have s2 := ex_t x2 (ex_t x1 s)
  refine ⟨fun d hd => ?_, fun hn => ⟨vs, s2, by rw [r.length]; exact List.getElem?_eq_none_iff.mp hn⟩⟩
  obtain ⟨v, h1, h2⟩ := r.getD hd
  refine ⟨⟨vs, v, s2, h1⟩, fun x H3 y => ?_⟩
  obtain ⟨rfl, y⟩ := y
  have := y vs s2
  rw [h1] at this
  cases this
  exact ⟨G2, Ext.refl x2, h2.up x1⟩
theorem it_str {z : Str} : ItOk K G (Its z) (z.cps.toList.map fun c => .str ⟨#[c]⟩) := fun G2 H2 x1 x2 i => by
  refine ⟨fun d hd => ?_, fun hn => ?_⟩
  · rw [List.getElem?_map] at hd
    cases hc : z.cps.toList[i]? with
    | none => rw [hc] at hd; cases hd
    | some c =>
      rw [hc] at hd
      cases hd
      have hi := lt_of_get hc
      refine ⟨show i < z.cps.size by simpa using hi, fun x H3 y => ?_⟩
      obtain ⟨rfl, c', h1, rfl⟩ := y
      rw [Array.getElem?_toList] at hc
      rw [hc] at h1
      cases h1
      exact ⟨G2, Ext.refl x2, .str _⟩
  · have := List.getElem?_eq_none_iff.mp hn
    show z.cps.size ≤ i
    simpa using this
theorem it_rng {lo : Int} {n : Nat} : ItOk K G (Itr lo n) (rng lo n) := fun G2 H2 x1 x2 i => by
  unfold rng
  refine ⟨fun d hd => ?_, fun hn => ?_⟩
  · have hi : i < n := by simpa using lt_of_get hd
    rw [List.getElem?_map, List.getElem?_range hi] at hd
    cases hd
    refine ⟨hi, fun x H3 y => ?_⟩
    obtain ⟨rfl, rfl⟩ := y
    exact ⟨G2, Ext.refl x2, .int _⟩
  · have := List.getElem?_eq_none_iff.mp hn
    show n ≤ i
    simpa using this
theorem enumD_get : ∀ (ds : List D) (k i : Nat), (enumD k ds)[i]? = ds[i]?.map fun d => .tup [.int ((k + i : Nat) : Int), d]
  | [], _, _ => rfl
  | d :: ds, k, 0 => rfl
  | d :: ds, k, i + 1 => by
    show (enumD (k + 1) ds)[i]? = _
    rw [enumD_get ds (k + 1) i, show k + 1 + i = k + (i + 1) by omega]
    rfl
theorem zipD_get : ∀ (as bs : List D) (i : Nat), (zipD as bs)[i]? = as[i]?.bind fun a => bs[i]?.map fun b => .tup [a, b]
  | [], _, _ => by simp [zipD]
  | _ :: _, [], i => by
    rw [show zipD (_ :: _) [] = [] from rfl]
    cases h : (_ :: _ : List D)[i]? <;> simp
  | a :: as, b :: bs, 0 => rfl
  | a :: as, b :: bs, i + 1 => zipD_get as bs i
theorem pair_new {v1 v2 : V} {d1 d2 : D} {G2 H2 : Hp} {T : Addr} (e : Ex G2 H2) (hT : H2 T = none) (r1 : Rp K G2 v1 d1) (r2 : Rp K G2 v2 d2) : Ext G2 H2 (upd G2 T (.tup [v1, v2])) (upd H2 T (.tup [v1, v2])) ∧ Rp K (upd G2 T (.tup [v1, v2])) (.ref T) (.tup [d1, d2]) :=
  ⟨Ext.lay e hT, .tup (.inl (.inl upd_same)) (.cons (r1.up (Ex.new (e.back hT))) (.cons (r2.up (Ex.new (e.back hT))) .nil))⟩
theorem it_enumL {a : Addr} {vs : List V} {ds : List D} (s : SqL K G a vs) (r : RpAll K G vs ds) : ItOk K G (Ite K a) (enumD 0 ds) := fun G2 H2 x1 x2 i => by
  have s2 := ex_l x2 (ex_l x1 s)
  rw [enumD_get]
  refine ⟨fun d hd => ?_, fun hn => ⟨vs, s2, ?_⟩⟩
  · cases hc : ds[i]? with
    | none => rw [hc] at hd; cases hd
    | some c =>
      rw [hc] at hd
      cases hd
      obtain ⟨v, h1, h2⟩ := r.getD hc
      refine ⟨⟨vs, v, s2, h1⟩, fun x H3 y => ?_⟩
      obtain ⟨T, x', rfl, hT, rfl, y⟩ := y
      have := y vs s2
      rw [h1] at this
      cases this
      rw [Nat.zero_add]
      exact ⟨_, pair_new x2 hT (.int _) (h2.up x1)⟩
  · rw [r.length]
    cases hc : ds[i]? with
    | none => exact List.getElem?_eq_none_iff.mp hc
    | some c => rw [hc] at hn; cases hn
theorem it_enumT {a : Addr} {vs : List V} {ds : List D} (s : SqT K G a vs) (r : RpAll K G vs ds) : ItOk K G (IteT K a) (enumD 0 ds) := fun G2 H2 x1 x2 i => by
  have s2 := ex_t x2 (ex_t x1 s)
  rw [enumD_get]
  refine ⟨fun d hd => ?_, fun hn => ⟨vs, s2, ?_⟩⟩
  · cases hc : ds[i]? with
    | none => rw [hc] at hd; cases hd
    | some c =>
      rw [hc] at hd
      cases hd
      obtain ⟨v, h1, h2⟩ := r.getD hc
      refine ⟨⟨vs, v, s2, h1⟩, fun x H3 y => ?_⟩
      obtain ⟨T, x', rfl, hT, rfl, y⟩ := y
      have := y vs s2
      rw [h1] at this
      cases this
      rw [Nat.zero_add]
      exact ⟨_, pair_new x2 hT (.int _) (h2.up x1)⟩
  · rw [r.length]
    cases hc : ds[i]? with
    | none => exact List.getElem?_eq_none_iff.mp hc
    | some c => rw [hc] at hn; cases hn
theorem zip_none {as bs : List D} {i : Nat} (hn : (as[i]?.bind fun a => bs[i]?.map fun b => D.tup [a, b]) = none) : as.length ≤ i ∨ bs.length ≤ i := by
  cases h1 : as[i]? with
  | none => exact .inl (List.getElem?_eq_none_iff.mp h1)
  | some a =>
    cases h2 : bs[i]? with
    | none => exact .inr (List.getElem?_eq_none_iff.mp h2)
    | some b => rw [h1, h2] at hn; cases hn
theorem it_zipL {a b : Addr} {vs ws : List V} {ds es : List D} (s : SqL K G a vs) (t : SqL K G b ws) (r : RpAll K G vs ds) (q : RpAll K G ws es) : ItOk K G (Itz K a b) (zipD ds es) := fun G2 H2 x1 x2 i => by
  have s2 := ex_l x2 (ex_l x1 s)
  have t2 := ex_l x2 (ex_l x1 t)
  rw [zipD_get]
  refine ⟨fun d hd => ?_, fun hn => ⟨vs, ws, s2, t2, by rw [r.length, q.length]; exact zip_none hn⟩⟩
  cases hc : ds[i]? with
  | none => rw [hc] at hd; cases hd
  | some c =>
    cases hc' : es[i]? with
    | none => rw [hc, hc'] at hd; cases hd
    | some c' =>
      rw [hc, hc'] at hd
      cases hd
      obtain ⟨v, h1, h2⟩ := r.getD hc
      obtain ⟨w, h3, h4⟩ := q.getD hc'
      refine ⟨⟨vs, ws, v, w, s2, t2, h1, h3⟩, fun x H3 y => ?_⟩
      obtain ⟨T, x', y', rfl, hT, rfl, y1, y2⟩ := y
      have e1 := y1 vs s2
      have e2 := y2 ws t2
      rw [h1] at e1
      rw [h3] at e2
      cases e1
      cases e2
      exact ⟨_, pair_new x2 hT (h2.up x1) (h4.up x1)⟩
theorem it_zipT {a b : Addr} {vs ws : List V} {ds es : List D} (s : SqT K G a vs) (t : SqT K G b ws) (r : RpAll K G vs ds) (q : RpAll K G ws es) : ItOk K G (RZ.ItzT K a b) (zipD ds es) := fun G2 H2 x1 x2 i => by
  have s2 := ex_t x2 (ex_t x1 s)
  have t2 := ex_t x2 (ex_t x1 t)
  rw [zipD_get]
  refine ⟨fun d hd => ?_, fun hn => ⟨vs, ws, s2, t2, by rw [r.length, q.length]; exact zip_none hn⟩⟩
  cases hc : ds[i]? with
  | none => rw [hc] at hd; cases hd
  | some c =>
    cases hc' : es[i]? with
    | none => rw [hc, hc'] at hd; cases hd
    | some c' =>
      rw [hc, hc'] at hd
      cases hd
      obtain ⟨v, h1, h2⟩ := r.getD hc
      obtain ⟨w, h3, h4⟩ := q.getD hc'
      refine ⟨⟨vs, ws, v, w, s2, t2, h1, h3⟩, fun x H3 y => ?_⟩
      obtain ⟨T, x', y', rfl, hT, rfl, y1, y2⟩ := y
      have e1 := y1 vs s2
      have e2 := y2 ws t2
      rw [h1] at e1
      rw [h3] at e2
      cases e1
      cases e2
      exact ⟨_, pair_new x2 hT (h2.up x1) (h4.up x1)⟩
end
section
variable {X : Cx} {E : XK} {tg e e2 : Expr} {f g : DE} {p pos : Pos}
theorem pi_sq (h : PD X E e f) : PDI X E tg e (iSq f) := PI.weak (pi_seq h) fun σ H Q ⟨G0, H0, ε, G, ev, q⟩ => by
  refine ⟨G0, H0, ε, G, ev, Post.bind q fun d v G1 H1 _ x1 r q1 => ?_⟩
  cases r with
  | lst s r => exact .inl ⟨_, _, rfl, ex_l x1.gh s, q1 _ G1 H1 (Ext.refl x1.gh) (it_list s r)⟩
  | tup s r => exact .inr (.inl ⟨_, _, rfl, ex_t x1.gh s, q1 _ G1 H1 (Ext.refl x1.gh) (it_tup s r)⟩)
  | str z => exact .inr (.inr ⟨z, rfl, q1 _ G1 H1 (Ext.refl x1.gh) it_str⟩)
  | _ => exact q1.elim
theorem vw1 {K : PySem.W.Frag} {G H : Hp} {vs : List V} {d : D} (h : VwAll K G H vs [d]) : ∃ v, vs = [v] ∧ Vw K G H v d := by
  cases h with
  | cons h1 h2 => cases h2; exact ⟨_, rfl, h1⟩
theorem vw2 {K : PySem.W.Frag} {G H : Hp} {vs : List V} {d e : D} (h : VwAll K G H vs [d, e]) : ∃ v w, vs = [v, w] ∧ Vw K G H v d ∧ Vw K G H w e := by
  cases h with
  | cons h1 h2 =>
    obtain ⟨w, rfl, h3⟩ := vw1 h2
    exact ⟨_, _, rfl, h1, h3⟩
theorem rp1 {K : PySem.W.Frag} {G : Hp} {vs : List V} {d : D} (h : RpAll K G vs [d]) : ∃ v, vs = [v] ∧ Rp K G v d := by
  cases h with
  | cons h1 h2 => cases h2; exact ⟨_, rfl, h1⟩
theorem rp2 {K : PySem.W.Frag} {G : Hp} {vs : List V} {d e : D} (h : RpAll K G vs [d, e]) : ∃ v w, vs = [v, w] ∧ Rp K G v d ∧ Rp K G w e := by
  cases h with
  | cons h1 h2 =>
    obtain ⟨w, rfl, h3⟩ := rp1 h2
    exact ⟨_, _, rfl, h1, h3⟩
/-- one argument, two arguments -/
theorem args1 {α β : Type} {ε : Ev} {mg : Str → Option Value} {G H : Hp} {k : D → Out α} {R : α → β → Hp → Hp → Prop} {Q : β → Hp → Prop} {S : List D → List V → Hp → Hp → Prop} {P : List V → Hp → Prop} (q : Post mg E G H ((f ε).bind k) R Q)
    (F : ∀ d vs G' H', Ext G H G' H' → S [d] vs G' H' → Post mg E G' H' (k d) R Q → P vs H') : Post mg E G H (dArgs [f] ε) S P := by
  unfold dArgs dArgs
  cases h : f ε with
  | ok d =>
    rw [h] at q
    exact fun vs G2 H2 x2 r => F d vs G2 H2 x2 r (Post.on (o := k d) q x2)
  | rs c => rw [h] at q; exact q
  | no => rw [h] at q; exact q
theorem args2 {α β : Type} {ε : Ev} {mg : Str → Option Value} {G H : Hp} {k : D → D → Out α} {R : α → β → Hp → Hp → Prop} {Q : β → Hp → Prop} {S : List D → List V → Hp → Hp → Prop} {P : List V → Hp → Prop} (q : Post mg E G H ((f ε).bind fun d => (g ε).bind fun e => k d e) R Q)
    (F : ∀ d e vs G' H', Ext G H G' H' → S [d, e] vs G' H' → Post mg E G' H' (k d e) R Q → P vs H') : Post mg E G H (dArgs [f, g] ε) S P := by
  unfold dArgs dArgs dArgs
  cases h : f ε with
  | ok d =>
    rw [h] at q
    simp only [Out.bind] at q ⊢
    cases h2 : g ε with
    | ok e =>
      rw [h2] at q
      exact fun vs G2 H2 x2 r => F d e vs G2 H2 x2 r (Post.on (o := k d e) q x2)
    | rs c => rw [h2] at q; exact q
    | no => rw [h2] at q; exact q
  | rs c => rw [h] at q; exact q
  | no => rw [h] at q; exact q
theorem pi_r1 (hg : Gl X "range") (hm : X.mg "range" = none) (ha : PAw X E [e] (dArgs [f])) (hs : starEach [e] X.env = [(false, eval e X.env)] := by rfl) : PDI X E tg (.Call (.Name "range" p) [e] [] pos) (iR1 f) :=
  PI.weak (pi_range1 hg hm ha hs) fun σ H Q ⟨G0, H0, ε, G, ev, q⟩ => by
    refine ⟨G0, H0, ε, G, ev, args1 q fun d vs G1 H1 x1 r q1 => ?_⟩
    obtain ⟨v, rfl, w⟩ := vw1 r
    cases d with
    | int n =>
      dsimp only [r1F] at q1
      split at q1
      · rename_i hn
        rw [w.int]
        exact ⟨n, rfl, by omega, by omega, q1 _ G1 H1 (Ext.refl x1.gh) it_rng⟩
      · exact q1.elim
    | _ => exact q1.elim
theorem pi_r2 (hg : Gl X "range") (hm : X.mg "range" = none) (ha : PAw X E [e, e2] (dArgs [f, g])) (hs : starEach [e, e2] X.env = [(false, eval e X.env), (false, eval e2 X.env)] := by rfl) (hs2 : starEach [e2] X.env = [(false, eval e2 X.env)] := by rfl) :
    PDI X E tg (.Call (.Name "range" p) [e, e2] [] pos) (iR2 f g) :=
  PI.weak (pi_range2 hg hm ha hs hs2) fun σ H Q ⟨G0, H0, ε, G, ev, q⟩ => by
    refine ⟨G0, H0, ε, G, ev, args2 q fun d d' vs G1 H1 x1 r q1 => ?_⟩
    obtain ⟨v, v', rfl, w, w'⟩ := vw2 r
    unfold r2F at q1
    split at q1
    · split at q1
      · rename_i hn
        rw [w.int, w'.int]
        exact ⟨_, _, rfl, ⟨by omega, by omega, by omega, by omega⟩, q1 _ G1 H1 (Ext.refl x1.gh) it_rng⟩
      · exact q1.elim
    · exact q1.elim
theorem pi_en {elts : List Expr} {kk : Nat} {tpos : Pos} (hg : Gl X "enumerate") (hm : X.mg "enumerate" = none) (ha : PAd X E [e] (dArgs [f])) (hs : starEach [e] X.env = [(false, eval e X.env)] := by rfl) :
    PDI X E (.Tuple elts kk tpos) (.Call (.Name "enumerate" p) [e] [] pos) (iEn f) :=
  PI.weak (pi_enumA hg hm ha hs) fun σ H Q ⟨G0, H0, ε, G, ev, q⟩ => by
    refine ⟨G0, H0, ε, G, ev, args1 q fun d vs G1 H1 x1 r q1 => ?_⟩
    obtain ⟨v, rfl, w⟩ := rp1 r
    clear r
    cases w with
    | lst s r' => exact ⟨_, _, rfl, .inl ⟨ex_l x1.gh s, q1 _ G1 H1 (Ext.refl x1.gh) (it_enumL s r')⟩⟩
    | tup s r' => exact ⟨_, _, rfl, .inr ⟨ex_t x1.gh s, q1 _ G1 H1 (Ext.refl x1.gh) (it_enumT s r')⟩⟩
    | _ => exact q1.elim
theorem pi_zp {elts : List Expr} {kk : Nat} {tpos : Pos} (hg : Gl X "zip") (hm : X.mg "zip" = none) (ha : PAd X E [e, e2] (dArgs [f, g]))
    (hs : starEach [e, e2] X.env = (false, eval e X.env) :: starEach [e2] X.env := by rfl) (hpl : (backTo pos (starEach [e2] X.env)).any (·.1) = false := by rfl) :
    PDI X E (.Tuple elts kk tpos) (.Call (.Name "zip" p) [e, e2] [] pos) (iZp f g) :=
  PI.weak (RZ.pi_zipA hg hm ha hs hpl) fun σ H Q ⟨G0, H0, ε, G, ev, q⟩ => by
    refine ⟨G0, H0, ε, G, ev, args2 q fun d d' vs G1 H1 x1 r q1 => ?_⟩
    obtain ⟨v, v', rfl, w, w'⟩ := rp2 r
    clear r
    cases w with
    | lst s r =>
      cases w' with
      | lst s' r' => exact ⟨_, _, _, _, rfl, .inl ⟨ex_l x1.gh s, ex_l x1.gh s', q1 _ G1 H1 (Ext.refl x1.gh) (it_zipL s s' r r')⟩⟩
      | _ => exact q1.elim
    | tup s r =>
      cases w' with
      | tup s' r' => exact ⟨_, _, _, _, rfl, .inr ⟨ex_t x1.gh s, ex_t x1.gh s', q1 _ G1 H1 (Ext.refl x1.gh) (it_zipT s s' r r')⟩⟩
      | _ => exact q1.elim
    | _ => exact q1.elim
end

/-! ### targets -/
abbrev DG := D → Ev → Option Ev
def gD (w : World) (K : PySem.W.Frag) (mg : Str → Option Value) (sl : List Nat) (ft : DG) : TG := fun v σ H Q => ∃ G0 H0 ε G d ε', EnvOk w K mg G0 H0 ε σ G H ∧ Rp K G v d ∧ ft d ε = some ε' ∧ ∀ σ', EnvOk w K mg G0 H0 ε' σ' G H → σ'.length = σ.length → (∀ i : Nat, i ∉ sl → σ'[i]? = σ[i]?) → Q σ' H
def gDs (w : World) (K : PySem.W.Frag) (mg : Str → Option Value) (sl : List Nat) (ft : List D → Ev → Option Ev) : TGs := fun vs σ H Q => ∃ G0 H0 ε G ds ε', EnvOk w K mg G0 H0 ε σ G H ∧ RpAll K G vs ds ∧ ft ds ε = some ε' ∧ ∀ σ', EnvOk w K mg G0 H0 ε' σ' G H → σ'.length = σ.length → (∀ i : Nat, i ∉ sl → σ'[i]? = σ[i]?) → Q σ' H
abbrev PDG (X : Cx) (tg : Expr) (sl : List Nat) (ft : DG) : Prop := PG X tg (gD X.w X.K X.mg sl ft)
abbrev PDGs (X : Cx) (tg : List Expr) (sl : List Nat) (ft : List D → Ev → Option Ev) : Prop := PGs X tg (gDs X.w X.K X.mg sl ft)
theorem PG.weak {X : Cx} {tg : Expr} {t t' : TG} (h : PG X tg t) (f : ∀ v σ H Q, t' v σ H Q → t v σ H Q) : PG X tg t' := ⟨fun pins s σ H v u Q I r q => h.run pins s σ H v u Q I r (f v σ H Q q)⟩
theorem PGs.weak {X : Cx} {tg : List Expr} {t t' : TGs} (h : PGs X tg t) (f : ∀ v σ H Q, t' v σ H Q → t v σ H Q) : PGs X tg t' := ⟨fun pins s σ H v u Q I r q => h.run pins s σ H v u Q I r (f v σ H Q q)⟩
@[simp] def tgN (i : Nat) (d : D) (ε : Ev) : Option Ev := some (ε.set i (.val d))
def tgAll : List DG → List D → Ev → Option Ev
  | [], [], ε => some ε
  | f :: fs, d :: ds, ε => (f d ε).bind fun ε' => tgAll fs ds ε'
  | _, _, _ => none
@[simp] theorem tgAll_nil (ε : Ev) : tgAll [] [] ε = some ε := rfl
@[simp] theorem tgAll_cons (f : DG) (fs : List DG) (d : D) (ds : List D) (ε : Ev) : tgAll (f :: fs) (d :: ds) ε = (f d ε).bind fun ε' => tgAll fs ds ε' := rfl
def tgT (fs : List DG) (d : D) (ε : Ev) : Option Ev := match d with
  | .tup ds => tgAll fs ds ε
  | _ => none
@[simp] theorem tgT_tup (fs : List DG) (ds : List D) (ε : Ev) : tgT fs (.tup ds) ε = tgAll fs ds ε := rfl
theorem tgAll_len : ∀ {fs : List DG} {ds : List D} {ε ε' : Ev}, tgAll fs ds ε = some ε' → ds.length = fs.length
  | [], [], _, _, _ => rfl
  | [], _ :: _, _, _, h => by cases h
  | _ :: _, [], _, _, h => by cases h
  | f :: fs, d :: ds, ε, ε', h => by
    unfold tgAll at h
    cases h1 : f d ε with
    | none => rw [h1] at h; cases h
    | some ε1 =>
      rw [h1] at h
      rw [List.length_cons, List.length_cons, tgAll_len (ε := ε1) (ε' := ε') h]
section
variable {X : Cx} {pos : Pos}
theorem g_name (i : Nat) {x : Str} (hN : X.N.Nodup) (hi : X.N[i]? = some x := by rfl) (hx : Loc X.env.scope x := by first | exact Or.inl rfl | exact Or.inr rfl) (hf : X.fn x = true ∨ X.env.scope.names.lookup x = some .local := by first | exact .inl rfl | exact .inr rfl) : PDG X (.Name x pos) [i] (tgN i) :=
  PG.weak (pg_name hN hi hx hf) fun v σ H Q ⟨G0, H0, ε, G, d, ε', ev, r, h, q⟩ => by
    cases h
    refine q _ (ev.setVal r) (List.length_set ..) fun j hj => ?_
    rw [List.getElem?_set_ne]
    exact fun z => hj (by simp [z])
theorem g_nil : PDGs X [] [] (tgAll []) := PGs.weak pgs_nil fun v σ H Q ⟨G0, H0, ε, G, ds, ε', ev, r, h, q⟩ => by
  cases ds with
  | nil =>
    cases r
    cases h
    exact ⟨rfl, q σ ev rfl fun _ _ => rfl⟩
  | cons _ _ => cases h
theorem g_cons {e : Expr} {es : List Expr} {sl sl' : List Nat} {ft : DG} {fs : List DG} (h1 : PDG X e sl ft) (h2 : PDGs X es sl' (tgAll fs))
    (hs : (assignEach (e :: es) X.env).map (·.2) = assign e X.env :: (assignEach es X.env).map (·.2) := by rfl) : PDGs X (e :: es) (sl ++ sl') (tgAll (ft :: fs)) :=
  PGs.weak (pgs_cons h1 h2 hs) fun v σ H Q ⟨G0, H0, ε, G, ds, ε', ev, r, h, q⟩ => by
    cases ds with
    | nil => cases h
    | cons d ds =>
      cases r with
      | cons r1 r2 =>
        unfold tgAll at h
        cases e1 : ft d ε with
        | none => rw [e1] at h; cases h
        | some ε1 =>
          rw [e1] at h
          refine ⟨_, _, rfl, G0, H0, ε, G, d, ε1, ev, r1, e1, fun σ1 ev1 l1 k1 => ?_⟩
          refine ⟨G0, H0, ε1, G, ds, ε', ev1, r2, h, fun σ2 ev2 l2 k2 => q σ2 ev2 (l2.trans l1) fun i hi => ?_⟩
          rw [k2 i fun z => hi (List.mem_append_right _ z), k1 i fun z => hi (List.mem_append_left _ z)]
theorem g_tup {es : List Expr} {k : Nat} {sl : List Nat} {fs : List DG} (hc : X.calm = true) (h : PDGs X es sl (tgAll fs))
    (hn : (assignEach es X.env).length = fs.length := by rfl) (hst : (assignEach es X.env).findIdx? (·.1) = none := by rfl) : PDG X (.Tuple es k pos) sl (tgT fs) :=
  PG.weak (pg_tup hc h hn hst) fun v σ H Q ⟨G0, H0, ε, G, d, ε', ev, r, h, q⟩ => by
    cases r with
    | tup s r => exact ⟨_, _, rfl, ex_t ev.gh s, by rw [r.length]; exact tgAll_len h, G0, H0, ε, G, _, ε', ev, r, h, q⟩
    | _ => cases h
end
end PL

set_option Elab.async false
set_option linter.all false
set_option maxRecDepth 100000
set_option maxHeartbeats 2000000
/-! PL5: calls, comprehensions, statements, defs. -/
namespace PL
open PySem PySem.Spec PyProof.Rows L2

/-! ### calls -/
def spD (K : PySem.W.Frag) (mg : Str → Option Value) (n : Nat) (M : List D → Out D) : Sp := fun vs H Q E => ∃ G ds, Ex G H ∧ RpAll K G vs ds ∧ ds.length = n ∧ Post mg E G H (M ds) (rV K) Q
section
variable {X : Cx} {E : XK} {e e2 : Expr} {es : List Expr} {f g : DE} {p pos : Pos}
theorem pd_call {M : List D → Out D} {k : Nat} {fa : Addr} {fd : FuncData} {ps : List Str} {x : Str} {fl : List DE} (F : FnOk X.prog X.w X.K X.mg X.base CX0 k fa fd ps (spD X.K X.mg ps.length M)) (hr : Room k X.A) (hg : Gl X x) (hm : X.mg x = some (.ref fa))
    (hk : PySem.W.keepIn X.K (.ref fa) = true) (hb : Binds X.K fd ps []) (ha : PAd X E (e :: es) (dArgs fl)) (hn : fl.length = ps.length := by rfl) (hdb : (x == ("__debug__" : Str)) = false := by decide)
    (he : starEach (e :: es) X.env = (false, eval e X.env) :: starEach es X.env := by rfl) (hpl : (backTo pos (starEach es X.env)).any (·.1) = false := by rfl) : PD X E (.Call (.Name x p) (e :: es) [] pos) (dCall M (dArgs fl)) :=
  PE.weak (pe_call (E := E0) F hr hg hm hk hb .nil pass0 ha hdb he hpl) fun σ H Q ⟨G0, H0, ε, G, ev, q⟩ => by
    refine ⟨G0, H0, ε, G, ev, Post.bind q fun ds vs G1 H1 hd x1 r q1 => ?_⟩
    rw [List.append_nil]
    refine ⟨G1, ds, x1.gh, r, by rw [dArgs_len hd, hn], ?_⟩
    cases hM : M ds with
    | ok d => rw [hM] at q1; exact q1
    | rs c => rw [hM] at q1; exact q1.elim
    | no => rw [hM] at q1; exact q1.elim
theorem pd_call0 {M : List D → Out D} {k : Nat} {fa : Addr} {fd : FuncData} {x : Str} (F : FnOk X.prog X.w X.K X.mg X.base CX0 k fa fd [] (spD X.K X.mg 0 M)) (hr : Room k X.A) (hg : Gl X x) (hm : X.mg x = some (.ref fa))
    (hk : PySem.W.keepIn X.K (.ref fa) = true) (hb : Binds X.K fd [] []) (hdb : (x == ("__debug__" : Str)) = false := by decide) : PD X E (.Call (.Name x p) [] [] pos) (dCall M (dArgs [])) :=
  PE.weak (pe_call0 (E := E0) F hr hg hm hk hb .nil pass0 hdb) fun σ H Q ⟨G0, H0, ε, G, ev, q⟩ => by
    refine ⟨G, [], ev.gh, .nil, rfl, ?_⟩
    unfold dCall dArgs at q
    cases hM : M [] with
    | ok d => simp only [Out.bind, hM] at q; exact q
    | rs c => simp only [Out.bind, hM] at q; exact q.elim
    | no => simp only [Out.bind, hM] at q; exact q.elim
/-! built-ins -/
theorem pd_len (hg : Gl X "len") (hm : X.mg "len" = none) (ha : PAw X E [e] (dArgs [f])) (he : starEach [e] X.env = (false, eval e X.env) :: starEach [] X.env := by rfl) : PD X E (.Call (.Name "len" p) [e] [] pos) (d1 oLen f) :=
  PE.weak (pe_callB (CallR.or call_len_seq call_len_str) hg hm PySem.boot_len ha (by decide) (by decide) he) fun σ H Q ⟨G0, H0, ε, G, ev, q⟩ => by
    refine ⟨G0, H0, ε, G, ev, args1 q fun d vs G1 H1 x1 r q1 => ?_⟩
    obtain ⟨v, rfl, w⟩ := vw1 r
    obtain ⟨d', hd, q2⟩ := q1.of
    unfold oLen at hd
    split at hd
    · cases hd
      obtain ⟨a, vs, rfl, s1, _, r1⟩ := w.tup x1.gh
      refine .inl ⟨a, vs, rfl, .inr s1, ?_⟩
      rw [r1.length]
      exact q2 _ G1 H1 (Ext.refl x1.gh) (.int _)
    · cases hd
      obtain ⟨a, vs, rfl, s1, r1⟩ := w.lst x1.gh
      refine .inl ⟨a, vs, rfl, .inl s1, ?_⟩
      rw [r1.length]
      exact q2 _ G1 H1 (Ext.refl x1.gh) (.int _)
    · split at hd
      · rename_i hz
        cases hd
        exact .inr ⟨_, by rw [w.str], lim_le hz, q2 _ G1 H1 (Ext.refl x1.gh) (.int _)⟩
      · cases hd
    · cases hd
theorem pd_tuple (hg : Gl X "tuple") (hm : X.mg "tuple" = none) (ha : PAw X E [e] (dArgs [f])) (he : starEach [e] X.env = (false, eval e X.env) :: starEach [] X.env := by rfl) : PD X E (.Call (.Name "tuple" p) [e] [] pos) (d1 oTuple f) :=
  PE.weak (pe_callTy call_tuple_of hg hm (by decide +kernel) ha (by decide) (by decide) he) fun σ H Q ⟨G0, H0, ε, G, ev, q⟩ => by
    refine ⟨G0, H0, ε, G, ev, args1 q fun d vs G1 H1 x1 r q1 => ?_⟩
    obtain ⟨v, rfl, w⟩ := vw1 r
    obtain ⟨d', hd, q2⟩ := q1.of
    unfold oTuple at hd
    split at hd
    · cases hd
      have wr := w.tupR
      obtain ⟨a, vs, rfl, s1, _, r1⟩ := w.tup x1.gh
      exact ⟨a, vs, rfl, .inr ⟨s1, q2 _ G1 H1 (Ext.refl x1.gh) wr⟩⟩
    · cases hd
      obtain ⟨a, vs, rfl, s1, r1⟩ := w.lst x1.gh
      exact ⟨a, vs, rfl, .inl ⟨s1, fun l hl => q2 _ _ _ (Ext.lay x1.gh hl) (.tup (.inl (.inl upd_same)) (r1.up (Ex.new (x1.gh.back hl))))⟩⟩
    · cases hd
/-- (the fresh one) -/
theorem argsF {ε : Ev} {mg : Str → Option Value} {K : PySem.W.Frag} {G H : Hp} {k : D → Out (List D)} {Q : VK} {S : List D → List V → Hp → Hp → Prop} {P : List V → Hp → Prop} (q : PostF K mg E G H ((f ε).bind k) Q)
    (F : ∀ d vs G' H', Ext G H G' H' → S [d] vs G' H' → PostF K mg E G' H' (k d) Q → P vs H') : Post mg E G H (dArgs [f] ε) S P := by
  unfold dArgs dArgs
  cases h : f ε with
  | ok d =>
    rw [h] at q
    exact fun vs G2 H2 x2 r => F d vs G2 H2 x2 r (PostF.on (o := k d) q x2)
  | rs c => rw [h] at q; exact q
  | no => rw [h] at q; exact q
theorem pf_list (hg : Gl X "list") (hm : X.mg "list" = none) (ha : PAw X E [e] (dArgs [f])) (he : starEach [e] X.env = (false, eval e X.env) :: starEach [] X.env := by rfl) : PF X E (.Call (.Name "list" p) [e] [] pos) (lList f) :=
  PE.weak (pe_callTy call_list_of hg hm (by decide +kernel) ha (by decide) (by decide) he) fun σ H Q ⟨G0, H0, ε, G, ev, q⟩ => by
    refine ⟨G0, H0, ε, G, ev, argsF q fun d vs G1 H1 x1 r q1 => ?_⟩
    obtain ⟨v, rfl, w⟩ := vw1 r
    obtain ⟨ds, hd, q2⟩ := q1.of
    have fin : ∀ (a : Addr) (vs : List V), RpAll X.K G1 vs ds → ∀ l, H1 l = none → Q (.ref l) (upd H1 l (.lst vs)) := fun a vs r1 l hl => q2 l vs G1 _ (Ext.open_ x1.gh hl) hl upd_same (x1.gh.back hl) r1
    unfold oList at hd
    split at hd
    · cases hd
      obtain ⟨a, vs, rfl, s1, _, r1⟩ := w.tup x1.gh
      exact ⟨a, vs, rfl, .inr s1, fin a vs r1⟩
    · cases hd
      obtain ⟨a, vs, rfl, s1, r1⟩ := w.lst x1.gh
      exact ⟨a, vs, rfl, .inl s1, fin a vs r1⟩
    · cases hd
theorem pd_min2 (hc : X.calm = true) (hg : Gl X "min") (hm : X.mg "min" = none) (ha : PAw X E [e, e2] (dArgs [f, g])) (he : starEach [e, e2] X.env = (false, eval e X.env) :: starEach [e2] X.env := by rfl) (hpl : (backTo pos (starEach [e2] X.env)).any (·.1) = false := by rfl) :
    PD X E (.Call (.Name "min" p) [e, e2] [] pos) (d2 oMin2 f g) :=
  PE.weak (pe_callB (call_min2 hc) hg hm (by decide +kernel) ha (by decide) (by decide) he hpl) fun σ H Q ⟨G0, H0, ε, G, ev, q⟩ => by
    refine ⟨G0, H0, ε, G, ev, args2 q fun d d' vs G1 H1 x1 r q1 => ?_⟩
    obtain ⟨v, v', rfl, w, w'⟩ := vw2 r
    obtain ⟨d'', hd, q2⟩ := q1.of
    unfold oMin2 at hd
    split at hd
    · cases hd
      rw [w.int, w'.int]
      exact ⟨_, _, rfl, q2 _ G1 H1 (Ext.refl x1.gh) (.int _)⟩
    · cases hd
theorem pd_max2 (hc : X.calm = true) (hg : Gl X "max") (hm : X.mg "max" = none) (ha : PAw X E [e, e2] (dArgs [f, g])) (he : starEach [e, e2] X.env = (false, eval e X.env) :: starEach [e2] X.env := by rfl) (hpl : (backTo pos (starEach [e2] X.env)).any (·.1) = false := by rfl) :
    PD X E (.Call (.Name "max" p) [e, e2] [] pos) (d2 oMax2 f g) :=
  PE.weak (pe_callB (call_max2 hc) hg hm (by decide +kernel) ha (by decide) (by decide) he hpl) fun σ H Q ⟨G0, H0, ε, G, ev, q⟩ => by
    refine ⟨G0, H0, ε, G, ev, args2 q fun d d' vs G1 H1 x1 r q1 => ?_⟩
    obtain ⟨v, v', rfl, w, w'⟩ := vw2 r
    obtain ⟨d'', hd, q2⟩ := q1.of
    unfold oMax2 at hd
    split at hd
    · cases hd
      rw [w.int, w'.int]
      exact ⟨_, _, rfl, q2 _ G1 H1 (Ext.refl x1.gh) (.int _)⟩
    · cases hd
end

/-! ### comprehensions -/
@[simp] def wipeE (ε : Ev) : List Nat → Ev
  | [] => ε
  | v :: vs => (wipeE ε vs).set v .un
def compL (ft : DG) (test : Ev → Out Bool) (elt : DE) (ε : Ev) : List D → Out (List D)
  | [] => .ok []
  | d :: ds => match ft d ε with
    | none => .no
    | some ε1 => match test ε1 with
      | .ok true => match elt ε1 with
        | .ok x => (compL ft test elt ε ds).bind fun xs => .ok (x :: xs)
        | _ => .no
      | .ok false => compL ft test elt ε ds
      | _ => .no
@[simp] def lComp (own : List Nat) (it : Ev → Out (List D)) (ft : DG) (test : Ev → Out Bool) (elt : DE) (ε : Ev) : Out (List D) := (it ε).bind fun ds => if ds.length ≤ LIM then nrm (compL ft test elt (wipeE ε own) ds) else .no
@[simp] def dYes (_ : Ev) : Out Bool := .ok true
section
variable {w : World} {K : PySem.W.Frag} {mg : Str → Option Value} {G0 H0 G H : Hp} {ε : Ev} {σ : L2.St}
theorem EnvOk.wipe (e : EnvOk w K mg G0 H0 ε σ G H) : ∀ vs : List Nat, EnvOk w K mg G0 H0 (wipeE ε vs) (L2.wipe σ vs) G H
  | [] => e
  | v :: vs => (EnvOk.wipe e vs).setUn
theorem wipe_get : ∀ (vs : List Nat) (σ : L2.St) (i : Nat), (L2.wipe σ vs)[i]? = if i ∈ vs ∧ i < σ.length then some none else σ[i]?
  | [], σ, i => by simp [L2.wipe]
  | v :: vs, σ, i => by
    unfold L2.wipe
    by_cases h : v = i
    · subst h
      by_cases hv : v < σ.length
      · rw [List.getElem?_set_self (by rw [L2.wipe_length]; exact hv)]
        rw [if_pos ⟨List.mem_cons_self .., hv⟩]
      · rw [List.getElem?_eq_none (by rw [List.length_set, L2.wipe_length]; omega), if_neg (fun z => hv z.2), List.getElem?_eq_none (by omega)]
    · rw [List.getElem?_set_ne h, wipe_get vs σ i]
      simp [show i ≠ v from fun z => h z.symm]
theorem wipe_same {σ σ2 : L2.St} {vs : List Nat} (hl : σ2.length = σ.length) (h : ∀ i : Nat, i ∉ vs → σ2[i]? = σ[i]?) : L2.wipe σ2 vs = L2.wipe σ vs := by
  apply List.ext_getElem?
  intro i
  rw [wipe_get, wipe_get, hl]
  by_cases hi : i ∈ vs
  · by_cases h2 : i < σ.length
    · simp [hi, h2]
    · rw [if_neg (by simp [h2]), if_neg (by simp [h2]), List.getElem?_eq_none (by omega), List.getElem?_eq_none (by omega)]
  · simp [hi, h i hi]
theorem wipe_wipe (σ : L2.St) (vs : List Nat) : L2.wipe (L2.wipe σ vs) vs = L2.wipe σ vs := by
  refine wipe_same (by rw [L2.wipe_length]) fun i hi => ?_
  rw [wipe_get]
  simp [hi]
end
section
variable {X : Cx} {E : XK} {pos : Pos}
theorem lc_of {own sl : List Nat} {it : Ev → Out (List D)} {ft : DG} {test : Ev → Out Bool} {elt : DE} (hsl : ∀ i ∈ sl, i ∈ own) :
    ∀ σ H Q, tF X.w X.K X.mg E (lComp own it ft test elt) σ H Q → tLc (tG X.w X.K X.mg E (rIt X.K) it) (gD X.w X.K X.mg sl ft) (tG X.w X.K X.mg E0 rB test) (tG X.w X.K X.mg E0 (rV X.K) elt) own σ H Q := fun σ H Q ⟨G0, H0, ε, G, ev, q⟩ => by
  refine ⟨G0, H0, ε, G, ev, PostF.bind q fun ds J G1 H1 _ x1 ok1 q1 => ?_⟩
  intro DD hD
  split at q1
  · rename_i hlen
    cases hc : compL ft test elt (wipeE ε own) ds with
    | rs c => rw [hc] at q1; exact q1.elim
    | no => rw [hc] at q1; exact q1.elim
    | ok res =>
      rw [hc] at q1
      have ev1 : EnvOk X.w X.K X.mg G0 H0 (wipeE ε own) (L2.wipe σ own) G1 H1 := (ev.on x1).wipe own
      refine ⟨fun i m H => i ≤ ds.length ∧ m = ds.length - i ∧ ∃ G acc dacc rest, Ext G1 H1 G H ∧ H DD = some (.lst acc) ∧ G DD = none ∧ RpAll X.K G acc dacc ∧ dacc.length ≤ i ∧ compL ft test elt (wipeE ε own) (ds.drop i) = .ok rest ∧ dacc ++ rest = res,
        ⟨ds.length, Nat.zero_le _, by omega, G1, [], [], res, Ext.open_ x1.gh hD, upd_same, x1.gh.back hD, .nil, Nat.le_refl _, hc, rfl⟩, ?_⟩
      rintro i m H2 ⟨hi, rfl, G2, acc, dacc, rest, x2, hH, hG, r, hl, hcr, hres⟩
      obtain ⟨goes, stops⟩ := ok1 G2 H2 x2.gg x2.gh i
      cases hd : ds[i]? with
      | none =>
        refine .inl ⟨stops hd, ?_⟩
        have hi2 : ds.length ≤ i := List.getElem?_eq_none_iff.mp hd
        rw [List.drop_eq_nil_of_le hi2] at hcr
        cases hcr
        rw [List.append_nil] at hres
        subst hres
        exact q1 DD acc G2 H2 x2 hD hH hG r
      | some d =>
        have hi2 := lt_of_get hd
        obtain ⟨go, yl⟩ := goes d hd
        refine .inr ⟨go, _, fun H' w => ⟨ds.length - (i + 1), by omega, w⟩, fun x H3 y => ?_⟩
        obtain ⟨G3, x3, r3⟩ := yl x H3 y
        have hdr : ds.drop i = d :: ds.drop (i + 1) := by
          rw [List.drop_eq_getElem_cons hi2]
          congr 1
          exact Option.some.inj ((List.getElem?_eq_getElem hi2).symm.trans hd)
        rw [hdr] at hcr
        unfold compL at hcr
        cases hft : ft d (wipeE ε own) with
        | none => rw [hft] at hcr; cases hcr
        | some ε1 =>
          rw [hft] at hcr
          dsimp only at hcr
          refine ⟨G0, H0, wipeE ε own, G3, d, ε1, (ev1.on x2).on x3, r3, hft, fun σ2 ev2 hl2 k2 => ⟨?_, ?_⟩⟩
          · rw [wipe_same hl2 fun j hj => k2 j fun z => hj (hsl j z), wipe_wipe]
          · refine ⟨G0, H0, ε1, G3, ev2, ?_⟩
            cases ht : test ε1 with
            | rs c => rw [ht] at hcr; cases hcr
            | no => rw [ht] at hcr; cases hcr
            | ok b =>
              rw [ht] at hcr
              intro b' G4 H4 x4 eb
              cases eb
              cases b with
              | false =>
                rw [if_neg Bool.false_ne_true]
                exact ⟨hi2, rfl, G4, acc, dacc, rest, (x2.trans x3).trans x4, x4.hh _ _ (x3.hh _ _ hH), x4.fr _ _ (x3.hh _ _ hH) (x3.fr _ _ hH hG), r.up (x3.gg.trans x4.gg), by omega, hcr, hres⟩
              | true =>
                rw [if_pos rfl]
                refine ⟨G0, H0, ε1, G4, ev2.on x4, ?_⟩
                cases he : elt ε1 with
                | rs c => rw [he] at hcr; cases hcr
                | no => rw [he] at hcr; cases hcr
                | ok y =>
                  rw [he] at hcr
                  dsimp only at hcr
                  cases hrr : compL ft test elt (wipeE ε own) (ds.drop (i + 1)) with
                  | rs c => rw [hrr] at hcr; cases hcr
                  | no => rw [hrr] at hcr; cases hcr
                  | ok ys =>
                    rw [hrr] at hcr
                    cases hcr
                    intro v G5 H5 x5 r5
                    have hH5 := x5.hh _ _ (x4.hh _ _ (x3.hh _ _ hH))
                    have hG5 := x5.fr _ _ (x4.hh _ _ (x3.hh _ _ hH)) (x4.fr _ _ (x3.hh _ _ hH) (x3.fr _ _ hH hG))
                    have x15 := ((x2.trans x3).trans x4).trans x5
                    have hal := r.length
                    refine ⟨acc, hH5, Nat.lt_of_le_of_lt (by omega : acc.length ≤ LIM) (by decide), hi2, rfl, G5, acc ++ [v], dacc ++ [y], ys, ⟨x15.gg, x15.hh.mut hD, fun a u ha => by rw [upd_ne (ne_of_none ha hG5)]; exact x15.gh a u ha, x15.fr⟩, upd_same, hG5, ?_, ?_, hrr, ?_⟩
                    · exact (r.up ((x3.gg.trans x4.gg).trans x5.gg)).append (.cons r5 .nil)
                    · rw [List.length_append, List.length_singleton]; omega
                    · rw [List.append_assoc]; exact hres
  · exact q1.elim
end
end PL

set_option Elab.async false
set_option linter.all false
set_option maxRecDepth 100000
set_option maxHeartbeats 2000000
/-! PL6: list comprehensions as expressions; statements; defs. -/
namespace PL
open PySem PySem.Spec PyProof.Rows L2
section
variable {X : Cx} {E : XK} {pos : Pos}
theorem pts_y : PTs X [] (tG X.w X.K X.mg E rB dYes) := ⟨fun pins s σ H Q I ⟨G0, H0, ε, G, ev, q⟩ => pts_nil.run pins s σ H Q I (q true G H (Ext.refl ev.gh) rfl)⟩
theorem pts_o {c : Expr} {t : Ev → Out Bool} (h : PTt X E c t) : PTs X [c] (tG X.w X.K X.mg E rB t) := pts_one h
theorem pf_lc {elt tg iter : Expr} {ifs : List Expr} {scope : Scope} {own : List (Str × Nat)} {sl : List Nat} {it : Ev → Out (List D)} {ft : DG} {test : Ev → Out Bool} {fe : DE} (hc : X.calm = true) (hN : X.N.Nodup) (hi : PDI X E tg iter it) (ok : BlkOk X.N X.env.scope scope own)
    (hg : ∀ (s : Shared) (H : Hp) (C : Addr) (cl : List (Str × Addr)) (fp : List Addr), PDG (X.blk s H scope (compEnvC scope cl C X.env) fp) tg sl ft) (ht : ∀ (s : Shared) (H : Hp) (C : Addr) (cl : List (Str × Addr)) (fp : List Addr), PTs (X.blk s H scope (compEnvC scope cl C X.env) fp) ifs (tG X.w X.K X.mg E0 rB test))
    (he : ∀ (s : Shared) (H : Hp) (C : Addr) (cl : List (Str × Addr)) (fp : List Addr), PD (X.blk s H scope (compEnvC scope cl C X.env) fp) E0 elt fe) (hsl : ∀ i ∈ sl, i ∈ own.map (·.2) := by decide) (hs : ∀ x, foldedSetIterable iter X.env x = pure x := by intro _; rfl) :
    PF X E (.ListComp elt [⟨tg, iter, ifs, 0⟩] scope pos) (lComp (own.map (·.2)) it ft test fe) :=
  PE.weak (pe_lc hc hN hi ok hg ht he hs) (lc_of hsl)
end

/-! ### statements -/
inductive Fl where
  | nx (ε : Ev) | rt (d : D) | bk (ε : Ev) | ct (ε : Ev) | rs (c : Str) | no
abbrev DS := Ev → Fl
def PostS (w : World) (K : PySem.W.Frag) (mg : Str → Option Value) (E : XK) (G0 H0 G1 : Hp) (Dn : Ends) : Fl → Prop
  | .nx ε => ∀ σ G H, EnvOk w K mg G0 H0 ε σ G H → Ex G1 G → Dn.nx σ H
  | .bk ε => ∀ σ G H, EnvOk w K mg G0 H0 ε σ G H → Ex G1 G → Dn.bk σ H
  | .ct ε => ∀ σ G H, EnvOk w K mg G0 H0 ε σ G H → Ex G1 G → Dn.ct σ H
  | .rt d => ∀ v G H, Ext G0 H0 G H → Rp K G v d → Dn.rt v H
  | .rs c => ∀ G H, Ext G0 H0 G H → Ex G1 G → Xok mg E c H
  | .no => False
def sD (w : World) (K : PySem.W.Frag) (mg : Str → Option Value) (E : XK) (f : DS) : TS := fun Dn σ H => ∃ G0 H0 ε G, EnvOk w K mg G0 H0 ε σ G H ∧ PostS w K mg E G0 H0 G Dn (f ε)
abbrev PSd (X : Cx) (E : XK) (st : Stmt) (f : DS) : Prop := PS X st (sD X.w X.K X.mg E f)
abbrev PSsd (X : Cx) (E : XK) (st : List Stmt) (f : DS) : Prop := PSs X st (sD X.w X.K X.mg E f)
theorem PS.weak {X : Cx} {st : Stmt} {t t' : TS} (h : PS X st t) (f : ∀ Dn σ H, t' Dn σ H → t Dn σ H) : PS X st t' := ⟨fun pins s σ H Dn I q => h.run pins s σ H Dn I (f Dn σ H q)⟩
theorem PSs.weak {X : Cx} {st : List Stmt} {t t' : TS} (h : PSs X st t) (f : ∀ Dn σ H, t' Dn σ H → t Dn σ H) : PSs X st t' := ⟨fun pins s σ H Dn I q => h.run pins s σ H Dn I (f Dn σ H q)⟩
def bindS {α : Type} : Out α → (α → Fl) → Fl
  | .ok a, k => k a
  | .rs c, _ => .rs c
  | .no, _ => .no
@[simp] theorem bindS_ok {α : Type} (a : α) (k : α → Fl) : bindS (.ok a) k = k a := rfl
@[simp] theorem bindS_rs {α : Type} (c : Str) (k : α → Fl) : bindS (.rs c) k = .rs c := rfl
@[simp] theorem bindS_no {α : Type} (k : α → Fl) : bindS .no k = .no := rfl
theorem PostS.up {w : World} {K : PySem.W.Frag} {mg : Str → Option Value} {E : XK} {G0 H0 G G' : Hp} {Dn : Ends} {fl : Fl} (h : PostS w K mg E G0 H0 G Dn fl) (x : Ex G G') : PostS w K mg E G0 H0 G' Dn fl := by
  cases fl with
  | nx ε => exact fun σ G2 H2 ev x2 => h σ G2 H2 ev (x.trans x2)
  | bk ε => exact fun σ G2 H2 ev x2 => h σ G2 H2 ev (x.trans x2)
  | ct ε => exact fun σ G2 H2 ev x2 => h σ G2 H2 ev (x.trans x2)
  | rs c => exact fun G2 H2 x2 g2 => h G2 H2 x2 (x.trans g2)
  | rt d => exact h
  | no => exact h
theorem PostS.bind {α β : Type} {w : World} {K : PySem.W.Frag} {mg : Str → Option Value} {E : XK} {G0 H0 G H : Hp} {Dn : Ends} {o : Out α} {k : α → Fl} {R : α → β → Hp → Hp → Prop} {P : β → Hp → Prop} (h : PostS w K mg E G0 H0 G Dn (bindS o k)) (x0 : Ext G0 H0 G H)
    (f : ∀ d b G' H', o = .ok d → Ext G H G' H' → R d b G' H' → PostS w K mg E G0 H0 G' Dn (k d) → P b H') : Post mg E G H o R P := by
  cases o with
  | ok d => exact fun b G2 H2 x2 r => f d b G2 H2 rfl x2 r (PostS.up (fl := k d) h x2.gg)
  | rs c => exact fun G2 H2 x2 => h G2 H2 (x0.trans x2) x2.gg
  | no => exact h
theorem PostS.bindF {w : World} {K : PySem.W.Frag} {mg : Str → Option Value} {E : XK} {G0 H0 G H : Hp} {Dn : Ends} {o : Out (List D)} {k : List D → Fl} {P : VK} (h : PostS w K mg E G0 H0 G Dn (bindS o k)) (x0 : Ext G0 H0 G H)
    (f : ∀ ds p vs G' H', Ext G H G' H' → H p = none → H' p = some (.lst vs) → G' p = none → RpAll K G' vs ds → PostS w K mg E G0 H0 G' Dn (k ds) → P (.ref p) H') : PostF K mg E G H o P := by
  cases o with
  | ok d => exact fun p vs G2 H2 x2 h1 h2 h3 r => f d p vs G2 H2 x2 h1 h2 h3 r (PostS.up (fl := k d) h x2.gg)
  | rs c => exact fun G2 H2 x2 => h G2 H2 (x0.trans x2) x2.gg
  | no => exact h

def seqF (o : Fl) (g : DS) : Fl := match o with
  | .nx ε' => g ε'
  | o => o
@[simp] theorem seqF_nx (ε : Ev) (g : DS) : seqF (.nx ε) g = g ε := rfl
@[simp] theorem seqF_rt (d : D) (g : DS) : seqF (.rt d) g = .rt d := rfl
@[simp] theorem seqF_bk (ε : Ev) (g : DS) : seqF (.bk ε) g = .bk ε := rfl
@[simp] theorem seqF_ct (ε : Ev) (g : DS) : seqF (.ct ε) g = .ct ε := rfl
@[simp] theorem seqF_rs (c : Str) (g : DS) : seqF (.rs c) g = .rs c := rfl
@[simp] def sSeq (f g : DS) (ε : Ev) : Fl := seqF (f ε) g
@[simp] def sNil (ε : Ev) : Fl := .nx ε
@[simp] def sSet (i : Nat) (f : DE) (ε : Ev) : Fl := bindS (f ε) fun d => .nx (ε.set i (.val d))
@[simp] def sOwn (i : Nat) (f : Ev → Out (List D)) (ε : Ev) : Fl := bindS (f ε) fun ds => .nx (ε.set i (.own ds))
def asgF : Option Ev → Fl
  | some ε' => .nx ε'
  | none => .no
@[simp] theorem asgF_some (ε : Ev) : asgF (some ε) = .nx ε := rfl
@[simp] def sAsg (f : DE) (ft : DG) (ε : Ev) : Fl := bindS (f ε) fun d => asgF (ft d ε)
@[simp] def sIf (c : Ev → Out Bool) (f g : DS) (ε : Ev) : Fl := bindS (c ε) fun b => if b = true then f ε else g ε
@[simp] def sRet (f : DE) (ε : Ev) : Fl := bindS (f ε) fun d => .rt d
@[simp] def sRetN (_ : Ev) : Fl := .rt .non
@[simp] def sDrop (f : DE) (ε : Ev) : Fl := bindS (f ε) fun _ => .nx ε
@[simp] def sBrk (ε : Ev) : Fl := .bk ε
@[simp] def sCt (ε : Ev) : Fl := .ct ε
def ownF (o : Option Sl) (k : List D → Fl) : Fl := match o with
  | some (.own ds) => k ds
  | _ => .no
@[simp] theorem ownF_own (ds : List D) (k : List D → Fl) : ownF (some (.own ds)) k = k ds := rfl
@[simp] def ownS (i : Nat) (k : Ev → List D → Fl) (ε : Ev) : Fl := ownF ε[i]? (k ε)
def extF (d : D) (k : List D → Fl) : Fl := match d with
  | .lst es => k es
  | _ => .no
@[simp] theorem extF_lst (ds : List D) (k : List D → Fl) : extF (.lst ds) k = k ds := rfl
def subF (d : D) (n : Nat) (k : Nat → Fl) : Fl := match d with
  | .int i => (match ixN n i with
    | some j => k j
    | none => .no)
  | _ => .no
theorem subF_int (i : Int) (n : Nat) (j : Nat) (k : Nat → Fl) (h : ixN n i = some j) : subF (.int i) n k = k j := by simp only [subF, h]
@[simp] def sApp (i : Nat) (f : DE) (ε : Ev) : Fl := ownS i (fun ε ds => bindS (f ε) fun d => if ds.length < LIM then .nx (ε.set i (.own (ds ++ [d]))) else .no) ε
@[simp] def sExt (i : Nat) (f : DE) (ε : Ev) : Fl := ownS i (fun ε ds => bindS (f ε) fun d => extF d fun es => if ds.length + es.length ≤ LIM then .nx (ε.set i (.own (ds ++ es))) else .no) ε
@[simp] def sSub (i : Nat) (fk f : DE) (ε : Ev) : Fl := ownS i (fun ε ds => bindS (f ε) fun d => bindS (fk ε) fun k => subF k ds.length fun j => .nx (ε.set i (.own (ds.set j d)))) ε
theorem ownS_of {i : Nat} {k : Ev → List D → Fl} {ε : Ev} {P : Fl → Prop} (h : P (ownS i k ε)) (hn : ¬ P .no) : ∃ ds, ε[i]? = some (.own ds) ∧ P (k ε ds) := by
  unfold ownS ownF at h
  split at h
  · rename_i ds hi; exact ⟨ds, hi, h⟩
  · exact (hn h).elim
def frzF (o : Option Sl) (i : Nat) (f : DS) (ε : Ev) : Fl := match o with
  | some (.own ds) => f (ε.set i (.val (.lst ds)))
  | some (.val d) => f ε
  | _ => .no
@[simp] theorem frzF_own (ds : List D) (i : Nat) (f : DS) (ε : Ev) : frzF (some (.own ds)) i f ε = f (ε.set i (.val (.lst ds))) := rfl
@[simp] theorem frzF_val (d : D) (i : Nat) (f : DS) (ε : Ev) : frzF (some (.val d)) i f ε = f ε := rfl
@[simp] def sFrz (i : Nat) (f : DS) (ε : Ev) : Fl := frzF ε[i]? i f ε
def forL (ft : DG) (body : DS) : List D → Ev → Fl
  | [], ε => .nx ε
  | d :: ds, ε => match ft d ε with
    | none => .no
    | some ε1 => match body ε1 with
      | .nx ε2 => forL ft body ds ε2
      | .ct ε2 => forL ft body ds ε2
      | .bk ε2 => .nx ε2
      | o => o
@[simp] def sFor (it : Ev → Out (List D)) (ft : DG) (body : DS) (ε : Ev) : Fl := bindS (it ε) fun ds => forL ft body ds ε
def whileD (c : Ev → Out Bool) (body : DS) : Nat → Ev → Fl
  | 0, _ => .no
  | n + 1, ε => bindS (c ε) fun b => if b = true then (match body ε with
      | .nx ε' => whileD c body n ε'
      | .ct ε' => whileD c body n ε'
      | .bk ε' => .nx ε'
      | o => o) else .nx ε
@[simp] def sWhile (n : Nat) (c : Ev → Out Bool) (body : DS) (ε : Ev) : Fl := whileD c body n ε

section
variable {X : Cx} {E : XK} {st : Stmt} {rest : List Stmt} {f g : DS} {e e2 : Expr} {fe fk : DE} {pos : Pos}
theorem ss_nil : PSsd X E [] sNil := PSs.weak pss_nil fun Dn σ H ⟨G0, H0, ε, G, ev, q⟩ => q σ G H ev (Ex.refl _)
theorem ss_cons (h1 : PSd X E st f) (h2 : PSsd X E rest g) : PSsd X E (st :: rest) (sSeq f g) := PSs.weak (pss_cons h1 h2) fun Dn σ H ⟨G0, H0, ε, G, ev, q⟩ => by
  refine ⟨G0, H0, ε, G, ev, ?_⟩
  unfold sSeq seqF at q
  cases h : f ε with
  | nx ε' =>
    rw [h] at q
    exact fun σ' G' H' ev' x' => ⟨G0, H0, ε', G', ev', PostS.up q x'⟩
  | _ => rw [h] at q; exact q
theorem ss_one (h1 : PSd X E st f) : PSsd X E [st] f := pss_one h1
theorem s_set (i : Nat) {x : Str} {pos' : Pos} (hN : X.N.Nodup) (he : PD X E e fe) (hi : X.N[i]? = some x := by rfl) (hx : Loc X.env.scope x := by first | exact Or.inl rfl | exact Or.inr rfl) (hs : swapsWith e (some (.Name x pos')) pos.line X.env = pure false := by rfl)
    (hf : X.fn x = true ∨ X.env.scope.names.lookup x = some .local := by first | exact .inl rfl | exact .inr rfl) : PSd X E (.Assign [.Name x pos'] e pos) (sSet i fe) :=
  PS.weak (ps_set hN hi hx he hs hf) fun Dn σ H ⟨G0, H0, ε, G, ev, q⟩ => by
    refine ⟨G0, H0, ε, G, ev, PostS.bind q ev.ext fun d v G1 H1 _ x1 r q1 => ?_⟩
    exact q1 _ G1 H1 ((ev.on x1).setVal r) (Ex.refl _)
theorem own_new {w : World} {K : PySem.W.Frag} {mg : Str → Option Value} {G0 H0 G H G1 H1 : Hp} {ε : Ev} {σ : L2.St} {i : Nat} {p : Addr} {vs : List V} {ds : List D} (ev : EnvOk w K mg G0 H0 ε σ G H) (x1 : Ext G H G1 H1) (h1 : H p = none) (h2 : H1 p = some (.lst vs)) (h3 : G1 p = none) (r : RpAll K G1 vs ds) :
    EnvOk w K mg G0 H0 (ε.set i (.own ds)) (σ.set i (some (.ref p))) G1 H1 := by
  refine (ev.on x1).setOwn h2 h3 (ev.ext.hh.back h1) r fun j es hj hs => ?_
  obtain ⟨a, ws, e1, e2, _⟩ := ev.own hj
  rw [hs] at e1
  cases e1
  rw [h1] at e2
  cases e2
theorem s_own (i : Nat) {x : Str} {pos' : Pos} {fl : Ev → Out (List D)} (hN : X.N.Nodup) (he : PF X E e fl) (hi : X.N[i]? = some x := by rfl) (hx : Loc X.env.scope x := by first | exact Or.inl rfl | exact Or.inr rfl) (hs : swapsWith e (some (.Name x pos')) pos.line X.env = pure false := by rfl)
    (hf : X.fn x = true ∨ X.env.scope.names.lookup x = some .local := by first | exact .inl rfl | exact .inr rfl) : PSd X E (.Assign [.Name x pos'] e pos) (sOwn i fl) :=
  PS.weak (ps_set hN hi hx he hs hf) fun Dn σ H ⟨G0, H0, ε, G, ev, q⟩ => by
    refine ⟨G0, H0, ε, G, ev, PostS.bindF q ev.ext fun ds p vs G1 H1 x1 h1 h2 h3 r q1 => ?_⟩
    exact q1 _ G1 H1 (own_new ev x1 h1 h2 h3 r) (Ex.refl _)
/-- y = [..] on one line -/
theorem setLc_of {i : Nat} {fl : Ev → Out (List D)} {t : TE} (h : ∀ σ H Q, tF X.w X.K X.mg E fl σ H Q → t σ H Q) : ∀ Dn σ H, sD X.w X.K X.mg E (sSet i (dLst fl)) Dn σ H → tAsg t (gName i) Dn σ H := fun Dn σ H ⟨G0, H0, ε, G, ev, q⟩ => by
  refine h _ _ _ ⟨G0, H0, ε, G, ev, ?_⟩
  unfold sSet dLst at q
  cases h : fl ε with
  | ok ds =>
    rw [h] at q
    intro p vs G1 H1 x1 h1 h2 h3 r
    have x2 := x1.close h1 h2 h3
    exact q _ _ H1 ((ev.on x2).setVal (.lst (SqL.of upd_same) (r.up (Ex.new h3)))) x2.gg
  | rs c => rw [h] at q; exact fun G2 H2 x2 => q G2 H2 (ev.ext.trans x2) x2.gg
  | no => rw [h] at q; exact q
theorem ownLc_of {i : Nat} {fl : Ev → Out (List D)} {t : TE} (h : ∀ σ H Q, tF X.w X.K X.mg E fl σ H Q → t σ H Q) : ∀ Dn σ H, sD X.w X.K X.mg E (sOwn i fl) Dn σ H → tAsg t (gName i) Dn σ H := fun Dn σ H ⟨G0, H0, ε, G, ev, q⟩ => by
  refine h _ _ _ ⟨G0, H0, ε, G, ev, PostS.bindF q ev.ext fun ds p vs G1 H1 x1 h1 h2 h3 r q1 => ?_⟩
  exact q1 _ G1 H1 (own_new ev x1 h1 h2 h3 r) (Ex.refl _)
theorem s_setLc (i : Nat) {y : Str} {py spos : Pos} {elt tg iter : Expr} {ifs : List Expr} {scope : Scope} {own : List (Str × Nat)} {sl : List Nat} {it : Ev → Out (List D)} {ft : DG} {test : Ev → Out Bool} {fe : DE} (hc : X.calm = true) (hN : X.N.Nodup)
    (hi : PDI X E tg iter it) (ok : BlkOk X.N X.env.scope scope own)
    (hg : ∀ (s : Shared) (H : Hp) (C : Addr) (cl : List (Str × Addr)) (fp : List Addr), PDG (X.blk s H scope (compEnvC scope cl C X.env) fp) tg sl ft) (ht : ∀ (s : Shared) (H : Hp) (C : Addr) (cl : List (Str × Addr)) (fp : List Addr), PTs (X.blk s H scope (compEnvC scope cl C X.env) fp) ifs (tG X.w X.K X.mg E0 rB test))
    (he : ∀ (s : Shared) (H : Hp) (C : Addr) (cl : List (Str × Addr)) (fp : List Addr), PD (X.blk s H scope (compEnvC scope cl C X.env) fp) E0 elt fe) (hsw : swapsWith (.ListComp elt [⟨tg, iter, ifs, 0⟩] scope pos) (some (.Name y py)) spos.line X.env = pure true) (hy : X.N[i]? = some y := by rfl) (hyl : X.env.scope.names.lookup y = some .local := by rfl)
    (hsl : ∀ i ∈ sl, i ∈ own.map (·.2) := by decide) (hs : ∀ x, foldedSetIterable iter X.env x = pure x := by intro _; rfl) :
    PSd X E (.Assign [.Name y py] (.ListComp elt [⟨tg, iter, ifs, 0⟩] scope pos) spos) (sSet i (dLst (lComp (own.map (·.2)) it ft test fe))) :=
  PS.weak (ps_setLc hc hN hy hyl hsw hi ok hg ht he hs) (setLc_of (lc_of hsl))
theorem s_ownLc (i : Nat) {y : Str} {py spos : Pos} {elt tg iter : Expr} {ifs : List Expr} {scope : Scope} {own : List (Str × Nat)} {sl : List Nat} {it : Ev → Out (List D)} {ft : DG} {test : Ev → Out Bool} {fe : DE} (hc : X.calm = true) (hN : X.N.Nodup)
    (hi : PDI X E tg iter it) (ok : BlkOk X.N X.env.scope scope own)
    (hg : ∀ (s : Shared) (H : Hp) (C : Addr) (cl : List (Str × Addr)) (fp : List Addr), PDG (X.blk s H scope (compEnvC scope cl C X.env) fp) tg sl ft) (ht : ∀ (s : Shared) (H : Hp) (C : Addr) (cl : List (Str × Addr)) (fp : List Addr), PTs (X.blk s H scope (compEnvC scope cl C X.env) fp) ifs (tG X.w X.K X.mg E0 rB test))
    (he : ∀ (s : Shared) (H : Hp) (C : Addr) (cl : List (Str × Addr)) (fp : List Addr), PD (X.blk s H scope (compEnvC scope cl C X.env) fp) E0 elt fe) (hsw : swapsWith (.ListComp elt [⟨tg, iter, ifs, 0⟩] scope pos) (some (.Name y py)) spos.line X.env = pure true) (hy : X.N[i]? = some y := by rfl) (hyl : X.env.scope.names.lookup y = some .local := by rfl)
    (hsl : ∀ i ∈ sl, i ∈ own.map (·.2) := by decide) (hs : ∀ x, foldedSetIterable iter X.env x = pure x := by intro _; rfl) :
    PSd X E (.Assign [.Name y py] (.ListComp elt [⟨tg, iter, ifs, 0⟩] scope pos) spos) (sOwn i (lComp (own.map (·.2)) it ft test fe)) :=
  PS.weak (ps_setLc hc hN hy hyl hsw hi ok hg ht he hs) (ownLc_of (lc_of hsl))
theorem s_asg {tg : Expr} {sl : List Nat} {ft : DG} (he : PD X E e fe) (hg : PDG X tg sl ft) (hs : swapsWithSole [tg] e pos.line X.env = pure false := by rfl) (hw : swappedStores [tg] e X.env = pure none := by rfl)
    (h1 : (assignEach [tg] X.env).map (·.2) = [assign tg X.env] := by rfl) : PSd X E (.Assign [tg] e pos) (sAsg fe ft) :=
  PS.weak (ps_asg he hg hs hw h1) fun Dn σ H ⟨G0, H0, ε, G, ev, q⟩ => by
    refine ⟨G0, H0, ε, G, ev, PostS.bind q ev.ext fun d v G1 H1 _ x1 r q1 => ?_⟩
    cases hf : ft d ε with
    | none => rw [hf] at q1; exact q1.elim
    | some ε' =>
      rw [hf] at q1
      exact ⟨G0, H0, ε, G1, d, ε', ev.on x1, r, hf, fun σ' ev' _ _ => q1 σ' G1 H1 ev' (Ex.refl _)⟩
theorem s_if {c : Expr} {a b : List Stmt} {tc : Ev → Out Bool} (hc : PTt X E c tc) (ha : PSsd X E a f) (hb : PSsd X E b g) : PSd X E (.If c a b pos) (sIf tc f g) := PS.weak (ps_if hc ha hb) fun Dn σ H ⟨G0, H0, ε, G, ev, q⟩ => by
  refine ⟨G0, H0, ε, G, ev, PostS.bind q ev.ext fun d v G1 H1 _ x1 r q1 => ?_⟩
  cases r
  cases d with
  | true => exact ⟨G0, H0, ε, G1, ev.on x1, q1⟩
  | false => exact ⟨G0, H0, ε, G1, ev.on x1, q1⟩
theorem s_ret (he : PD X E e fe) : PSd X E (.Return (some e) pos) (sRet fe) := PS.weak (ps_ret he) fun Dn σ H ⟨G0, H0, ε, G, ev, q⟩ => by
  refine ⟨G0, H0, ε, G, ev, PostS.bind q ev.ext fun d v G1 H1 _ x1 r q1 => ?_⟩
  exact q1 v G1 H1 (ev.ext.trans x1) r
theorem s_retN : PSd X E (.Return none pos) sRetN := PS.weak ps_retN fun Dn σ H ⟨G0, H0, ε, G, ev, q⟩ => q _ G H ev.ext .non
theorem s_drop (he : PVw X E e fe) (hs : swapsWith e none pos.line X.env = pure false := by rfl) : PSd X E (.Expr e pos) (sDrop fe) := PS.weak (ps_expr he hs) fun Dn σ H ⟨G0, H0, ε, G, ev, q⟩ => by
  refine ⟨G0, H0, ε, G, ev, PostS.bind q ev.ext fun d v G1 H1 _ x1 r q1 => ?_⟩
  exact q1 _ G1 H1 (ev.on x1) (Ex.refl _)
theorem s_pass : PSd X E (.Pass pos) sNil := PS.weak ps_pass fun Dn σ H ⟨G0, H0, ε, G, ev, q⟩ => q σ G H ev (Ex.refl _)
theorem s_brk : PSd X E (.Break pos) sBrk := PS.weak ps_break fun Dn σ H ⟨G0, H0, ε, G, ev, q⟩ => q σ G H ev (Ex.refl _)
theorem s_ct : PSd X E (.Continue pos) sCt := PS.weak ps_continue fun Dn σ H ⟨G0, H0, ε, G, ev, q⟩ => q σ G H ev (Ex.refl _)
theorem s_frz (i : Nat) (h : PSd X E st f) : PSd X E st (sFrz i f) := PS.weak h fun Dn σ H ⟨G0, H0, ε, G, ev, q⟩ => by
  unfold sFrz frzF at q
  split at q
  · rename_i ds hi
    obtain ⟨G', ev', x'⟩ := ev.freeze hi
    exact ⟨G0, H0, _, G', ev', PostS.up q x'⟩
  · exact ⟨G0, H0, ε, G, ev, q⟩
  · exact q.elim
/-- x.append(e), x a name that holds a list of its own -/
theorem s_app (i : Nat) {x : Str} {p2 apos cpos : Pos} (he : PD X E e fe) (hN : X.N[i]? = some x := by rfl) (hv : Vis X.env.scope x := by first | exact Or.inl rfl | exact Or.inr (Or.inl rfl) | exact Or.inr (Or.inr rfl))
    (hd : (x == ("__debug__" : Str)) = false := by decide) (hcd : (x == ("__classdict__" : Str)) = false := by decide)
    (hbase : attributeBase (.Name x p2) "append" X.env (eval (.Name x p2) X.env) = eval (.Name x p2) X.env := by rfl)
    (hfew : ((backTo cpos (starEach (e :: []) X.env)).all (fun x => !x.1) && (backToKw cpos (keywordEach [] X.env)).all (fun x => x.1.isSome)
      && decide ((e :: []).length + ([] : List Keyword).length + (if ([] : List Keyword).isEmpty then 0 else 1) < 30)) = true := by rfl)
    (hline : (apos.endLine == cpos.line) = true := by rfl) (hst : starEach (e :: []) X.env = (false, eval e X.env) :: starEach [] X.env := by rfl)
    (hs : swapsWith (.Call (.Attribute (.Name x p2) "append" apos) [e] [] cpos) none pos.line X.env = pure false := by rfl) :
    PSd X E (.Expr (.Call (.Attribute (.Name x p2) "append" apos) [e] [] cpos) pos) (sApp i fe) :=
  PS.weak (ps_expr (pe_bm PySem.F.plainAttrs_list PySem.F.slot_list_append PySem.F.type_list_append mt_append (pv i hN hv hd hcd) (pa_cons he pa_nil hst) hbase hfew hline hst) hs) fun Dn σ H ⟨G0, H0, ε, G, ev, q⟩ => by
    obtain ⟨ds, hi, q⟩ := ownS_of (P := PostS X.w X.K X.mg E G0 H0 G Dn) q id
    obtain ⟨a, vs, hs1, hH, hG, h0, r⟩ := ev.own hi
    refine ⟨_, hs1, .inl ⟨rfl, _, .inl (.inl hH)⟩, G0, H0, ε, G, ev, PostS.bind q ev.ext fun d v G1 H1 _ x1 rv q1 => ?_⟩
    split at q1
    · rename_i hl
      have hlen := r.length
      refine ⟨a, vs, v, rfl, rfl, x1.hh _ _ hH, Nat.lt_of_lt_of_le (by omega : vs.length < LIM) (by decide), ?_⟩
      exact q1 σ G1 _ ((ev.on x1).change hi hs1 (x1.hh _ _ hH) (x1.fr _ _ hH hG) h0 ((r.up x1.gg).append (.cons rv .nil))) (Ex.refl _)
    · exact q1.elim
def rExtR (K : PySem.W.Frag) : V → List V → Hp → VK → Prop := fun x vs H Q => ∃ l b xs zs, x = .ref l ∧ vs = [.ref b] ∧ H l = some (.lst xs) ∧ SqL K H b zs ∧ xs.length + zs.length ≤ sizeLine ∧ Q .non (upd H l (.lst (xs ++ zs)))
theorem mt_extR : MtM X "list.extend" (rExtR X.K) := by
  intro pins s σ H x vs v us Q I rx rv h
  obtain ⟨l, b, xs, zs, rfl, rfl, hH, hB, hz, q⟩ := h
  cases rx
  obtain ⟨u, rfl, ru⟩ := rv.one
  cases ru
  obtain ⟨z, its, n, r, hl, e⟩ := I.lstM hH
  obtain ⟨z2, its2, n2, sl2, r2, hl2, e2⟩ := lstR I hB
  have hsz : its.toArray.size + its2.toArray.size ≤ sizeLine := by rw [List.size_toArray, List.size_toArray]; omega
  have hlong : ¬ (!its.toArray.isEmpty && Builtin.List.listTooLong (its.toArray.size + its2.toArray.size)) = true := by
    rw [notLongL hsz, Bool.and_false]
    exact Bool.false_ne_true
  refine call_meets F.slot_list_extend ⟨_, e, rfl⟩ F.entry_list_extend (F.args_list_extend_2 _ _)
    (list_extS l its.toArray n b its2.toArray n2 sl2 hlong (by rw [List.size_toArray]; omega) (by omega)) ⟨e, e2, ?_⟩
  refine ⟨.non, _, I.lset (its' := its ++ its2) hH e (by simp) (r.append r2) ?_, rfl, q⟩
  rw [List.length_append]
  omega
theorem s_ext (i : Nat) {x : Str} {p2 apos cpos : Pos} (he : PVw X E e fe) (hN : X.N[i]? = some x := by rfl) (hv : Vis X.env.scope x := by first | exact Or.inl rfl | exact Or.inr (Or.inl rfl) | exact Or.inr (Or.inr rfl))
    (hd : (x == ("__debug__" : Str)) = false := by decide) (hcd : (x == ("__classdict__" : Str)) = false := by decide)
    (hbase : attributeBase (.Name x p2) "extend" X.env (eval (.Name x p2) X.env) = eval (.Name x p2) X.env := by rfl)
    (hfew : ((backTo cpos (starEach (e :: []) X.env)).all (fun x => !x.1) && (backToKw cpos (keywordEach [] X.env)).all (fun x => x.1.isSome)
      && decide ((e :: []).length + ([] : List Keyword).length + (if ([] : List Keyword).isEmpty then 0 else 1) < 30)) = true := by rfl)
    (hline : (apos.endLine == cpos.line) = true := by rfl) (hst : starEach (e :: []) X.env = (false, eval e X.env) :: starEach [] X.env := by rfl)
    (hs : swapsWith (.Call (.Attribute (.Name x p2) "extend" apos) [e] [] cpos) none pos.line X.env = pure false := by rfl) :
    PSd X E (.Expr (.Call (.Attribute (.Name x p2) "extend" apos) [e] [] cpos) pos) (sExt i fe) :=
  PS.weak (ps_expr (pe_bm PySem.F.plainAttrs_list PySem.F.slot_list_extend PySem.F.type_list_extend mt_extR (pv i hN hv hd hcd) (pa_cons he pa_nil hst) hbase hfew hline hst) hs) fun Dn σ H ⟨G0, H0, ε, G, ev, q⟩ => by
    obtain ⟨ds, hi, q⟩ := ownS_of (P := PostS X.w X.K X.mg E G0 H0 G Dn) q id
    obtain ⟨a, vs, hs1, hH, hG, h0, r⟩ := ev.own hi
    refine ⟨_, hs1, .inl ⟨rfl, _, .inl (.inl hH)⟩, G0, H0, ε, G, ev, PostS.bind q ev.ext fun d v G1 H1 _ x1 rv q1 => ?_⟩
    cases d with
    | lst es =>
      dsimp only [extF] at q1
      split at q1
      · rename_i hl
        obtain ⟨b, ws, rfl, s1, r1⟩ := rv.lst x1.gh
        have l1 := r.length
        have l2 := r1.length
        refine ⟨a, b, vs, ws, rfl, rfl, x1.hh _ _ hH, s1, lim_le (by omega), ?_⟩
        exact q1 σ G1 _ ((ev.on x1).change hi hs1 (x1.hh _ _ hH) (x1.fr _ _ hH hG) h0 ((r.up x1.gg).append r1)) (Ex.refl _)
      · exact q1.elim
    | _ => exact q1.elim
/-- x[k] = e -/
theorem s_sub (i : Nat) {x : Str} {p2 p3 : Pos} (hk : PVw X E e2 fk) (he : PD X E e fe) (hN : X.N[i]? = some x := by rfl) (hv : Vis X.env.scope x := by first | exact Or.inl rfl | exact Or.inr (Or.inl rfl) | exact Or.inr (Or.inr rfl))
    (hd : (x == ("__debug__" : Str)) = false := by decide) (hcd : (x == ("__classdict__" : Str)) = false := by decide)
    (ha : ∀ v, assign (.Subscript (.Name x p2) e2 p3) X.env v = (do
      let ov ← holding [v] (eval (.Name x p2) X.env)
      let iv ← holding [v, ov] (eval e2 X.env)
      standAt p3
      holding [v, ov, iv] (setItem ov iv v)
      release [v, ov, iv] []) := by intro _; rfl)
    (hs : swapsWithSole [.Subscript (.Name x p2) e2 p3] e pos.line X.env = pure false := by rfl) (hw : swappedStores [.Subscript (.Name x p2) e2 p3] e X.env = pure none := by rfl)
    (h1 : (assignEach [.Subscript (.Name x p2) e2 p3] X.env).map (·.2) = [assign (.Subscript (.Name x p2) e2 p3) X.env] := by rfl) :
    PSd X E (.Assign [.Subscript (.Name x p2) e2 p3] e pos) (sSub i fk fe) :=
  PS.weak (ps_asg he (pg_sub (pv i hN hv hd hcd) hk set_list ha) hs hw h1) fun Dn σ H ⟨G0, H0, ε, G, ev, q⟩ => by
    obtain ⟨ds, hi, q⟩ := ownS_of (P := PostS X.w X.K X.mg E G0 H0 G Dn) q id
    obtain ⟨a, vs, hs1, hH, hG, h0, r⟩ := ev.own hi
    refine ⟨G0, H0, ε, G, ev, PostS.bind q ev.ext fun d v G1 H1 _ x1 rv q1 => ?_⟩
    refine ⟨_, hs1, G0, H0, ε, G1, ev.on x1, PostS.bind q1 (ev.on x1).ext fun k w G2 H2 _ x2 rw q2 => ?_⟩
    cases k with
    | int k =>
      dsimp only [subF] at q2
      split at q2
      · rename_i j hj
        have x12 := x1.trans x2
        refine ⟨a, vs, k, j, rfl, rw.int, x12.hh _ _ hH, by rw [r.length]; exact hj, ?_⟩
        exact q2 σ G2 _ (((ev.on x1).on x2).change hi hs1 (x12.hh _ _ hH) (x12.fr _ _ hH hG) h0 ((r.up x12.gg).set (rv.up x2.gg) j)) (Ex.refl _)
      · exact q2.elim
    | _ => exact q2.elim
/-! loops -/
theorem s_for {tg iter : Expr} {body : List Stmt} {it : Ev → Out (List D)} {sl : List Nat} {ft : DG} {fb : DS} (hp : PassesOwn (model X.prog X.w) X.A X.env X.xe) (hc : X.calm = true) (hi : PDI X E tg iter it) (hg : PDG X tg sl ft) (hb : PSsd X E body fb)
    (hs : ∀ x, foldedSetIterable iter X.env x = pure x := by intro _; rfl) : PSd X E (.For tg iter body [] pos) (sFor it ft fb) := PS.weak (ps_for hp hc hi hg hb hs) fun Dn σ H ⟨G0, H0, ε, G, ev, q⟩ => by
  refine ⟨G0, H0, ε, G, ev, PostS.bind q ev.ext fun ds J G1 H1 _ x1 ok1 q1 => ?_⟩
  refine ⟨fun i m σ H => i ≤ ds.length ∧ m = ds.length - i ∧ ∃ ε G, EnvOk X.w X.K X.mg G0 H0 ε σ G H ∧ Ex G1 G ∧ PostS X.w X.K X.mg E G0 H0 G1 Dn (forL ft fb (ds.drop i) ε), ⟨ds.length, Nat.zero_le _, by omega, ε, G1, ev.on x1, Ex.refl _, q1⟩, ?_⟩
  rintro i m σ2 H2 ⟨hi, rfl, ε2, G2, ev2, xg, q2⟩
  obtain ⟨goes, stops⟩ := ok1 G2 H2 xg ev2.gh i
  cases hd : ds[i]? with
  | none =>
    refine .inl ⟨stops hd, ?_⟩
    rw [List.drop_eq_nil_of_le (List.getElem?_eq_none_iff.mp hd)] at q2
    exact q2 σ2 G2 H2 ev2 xg
  | some d =>
    have hi2 := lt_of_get hd
    obtain ⟨go, yl⟩ := goes d hd
    have hdr : ds.drop i = d :: ds.drop (i + 1) := by
      rw [List.drop_eq_getElem_cons hi2]
      congr 1
      exact Option.some.inj ((List.getElem?_eq_getElem hi2).symm.trans hd)
    rw [hdr] at q2
    unfold forL at q2
    refine .inr ⟨go, _, fun σ' H' w => ⟨ds.length - (i + 1), by omega, w⟩, fun x H3 y => ?_⟩
    obtain ⟨G3, x3, r3⟩ := yl x H3 y
    cases hft : ft d ε2 with
    | none => rw [hft] at q2; exact q2.elim
    | some ε3 =>
      rw [hft] at q2
      dsimp only at q2
      refine ⟨G0, H0, ε2, G3, d, ε3, ev2.on x3, r3, hft, fun σ4 ev4 _ _ => ⟨G0, H0, ε3, G3, ev4, ?_⟩⟩
      have xg3 := xg.trans x3.gg
      cases hb : fb ε3 with
      | nx ε5 => rw [hb] at q2; exact fun σ5 G5 H5 ev5 x5 => ⟨hi2, rfl, ε5, G5, ev5, xg3.trans x5, q2⟩
      | ct ε5 => rw [hb] at q2; exact fun σ5 G5 H5 ev5 x5 => ⟨hi2, rfl, ε5, G5, ev5, xg3.trans x5, q2⟩
      | bk ε5 => rw [hb] at q2; exact fun σ5 G5 H5 ev5 x5 => q2 σ5 G5 H5 ev5 (xg3.trans x5)
      | rt d' => rw [hb] at q2; exact q2
      | rs c => rw [hb] at q2; exact fun G5 H5 x5 g5 => q2 G5 H5 x5 (xg3.trans g5)
      | no => rw [hb] at q2; exact q2
theorem s_while {c : Expr} {body : List Stmt} {tc : Ev → Out Bool} {fb : DS} (n : Nat) (hp : PassesOwn (model X.prog X.w) X.A X.env X.xe) (hc : PTt X E c tc) (hb : PSsd X E body fb) : PSd X E (.While c body [] pos) (sWhile n tc fb) := PS.weak (ps_while hp hc hb) fun Dn σ H ⟨G0, H0, ε, G, ev, q⟩ => by
  refine ⟨fun m σ H => ∃ ε G2, EnvOk X.w X.K X.mg G0 H0 ε σ G2 H ∧ Ex G G2 ∧ PostS X.w X.K X.mg E G0 H0 G Dn (whileD tc fb m ε), ⟨n, ε, G, ev, Ex.refl _, q⟩, ?_⟩
  rintro m σ2 H2 ⟨ε2, G2, ev2, xg, q2⟩
  cases m with
  | zero => exact q2.elim
  | succ m =>
    refine ⟨G0, H0, ε2, G2, ev2, PostS.bind (PostS.up q2 xg) ev2.ext fun b b' G3 H3 _ x3 eb q3 => ?_⟩
    cases eb
    cases b with
    | false =>
      rw [if_neg Bool.false_ne_true] at q3 ⊢
      exact q3 σ2 G3 H3 (ev2.on x3) (Ex.refl _)
    | true =>
      rw [if_pos rfl]
      have q4 : PostS X.w X.K X.mg E G0 H0 G Dn (whileD tc fb (m + 1) ε2) := q2
      unfold whileD at q4
      rename_i htc
      rw [htc] at q4
      simp only [bindS, if_true] at q4
      have xg3 := xg.trans x3.gg
      refine ⟨_, fun σ' H' w => ⟨m, Nat.lt_succ_self m, w⟩, G0, H0, ε2, G3, ev2.on x3, ?_⟩
      cases hb : fb ε2 with
      | nx ε5 => rw [hb] at q4; exact fun σ5 G5 H5 ev5 x5 => ⟨ε5, G5, ev5, xg3.trans x5, q4⟩
      | ct ε5 => rw [hb] at q4; exact fun σ5 G5 H5 ev5 x5 => ⟨ε5, G5, ev5, xg3.trans x5, q4⟩
      | bk ε5 => rw [hb] at q4; exact fun σ5 G5 H5 ev5 x5 => q4 σ5 G5 H5 ev5 (xg3.trans x5)
      | rt d' => rw [hb] at q4; exact q4
      | rs c => rw [hb] at q4; exact fun G5 H5 x5 g5 => q4 G5 H5 x5 (xg3.trans g5)
      | no => rw [hb] at q4; exact q4
end

/-! ### defs -/
@[simp] def startE (n : Nat) (ds : List D) : Ev := ds.map .val ++ List.replicate (n - ds.length) .un
def runF : Fl → Out D
  | .rt d => .ok d
  | .nx _ => .ok .non
  | _ => .no
@[simp] theorem runF_rt (d : D) : runF (.rt d) = .ok d := rfl
@[simp] theorem runF_nx (ε : Ev) : runF (.nx ε) = .ok .non := rfl
@[simp] def runD (n : Nat) (f : DS) (ds : List D) : Out D := runF (f (startE n ds))
theorem start_ok {w : World} {K : PySem.W.Frag} {mg : Str → Option Value} {G H : Hp} {N : List Str} {vs : List V} {ds : List D} (e : Ex G H) (r : RpAll K G vs ds) : EnvOk w K mg G H (startE N.length ds) (L2.start N vs) G H := by
  have hl := r.length
  unfold startE L2.start
  refine ⟨Ext.refl e, by simp [hl], fun i => ?_, fun i j a d1 d2 _ h1 => ?_, fun i j a d1 d2 _ h1 => ?_⟩
  · by_cases hi : i < ds.length
    · rw [List.getElem?_append_left (by simpa [hl] using hi), List.getElem?_append_left (by simpa using hi), List.getElem?_map, List.getElem?_map, List.getElem?_eq_getElem hi]
      obtain ⟨v, h1, h2⟩ := r.getD (List.getElem?_eq_getElem hi)
      exact ⟨v, by rw [h1]; rfl, h2⟩
    · rw [List.getElem?_append_right (l₁ := ds.map Sl.val) (by simpa using hi), List.getElem?_replicate (a := Sl.un)]
      split <;> trivial
  · exfalso
    by_cases hi : i < ds.length
    · rw [List.getElem?_append_left (by simpa using hi), List.getElem?_map, List.getElem?_eq_getElem hi] at h1
      cases h1
    · rw [List.getElem?_append_right (by simpa using hi), List.getElem?_replicate] at h1
      split at h1 <;> cases h1
  · exfalso
    by_cases hi : i < ds.length
    · rw [List.getElem?_append_left (by simpa using hi), List.getElem?_map, List.getElem?_eq_getElem hi] at h1
      cases h1
    · rw [List.getElem?_append_right (by simpa using hi), List.getElem?_replicate] at h1
      split at h1 <;> cases h1
theorem def_ok {P : Program} {w : World} {K : PySem.W.Frag} {mg : Str → Option Value} {base : Heap} {x qual : Str} {st : Stmt} {f : Addr} {fd : FuncData} {N ps : List Str} {k : Nat} {fb : DS} (F : Fun K x qual st f fd) (S : FnScope N ps (defScope st))
    (body : ∀ (cdv : Value) (A : Around) (outer : List Env) (s : Shared) (H : Hp) (E : XK), Room k (A.deeper (envOfC qual (defScope st) s.heap.objs.size f cdv)) →
      PSsd (cxOf CX0 P w K mg base N qual (defScope st) f cdv A outer s H E).nox E0 (defBody st) fb) : FnOk P w K mg base CX0 (k + 1) f fd ps (spD K mg ps.length (runD N.length fb)) := by
  refine F.ok S (fun vs H Q E h => ?_) (fun cdv A outer s H vs Q E hr h => ?_)
  · obtain ⟨G, ds, _, r, hn, _⟩ := h
    rw [r.length, hn]
  · obtain ⟨G, ds, e, r, hn, q⟩ := h
    refine ⟨_, body cdv A outer s H E hr, G, H, startE N.length ds, G, start_ok e r, ?_⟩
    unfold runD runF at q
    cases hf : fb (startE N.length ds) with
    | rt d => rw [hf] at q; exact fun v G' H' x' r' => q v G' H' x' r'
    | nx ε' => rw [hf] at q; exact fun σ' G' H' ev' _ => q .non G' H' ev'.ext .non
    | rs c => rw [hf] at q; exact q.elim
    | bk _ => rw [hf] at q; exact q.elim
    | ct _ => rw [hf] at q; exact q.elim
    | no => rw [hf] at q; exact q.elim
theorem def_M {P : Program} {w : World} {K : PySem.W.Frag} {mg : Str → Option Value} {base : Heap} {x qual : Str} {st : Stmt} {f : Addr} {fd : FuncData} {N ps : List Str} {k n : Nat} {fb : DS} {M : List D → Out D} (F : Fun K x qual st f fd) (S : FnScope N ps (defScope st)) (hM : M = runD N.length fb) (hn : n = ps.length)
    (body : ∀ (cdv : Value) (A : Around) (outer : List Env) (s : Shared) (H : Hp) (E : XK), Room k (A.deeper (envOfC qual (defScope st) s.heap.objs.size f cdv)) →
      PSsd (cxOf CX0 P w K mg base N qual (defScope st) f cdv A outer s H E).nox E0 (defBody st) fb) : FnOk P w K mg base CX0 (k + 1) f fd ps (spD K mg n M) := by
  subst hM hn
  exact def_ok F S body
/-! ### the end -/
def spLaw (K : PySem.W.Frag) : Sp := fun vs H Q _ => ∃ (a : Addr) (ns : List Int), vs = [.ref a] ∧ SqL K H a (ns.map V.int) ∧ ns.length ≤ 63 ∧ ∀ H', Q (.bl true) H'
theorem law_end {P : Program} {w : World} {K : PySem.W.Frag} {mg : Str → Option Value} {base : Heap} {k : Nat} {f : Addr} {fd : FuncData} {x : Str} {M : List D → Out D} (F : FnOk P w K mg base CX0 k f fd [x] (spD K mg 1 M))
    (h : ∀ ns : List Int, ns.length ≤ 63 → M [.lst (ns.map .int)] = .ok (.bl true)) : FnOk P w K mg base CX0 k f fd [x] (spLaw K) :=
  F.imp fun vs H Q E ⟨a, ns, e, s, hl, q⟩ => by
    subst e
    refine ⟨H, [.lst (ns.map .int)], Ex.refl H, .cons (.lst s (RpAll.ints ns)) .nil, rfl, ?_⟩
    rw [h ns hl]
    exact fun v G' H' _ r => by cases r; exact q H'
end PL

set_option Elab.async false
set_option linter.all false
set_option maxRecDepth 100000
set_option maxHeartbeats 1000000
/-! PL7: in, isinstance, all, any, written tables. -/
namespace PL
open PySem PySem.Spec PyProof.Rows L2

/-! ### in -/
theorem un65 {k : Nat} {A : Around} (r : Room k A) : A.units + 65 < cLine := by have := r.un; omega
def oInB (p : Bool → Bool) : D → D → Option D
  | d, .lst es => if eqok d && eqok (.lst es) then some (.bl (p (es.any fun z => deq z d))) else none
  | d, .tup es => if eqok d && eqok (.tup es) then some (.bl (p (es.any fun z => deq z d))) else none
  | _, _ => none
abbrev oIn := oInB id
abbrev oNotIn := oInB not
@[simp] theorem oInB_lst (p : Bool → Bool) (d : D) (es : List D) : oInB p d (.lst es) = if eqok d && eqok (.lst es) then some (.bl (p (es.any fun z => deq z d))) else none := rfl
@[simp] theorem oInB_tup (p : Bool → Bool) (d : D) (es : List D) : oInB p d (.tup es) = if eqok d && eqok (.tup es) then some (.bl (p (es.any fun z => deq z d))) else none := rfl
theorem any_py (d : D) : ∀ es : List D, (pyAll es).any (fun z => PyData.eqv z d.py) = es.any fun z => deq z d
  | [] => rfl
  | e :: es => by
    show (PyData.eqv e.py d.py || (pyAll es).any (fun z => PyData.eqv z d.py)) = (deq e d || es.any fun z => deq z d)
    rw [any_py d es]
    rfl
section
variable {X : Cx} {E : XK} {e e2 : Expr} {f g : DE} {p pos : Pos}
def rInS (K : PySem.W.Frag) (p : Bool → Bool) : R2 := fun x y H Q => ∃ d ds, Dp K H x d ∧ SeqAt.shaped d = true ∧ (Dp K H y (.list ds) ∧ SeqAt.shaped (.list ds) = true ∨ Dp K H y (.tuple ds) ∧ SeqAt.shaped (.tuple ds) = true) ∧ Q (.bl (p (ds.any fun z => PyData.eqv z d))) H
theorem op_inS (hu : X.A.units + 65 < cLine) : OpR X (compareOp .In) (rInS X.K id) := by
  intro pins s σ H x y v u Q I rx ry h
  obtain ⟨d, ds, hd, sd, h, q⟩ := h
  obtain ⟨as, r1⟩ := Dp.reads I d x v hd rx
  rcases h with ⟨he, se⟩ | ⟨he, se⟩
  · obtain ⟨bs, r2⟩ := Dp.reads I (.list ds) y u he ry
    exact SeqAt.in_list_reads r2 r1 (SeqAt.canLay_of_shaped se) (SeqAt.canLay_of_shaped sd) (room_in_shaped sd hu) ⟨.bl _, H, I, rfl, q⟩
  · obtain ⟨bs, r2⟩ := Dp.reads I (.tuple ds) y u he ry
    exact SeqAt.in_tuple_reads r2 r1 (SeqAt.canLay_of_shaped se) (SeqAt.canLay_of_shaped sd) (room_in_shaped sd hu) ⟨.bl _, H, I, rfl, q⟩
theorem op_notInS (hu : X.A.units + 65 < cLine) : OpR X (compareOp .NotIn) (rInS X.K not) := by
  intro pins s σ H x y v u Q I rx ry h
  obtain ⟨d, ds, hd, sd, h, q⟩ := h
  obtain ⟨as, r1⟩ := Dp.reads I d x v hd rx
  rcases h with ⟨he, se⟩ | ⟨he, se⟩
  · obtain ⟨bs, r2⟩ := Dp.reads I (.list ds) y u he ry
    exact SeqAt.notIn_list_reads r2 r1 (SeqAt.canLay_of_shaped se) (SeqAt.canLay_of_shaped sd) (room_in_shaped sd hu) ⟨.bl _, H, I, rfl, q⟩
  · obtain ⟨bs, r2⟩ := Dp.reads I (.tuple ds) y u he ry
    exact SeqAt.notIn_tuple_reads r2 r1 (SeqAt.canLay_of_shaped se) (SeqAt.canLay_of_shaped sd) (room_in_shaped sd hu) ⟨.bl _, H, I, rfl, q⟩
theorem opd_inB {op : CmpOp} {pr : Bool → Bool} (ho : OpR X (compareOp op) (rInS X.K pr)) : OpD X (compareOp op) (oInB pr) := by
  refine ⟨_, ho, fun G H x y p q d e wx wy h Q k => ?_⟩
  unfold oInB at h
  split at h
  · split at h
    · rename_i hs
      cases h
      rw [Bool.and_eq_true] at hs
      refine ⟨_, _, wx.dp e, hs.1, .inl ⟨wy.dp e, hs.2⟩, ?_⟩
      rw [any_py]
      exact k _ G H (Ext.refl e) (.bl _)
    · cases h
  · split at h
    · rename_i hs
      cases h
      rw [Bool.and_eq_true] at hs
      refine ⟨_, _, wx.dp e, hs.1, .inr ⟨wy.dp e, hs.2⟩, ?_⟩
      rw [any_py]
      exact k _ G H (Ext.refl e) (.bl _)
    · cases h
  · cases h
theorem opd_in (hu : X.A.units + 65 < cLine) : OpD X (compareOp .In) oIn := opd_inB (op_inS hu)
theorem opd_notIn (hu : X.A.units + 65 < cLine) : OpD X (compareOp .NotIn) oNotIn := opd_inB (op_notInS hu)
theorem mark_tup {op : CmpOp} {es : List Expr} {pos : Pos} {k : Nat} : behindInMarks op (.Tuple es k pos) = false := rfl

/-! ### isinstance -/
def tyN : D → String
  | .non => "NoneType"
  | .bl _ => "bool"
  | .int _ => "int"
  | .str _ => "str"
  | .tup _ => "tuple"
  | .lst _ => "list"
def oIsi (T : String) (d : D) : Option D := (kitB (tyN d) T).map .bl
theorem Vw.ty {K : PySem.W.Frag} {G H : Hp} {v : V} {d : D} (h : Vw K G H v d) (e : Ex G H) : TyX K H v (.type (tyN d)) := by
  cases d with
  | non => cases h with | v h => cases h; exact .base .non
  | bl b => cases h with | v h => cases h; exact .base (.bl b)
  | int i => cases h with | v h => cases h; exact .base (.int i)
  | str i => cases h with | v h => cases h; exact .base (.str i)
  | tup ds =>
    obtain ⟨a, vs, rfl, s1, _, _⟩ := h.tup e
    rcases s1 with (h1 | ⟨o, h1⟩) | ⟨o, its, n, h1, h2, _⟩
    · exact .base (.tup h1)
    · exact .fTuple h1
    · exact .kTuple h1 h2
  | lst ds =>
    obtain ⟨a, vs, rfl, s1, _⟩ := h.lst e
    rcases s1 with (h1 | ⟨o, h1⟩) | ⟨o, its, n, h1, h2, _⟩
    · exact .base (.lst h1)
    · exact .base (.frz h1)
    · exact .kList h1 h2
theorem pd_isi {T : String} {x : Str} {px : Pos} (hg : Gl X "isinstance") (hm : X.mg "isinstance" = none) (hgT : Gl X x) (hmT : X.mg x = none) (hT : bootBuiltins x = some (.type T)) (ha : PVw X E e f)
    (hn : x ≠ "__name__" := by decide) (hdb : (x == ("__debug__" : Str)) = false := by decide)
    (he : starEach [e, .Name x px] X.env = (false, eval e X.env) :: starEach [.Name x px] X.env := by rfl) (he2 : starEach [.Name x px] X.env = (false, eval (.Name x px) X.env) :: starEach [] X.env := by rfl) (hpl : (backTo pos (starEach [.Name x px] X.env)).any (·.1) = false := by rfl) :
    PD X E (.Call (.Name "isinstance" p) [e, .Name x px] [] pos) (d1 (oIsi T) f) :=
  PE.weak (pe_callB call_isi hg hm (by decide +kernel) (pa_cons ha (pa_cons (pe_bltn (v := .ty T) hgT hmT hT rfl hn hdb) pa_nil he2) he) (by decide) (by decide) he hpl) fun σ H Q ⟨G0, H0, ε, G, ev, q⟩ => by
    refine ⟨G0, H0, ε, G, ev, q.bind fun d v G1 H1 _ x1 w q1 => ?_⟩
    obtain ⟨d', hd, q2⟩ := q1.of
    unfold oIsi at hd
    cases hk : kitB (tyN d) T with
    | none => rw [hk] at hd; cases hd
    | some b =>
      rw [hk] at hd
      cases hd
      exact ⟨v, .ty T, _, _, b, rfl, .ty T, w.ty x1.gh, kit_ty hk, q2 _ G1 H1 (Ext.refl x1.gh) (.bl b)⟩
end

/-! ### lists of truth values, of ints -/
def blsOf : List D → Option (List Bool)
  | [] => some []
  | .bl b :: r => (blsOf r).map (b :: ·)
  | _ :: _ => none
def intsOf : List D → Option (List Int)
  | [] => some []
  | .int b :: r => (intsOf r).map (b :: ·)
  | _ :: _ => none
theorem blsOf_map (bs : List Bool) : blsOf (bs.map D.bl) = some bs := by
  induction bs with
  | nil => rfl
  | cons b r ih => show (blsOf (r.map D.bl)).map (b :: ·) = _; rw [ih]; rfl
theorem intsOf_map (bs : List Int) : intsOf (bs.map D.int) = some bs := by
  induction bs with
  | nil => rfl
  | cons b r ih => show (intsOf (r.map D.int)).map (b :: ·) = _; rw [ih]; rfl
theorem rp_bls {K : PySem.W.Frag} {G : Hp} : ∀ {ds : List D} {vs : List V} {bs : List Bool}, blsOf ds = some bs → RpAll K G vs ds → vs = bs.map V.bl
  | [], _, _, h, .nil => by cases h; rfl
  | .bl b :: r, _, bs, h, .cons h1 h2 => by
    cases hr : blsOf r with
    | none => simp [blsOf, hr] at h
    | some cs =>
      simp [blsOf, hr] at h
      subst h
      cases h1
      rw [rp_bls hr h2]
      rfl
  | .non :: _, _, _, h, _ => nomatch h
  | .int _ :: _, _, _, h, _ => nomatch h
  | .str _ :: _, _, _, h, _ => nomatch h
  | .tup _ :: _, _, _, h, _ => nomatch h
  | .lst _ :: _, _, _, h, _ => nomatch h
theorem rp_ints {K : PySem.W.Frag} {G : Hp} : ∀ {ds : List D} {vs : List V} {bs : List Int}, intsOf ds = some bs → RpAll K G vs ds → vs = bs.map V.int
  | [], _, _, h, .nil => by cases h; rfl
  | .int b :: r, _, bs, h, .cons h1 h2 => by
    cases hr : intsOf r with
    | none => simp [intsOf, hr] at h
    | some cs =>
      simp [intsOf, hr] at h
      subst h
      cases h1
      rw [rp_ints hr h2]
      rfl
  | .non :: _, _, _, h, _ => nomatch h
  | .bl _ :: _, _, _, h, _ => nomatch h
  | .str _ :: _, _, _, h, _ => nomatch h
  | .tup _ :: _, _, _, h, _ => nomatch h
  | .lst _ :: _, _, _, h, _ => nomatch h
def oAll : D → Option D
  | .lst ds => (blsOf ds).map fun bs => .bl (bs.all id)
  | _ => none
def oAny : D → Option D
  | .lst ds => (blsOf ds).map fun bs => .bl (bs.any id)
  | _ => none
def oSum : D → Option D
  | .lst ds => (intsOf ds).map fun bs => .int bs.sum
  | _ => none
@[simp] theorem oAll_lst (ds : List D) : oAll (.lst ds) = (blsOf ds).map fun bs => .bl (bs.all id) := rfl
@[simp] theorem oAny_lst (ds : List D) : oAny (.lst ds) = (blsOf ds).map fun bs => .bl (bs.any id) := rfl
@[simp] theorem oSum_lst (ds : List D) : oSum (.lst ds) = (intsOf ds).map fun bs => .int bs.sum := rfl
section
variable {X : Cx} {E : XK} {e e2 : Expr} {f g : DE} {p pos : Pos}
theorem pd_all (hc : X.calm = true) (hg : Gl X "all") (hm : X.mg "all" = none) (ha : PAw X E [e] (dArgs [f])) (he : starEach [e] X.env = (false, eval e X.env) :: starEach [] X.env := by rfl) : PD X E (.Call (.Name "all" p) [e] [] pos) (d1 oAll f) :=
  PE.weak (pe_callB (cr_all hc) hg hm (by decide +kernel) ha (by decide) (by decide) he) fun σ H Q ⟨G0, H0, ε, G, ev, q⟩ => by
    refine ⟨G0, H0, ε, G, ev, args1 q fun d vs G1 H1 x1 r q1 => ?_⟩
    obtain ⟨v, rfl, w⟩ := vw1 r
    obtain ⟨d', hd, q2⟩ := q1.of
    unfold oAll at hd
    split at hd
    · rename_i ds
      obtain ⟨a, vs, rfl, s1, r1⟩ := w.lst x1.gh
      cases hb : blsOf ds with
      | none => rw [hb] at hd; cases hd
      | some bs =>
        rw [hb] at hd
        cases hd
        exact ⟨a, bs, rfl, rp_bls hb r1 ▸ s1, q2 _ G1 H1 (Ext.refl x1.gh) (.bl _)⟩
    · cases hd
theorem pd_any (hc : X.calm = true) (hg : Gl X "any") (hm : X.mg "any" = none) (ha : PAw X E [e] (dArgs [f])) (he : starEach [e] X.env = (false, eval e X.env) :: starEach [] X.env := by rfl) : PD X E (.Call (.Name "any" p) [e] [] pos) (d1 oAny f) :=
  PE.weak (pe_callB (cr_any hc) hg hm (by decide +kernel) ha (by decide) (by decide) he) fun σ H Q ⟨G0, H0, ε, G, ev, q⟩ => by
    refine ⟨G0, H0, ε, G, ev, args1 q fun d vs G1 H1 x1 r q1 => ?_⟩
    obtain ⟨v, rfl, w⟩ := vw1 r
    obtain ⟨d', hd, q2⟩ := q1.of
    unfold oAny at hd
    split at hd
    · rename_i ds
      obtain ⟨a, vs, rfl, s1, r1⟩ := w.lst x1.gh
      cases hb : blsOf ds with
      | none => rw [hb] at hd; cases hd
      | some bs =>
        rw [hb] at hd
        cases hd
        exact ⟨a, bs, rfl, rp_bls hb r1 ▸ s1, q2 _ G1 H1 (Ext.refl x1.gh) (.bl _)⟩
    · cases hd
theorem pd_sum (hc : X.calm = true) (hg : Gl X "sum") (hm : X.mg "sum" = none) (ha : PAw X E [e] (dArgs [f])) (he : starEach [e] X.env = (false, eval e X.env) :: starEach [] X.env := by rfl) : PD X E (.Call (.Name "sum" p) [e] [] pos) (d1 oSum f) :=
  PE.weak (pe_callB (cr_sum hc) hg hm (by decide +kernel) ha (by decide) (by decide) he) fun σ H Q ⟨G0, H0, ε, G, ev, q⟩ => by
    refine ⟨G0, H0, ε, G, ev, args1 q fun d vs G1 H1 x1 r q1 => ?_⟩
    obtain ⟨v, rfl, w⟩ := vw1 r
    obtain ⟨d', hd, q2⟩ := q1.of
    unfold oSum at hd
    split at hd
    · rename_i ds
      obtain ⟨a, vs, rfl, s1, r1⟩ := w.lst x1.gh
      cases hb : intsOf ds with
      | none => rw [hb] at hd; cases hd
      | some bs =>
        rw [hb] at hd
        cases hd
        exact ⟨a, bs, rfl, rp_ints hb r1 ▸ s1, q2 _ G1 H1 (Ext.refl x1.gh) (.int _)⟩
    · cases hd
/-! ### ** -/
def oPow : D → D → Option D
  | .int i, .int j => if 0 ≤ j ∧ j ≤ 1000000 ∧ i.natAbs < 2 ^ 64 then some (.int (i ^ j.toNat)) else none
  | _, _ => none
theorem opd_pow : OpD X (binaryOp .Pow) oPow := by
  refine ⟨_, op_pow, fun G H x y p q d e wx wy h Q k => ?_⟩
  unfold oPow at h
  split at h
  · split at h
    · rename_i hc; cases h; exact ⟨_, _, wx.int, wy.int, hc, k _ G H (Ext.refl e) (.int _)⟩
    · cases h
  · cases h

/-! ### written tables: texts to ints -/
inductive TabL : List DictEntry → List (Str × Int) → Prop
  | nil : TabL [] []
  | cons {e : DictEntry} {es : List DictEntry} {x : Str} {i : Int} {r : List (Str × Int)} (hk : ∃ t, e.key = .str x t) (hv : ∃ t, e.val = .int i t) : TabL es r → TabL (e :: es) ((x, i) :: r)
def Tab (w : World) (K : PySem.W.Frag) (mg : Str → Option Value) (x : Str) (tab : List (Str × Int)) : Prop :=
  ∃ d es n, mg x = some (.ref d) ∧ KDict K w d es n ∧ TabL es.toList tab
def tabAt (tab : List (Str × Int)) (z : Str) : Option Int := match tab with
  | [] => none
  | (x, i) :: r => if x = z then some i else tabAt r z
theorem tab_find {z : Str} : ∀ {es : List DictEntry} {tab : List (Str × Int)}, TabL es tab → (match tabAt tab z with
    | some i => ∃ e t, es.find? (·.key.isStr z) = some e ∧ e.val = .int i t
    | none => es.find? (·.key.isStr z) = none) ∧ es.any (·.refKey) = false
  | _, _, .nil => ⟨rfl, rfl⟩
  | _, _, @TabL.cons e es x i r ⟨t, hk⟩ ⟨t', hv⟩ h => by
    obtain ⟨h1, h2⟩ := tab_find (z := z) h
    have hr : e.refKey = false := by
      unfold DictEntry.refKey
      rw [hk]
    refine ⟨?_, by rw [List.any_cons, hr, h2]; rfl⟩
    unfold tabAt
    by_cases hx : x = z
    · rw [if_pos hx]
      refine ⟨e, t', ?_, hv⟩
      rw [List.find?_cons_of_pos (by rw [hk, hx]; simp [Value.isStr])]
    · rw [if_neg hx]
      have hn : (e.key.isStr z) = false := by
        rw [hk]
        simp [Value.isStr, hx]
      rw [List.find?_cons_of_neg (by rw [hn]; decide)]
      exact h1
theorem tab_ns {w : World} {K : PySem.W.Frag} {d : Addr} {es : Array DictEntry} {n : Nat} {tab : List (Str × Int)} (hd : KDict K w d es n) (h : TabL es.toList tab) (z : Str) : ∃ r : Option Value, PySem.W.nsIn K d z = some r ∧ (match tabAt tab z with
    | some i => ∃ t, r = some (.int i t)
    | none => r = none) := by
  obtain ⟨h1, h2⟩ := tab_find (z := z) h
  unfold PySem.W.nsIn
  rw [hd.at_]
  dsimp only
  cases ht : tabAt tab z with
  | none =>
    rw [ht] at h1
    have h1 : es.toList.find? (·.key.isStr z) = none := h1
    rw [h1]
    dsimp only
    rw [h2]
    exact ⟨none, rfl, rfl⟩
  | some i =>
    rw [ht] at h1
    obtain ⟨e, t, h3, h4⟩ := h1
    rw [h3]
    exact ⟨_, rfl, t, by rw [h4]⟩
def oTabIn (tab : List (Str × Int)) (p : Bool → Bool) : D → Option D
  | .str z => some (.bl (p (tabAt tab z).isSome))
  | _ => none
def oTabIx (tab : List (Str × Int)) : D → Option D
  | .str z => (tabAt tab z).map .int
  | _ => none
@[simp] theorem oTabIn_str (tab : List (Str × Int)) (p : Bool → Bool) (z : Str) : oTabIn tab p (.str z) = some (.bl (p (tabAt tab z).isSome)) := rfl
@[simp] theorem oTabIx_str (tab : List (Str × Int)) (z : Str) : oTabIx tab (.str z) = (tabAt tab z).map .int := rfl
def rTab (K : PySem.W.Frag) (d : Addr) (p : Bool → Bool) : R2 := fun x y H Q => ∃ (z : Str) (r : Option Value), x = .str z ∧ y = .ref d ∧ PySem.W.nsIn K d z = some r ∧ Q (.bl (p r.isSome)) H
theorem tabin_of {x : Str} {px : Pos} {tab : List (Str × Int)} {d : Addr} {es : Array DictEntry} {n : Nat} {pr : Bool → Bool} (hd : KDict X.K X.w d es n) (ht : TabL es.toList tab) :
    ∀ σ H Q, tG X.w X.K X.mg E (rV X.K) (d1 (oTabIn tab pr) f) σ H Q → tOp (rTab X.K d pr) (tG X.w X.K X.mg E (rW X.K) f) (tC (.ref d)) σ H Q := fun σ H Q ⟨G0, H0, ε, G, ev, q⟩ => by
  refine ⟨G0, H0, ε, G, ev, q.bind fun z v G1 H1 _ x1 w q1 => ?_⟩
  obtain ⟨d', hd', q2⟩ := q1.of
  unfold oTabIn at hd'
  split at hd'
  · rename_i s _
    cases hd'
    obtain ⟨r, h1, h2⟩ := tab_ns hd ht s
    refine ⟨s, r, w.str, rfl, h1, ?_⟩
    have e : r.isSome = (tabAt tab s).isSome := by
      cases hz : tabAt tab s with
      | none => rw [hz] at h2; rw [show r = none from h2]; rfl
      | some i => rw [hz] at h2; obtain ⟨t, rfl⟩ := h2; rfl
    rw [e]
    exact q2 _ G1 H1 (Ext.refl x1.gh) (.bl _)
  · cases hd'
theorem pd_tin {x : Str} {px : Pos} {tab : List (Str × Int)} (hT : Tab X.w X.K X.mg x tab) (hg : Gl X x) (ha : PVw X E e f) (hd : (x == ("__debug__" : Str)) = false := by decide) : PD X E (.Compare e [.In] [.Name x px] pos) (d1 (oTabIn tab id) f) := by
  obtain ⟨d, es, n, hm, hk, ht⟩ := hT
  exact PE.weak (pe_cmpR (show OpR X _ (rTab X.K d id) from op_in_kd hk) ha (pe_glob (v := .ref d) hg hm rfl hd) rfl) (tabin_of (px := px) (x := x) hk ht)
theorem pt_tin {x : Str} {px : Pos} {tab : List (Str × Int)} (hT : Tab X.w X.K X.mg x tab) (hg : Gl X x) (ha : PVw X E e f) (hd : (x == ("__debug__" : Str)) = false := by decide) : PTt X E (.Compare e [.In] [.Name x px] pos) (dTestB (d1 (oTabIn tab id) f)) := by
  obtain ⟨d, es, n, hm, hk, ht⟩ := hT
  exact PT.weak (pt_cmpR (show OpR X _ (rTab X.K d id) from op_in_kd hk) ha (pe_glob (v := .ref d) hg hm rfl hd) rfl) (test_of (tabin_of (px := px) (x := x) hk ht))
theorem pd_tnin {x : Str} {px : Pos} {tab : List (Str × Int)} (hT : Tab X.w X.K X.mg x tab) (hg : Gl X x) (ha : PVw X E e f) (hd : (x == ("__debug__" : Str)) = false := by decide) : PD X E (.Compare e [.NotIn] [.Name x px] pos) (d1 (oTabIn tab not) f) := by
  obtain ⟨d, es, n, hm, hk, ht⟩ := hT
  exact PE.weak (pe_cmpR (show OpR X _ (rTab X.K d not) from op_notIn_kd hk) ha (pe_glob (v := .ref d) hg hm rfl hd) rfl) (tabin_of (px := px) (x := x) hk ht)
theorem pt_tnin {x : Str} {px : Pos} {tab : List (Str × Int)} (hT : Tab X.w X.K X.mg x tab) (hg : Gl X x) (ha : PVw X E e f) (hd : (x == ("__debug__" : Str)) = false := by decide) : PTt X E (.Compare e [.NotIn] [.Name x px] pos) (dTestB (d1 (oTabIn tab not) f)) := by
  obtain ⟨d, es, n, hm, hk, ht⟩ := hT
  exact PT.weak (pt_cmpR (show OpR X _ (rTab X.K d not) from op_notIn_kd hk) ha (pe_glob (v := .ref d) hg hm rfl hd) rfl) (test_of (tabin_of (px := px) (x := x) hk ht))
theorem pd_tix {x : Str} {px : Pos} {tab : List (Str × Int)} (hT : Tab X.w X.K X.mg x tab) (hg : Gl X x) (ha : PVw X E e f) (hs : PlainIx e := by exact fun _ _ => rfl) (hd : (x == ("__debug__" : Str)) = false := by decide) : PD X E (.Subscript (.Name x px) e pos) (d1 (oTabIx tab) f) := by
  obtain ⟨d, es, n, hm, hk, ht⟩ := hT
  refine PE.weak (pe_ix ix_kdict (pe_glob (v := .ref d) hg hm rfl hd) ha hs) fun σ H Q ⟨G0, H0, ε, G, ev, q⟩ => ?_
  refine ⟨G0, H0, ε, G, ev, q.bind fun z v G1 H1 _ x1 w q1 => ?_⟩
  obtain ⟨d', hd', q2⟩ := q1.of
  unfold oTabIx at hd'
  split at hd'
  · rename_i s _
    obtain ⟨r, h1, h2⟩ := tab_ns hk ht s
    cases hz : tabAt tab s with
    | none => rw [hz] at hd'; cases hd'
    | some i =>
      rw [hz] at hd' h2
      cases hd'
      obtain ⟨t, rfl⟩ := h2
      exact ⟨d, s, .int i, rfl, w.str, ⟨es, n, _, hk.at_, hk.lit, h1, ⟨t, rfl⟩⟩, q2 _ G1 H1 (Ext.refl x1.gh) (.int i)⟩
  · cases hd'
/-! ### list(range(n)) -/
theorem rp_rg {K : PySem.W.Frag} {G : Hp} : ∀ ks : List Nat, RpAll K G (ks.map fun i => V.int (0 + (i : Nat))) (ks.map fun (k : Nat) => D.int (0 + k))
  | [] => .nil
  | k :: ks => .cons (.int _) (rp_rg ks)
def lRg1 (f : DE) (ε : Ev) : Out (List D) := (f ε).bind r1F
theorem pf_listR1 {p2 pos2 : Pos} (hc : X.calm = true) (hg : Gl X "list") (hm : X.mg "list" = none) (hg2 : Gl X "range") (hm2 : X.mg "range" = none) (ha : PVw X E e f)
    (na : starEach [e] X.env = (false, eval e X.env) :: starEach [] X.env := by rfl) (na2 : starEach [.Call (.Name "range" p2) [e] [] pos2] X.env = (false, eval (.Call (.Name "range" p2) [e] [] pos2) X.env) :: starEach [] X.env := by rfl) :
    PF X E (.Call (.Name "list" p) [.Call (.Name "range" p2) [e] [] pos2] [] pos) (lRg1 f) :=
  PE.weak (pe_listRg hc hg hm (prg_1 hg2 hm2 ha na) na2) fun σ H Q ⟨G0, H0, ε, G, ev, q⟩ => by
    refine ⟨G0, H0, ε, G, ev, PostF.bind q fun d v G1 H1 _ x1 w q1 => ?_⟩
    cases d with
    | int n =>
      rw [r1F_int] at q1
      split at q1
      · rename_i hb
        refine ⟨n, w.int, ⟨by omega, by omega, by omega, by omega, by omega⟩, fun l hl => q1 l _ G1 _ (Ext.open_ x1.gh hl) hl upd_same (x1.gh.back hl) ?_⟩
        unfold rgV rng
        rw [Int.sub_zero]
        exact rp_rg (List.range n.toNat)
      · exact q1.elim
    | _ => exact q1.elim
/-! ### a, b = x, y -/
@[simp] def sPar2 (i j : Nat) (f g : DE) (ε : Ev) : Fl := bindS (f ε) fun d => bindS (g ε) fun e => .nx ((ε.set i (.val d)).set j (.val e))
@[simp] def sPar3 (i j l : Nat) (f g h : DE) (ε : Ev) : Fl := bindS (f ε) fun d => bindS (g ε) fun e => bindS (h ε) fun k => .nx (((ε.set i (.val d)).set j (.val e)).set l (.val k))
theorem s_par2 (i j : Nat) {x y : Str} {a b : Expr} {px py pt : Pos} {kt k2 pt2} (hc : X.calm = true) (hN : X.N.Nodup) (ha : PD X E a f) (hb : PD X E b g)
    (hi : X.N[i]? = some x := by rfl) (hj : X.N[j]? = some y := by rfl) (hij : i ≠ j := by decide) (hx : X.env.scope.names.lookup x = some .local := by rfl) (hy : X.env.scope.names.lookup y = some .local := by rfl)
    (na : starEach [a, b] X.env = (false, eval a X.env) :: starEach [b] X.env := by rfl) (nb : starEach [b] X.env = (false, eval b X.env) :: starEach [] X.env := by rfl)
    (hw : swappedStores [.Tuple [.Name x px, .Name y py] kt pt] (.Tuple [a, b] k2 pt2) X.env = pure (some [x, y]) := by rfl) (hs : swapsWithSole [.Tuple [.Name x px, .Name y py] kt pt] (.Tuple [a, b] k2 pt2) pos.line X.env = pure false := by rfl) :
    PSd X E (.Assign [.Tuple [.Name x px, .Name y py] kt pt] (.Tuple [a, b] k2 pt2) pos) (sPar2 i j f g) :=
  PS.weak (ps_par hc hN hi hj hij hx hy (pa_cons ha (pa_cons hb pa_nil nb) na) hw hs) fun Dn σ H ⟨G0, H0, ε, G, ev, q⟩ => by
    refine ⟨G0, H0, ε, G, ev, PostS.bind q ev.ext fun d v G1 H1 _ x1 r q1 => ?_⟩
    refine ⟨G0, H0, ε, G1, ev.on x1, PostS.bind q1 (ev.on x1).ext fun d2 v2 G2 H2 _ x2 r2 q2 => ?_⟩
    exact ⟨v, v2, rfl, q2 _ G2 H2 ((((ev.on x1).on x2).setVal (r.up x2.gg)).setVal r2) (Ex.refl _)⟩
theorem s_par3 (i j l : Nat) {x y z : Str} {a b c : Expr} {h : DE} {px py pz pt : Pos} {kt k2 pt2} (hc : X.calm = true) (hN : X.N.Nodup) (ha : PD X E a f) (hb : PD X E b g) (hd : PD X E c h)
    (hi : X.N[i]? = some x := by rfl) (hj : X.N[j]? = some y := by rfl) (hl : X.N[l]? = some z := by rfl) (hij : i ≠ j := by decide) (hil : i ≠ l := by decide) (hjl : j ≠ l := by decide)
    (hx : X.env.scope.names.lookup x = some .local := by rfl) (hy : X.env.scope.names.lookup y = some .local := by rfl) (hz : X.env.scope.names.lookup z = some .local := by rfl)
    (na : starEach [a, b, c] X.env = (false, eval a X.env) :: starEach [b, c] X.env := by rfl) (nb : starEach [b, c] X.env = (false, eval b X.env) :: starEach [c] X.env := by rfl) (nc : starEach [c] X.env = (false, eval c X.env) :: starEach [] X.env := by rfl)
    (hw : swappedStores [.Tuple [.Name x px, .Name y py, .Name z pz] kt pt] (.Tuple [a, b, c] k2 pt2) X.env = pure (some [x, y, z]) := by rfl) (hs : swapsWithSole [.Tuple [.Name x px, .Name y py, .Name z pz] kt pt] (.Tuple [a, b, c] k2 pt2) pos.line X.env = pure false := by rfl) :
    PSd X E (.Assign [.Tuple [.Name x px, .Name y py, .Name z pz] kt pt] (.Tuple [a, b, c] k2 pt2) pos) (sPar3 i j l f g h) :=
  PS.weak (ps_par3 hc hN hi hj hl hij hil hjl hx hy hz (pa_cons ha (pa_cons hb (pa_cons hd pa_nil nc) nb) na) hw hs) fun Dn σ H ⟨G0, H0, ε, G, ev, q⟩ => by
    refine ⟨G0, H0, ε, G, ev, PostS.bind q ev.ext fun d v G1 H1 _ x1 r q1 => ?_⟩
    refine ⟨G0, H0, ε, G1, ev.on x1, PostS.bind q1 (ev.on x1).ext fun d2 v2 G2 H2 _ x2 r2 q2 => ?_⟩
    refine ⟨G0, H0, ε, G2, (ev.on x1).on x2, PostS.bind q2 ((ev.on x1).on x2).ext fun d3 v3 G3 H3 _ x3 r3 q3 => ?_⟩
    exact ⟨v, v2, v3, rfl, q3 _ G3 H3 (((((ev.on x1).on x2).on x3).setVal ((r.up x2.gg).up x3.gg)).setVal (r2.up x3.gg) |>.setVal r3) (Ex.refl _)⟩
/-! ### a statement that is never reached -/
@[simp] def sNo (_ : Ev) : Fl := .no
theorem s_no {st : Stmt} : PSd X E st sNo := ⟨fun _ _ _ _ _ _ h => by
  obtain ⟨_, _, _, _, _, q⟩ := h
  exact q.elim⟩
end
end PL

set_option Elab.async false
set_option linter.all false
set_option maxRecDepth 100000
set_option maxHeartbeats 1000000
/-! PL8: l.index(x), l.count(x). -/
namespace PL
open PySem PySem.Spec PyProof.Rows L2
def oIndex (ds : List D) (d : D) : Option D := if eqok d && eqok (.lst ds) then (ds.findIdx? fun z => deq z d).map fun j => .int (j : Nat) else none
def oCount (ds : List D) (d : D) : Option D := if eqok d && eqok (.lst ds) then some (.int (ds.countP fun z => deq z d : Nat)) else none
def lstF (l : D) (k : List D → Out D) : Out D := match l with
  | .lst ds => k ds
  | _ => .no
@[simp] theorem lstF_lst (ds : List D) (k : List D → Out D) : lstF (.lst ds) k = k ds := rfl
/-- l.m(x) -/
@[simp] def dLm (o : List D → D → Option D) (fo f : DE) (ε : Ev) : Out D := (fo ε).bind fun l => lstF l fun ds => (f ε).bind fun d => .of (o ds d)
theorem count_py (d : D) : ∀ es : List D, (pyAll es).countP (fun z => PyData.eqv z d.py) = es.countP fun z => deq z d
  | [] => rfl
  | e :: es => by
    show List.countP _ (e.py :: pyAll es) = _
    rw [List.countP_cons, List.countP_cons, count_py d es]
    rfl
theorem pyAll_get : ∀ (es : List D) (j : Nat), (pyAll es)[j]? = es[j]?.map D.py
  | [], _ => rfl
  | e :: es, 0 => rfl
  | e :: es, j + 1 => pyAll_get es j
section
variable {X : Cx} {E : XK} {e o : Expr} {f fo : DE} {apos cpos : Pos}
def rCountD (K : PySem.W.Frag) : V → List V → Hp → VK → Prop := fun x xs H Q => ∃ (a : Addr) (y : V) (d : PyData) (ds : List PyData), x = V.ref a ∧ xs = [y] ∧ Dp K H (V.ref a) (.list ds) ∧ Dp K H y d ∧
  SeqAt.shaped (.list ds) = true ∧ SeqAt.shaped d = true ∧ Q (.int ((ds.countP fun z => PyData.eqv z d : Nat) : Int)) H
theorem mt_countD (hu : X.A.units + 65 < cLine) : MtR X "list.count" (rCountD X.K) := by
  intro pins s σ H x xs v us Q I rx rxs h
  obtain ⟨a, y, d, ds, rfl, rfl, hl, hy, sl, sd, q⟩ := h
  cases rx
  cases rxs with
  | cons ry rt =>
    rename_i uy ut
    cases rt
    obtain ⟨bs, r1⟩ := Dp.reads I d y uy hy ry
    have hxs : PyData.canLayAll0 ds = true := SeqAt.canLay_of_shaped sl
    have hroom : X.A.units + 1 + min (PyData.depthAll ds) d.depth < cLine := room_in_shaped sd hu
    cases hl with
    | lst hs ha =>
      obtain ⟨its, rv, ⟨⟨cls, dd, data, sls⟩, n, ho, hc, hdn, hdt⟩, hlen⟩ := I.list hs
      simp only at hc hdt
      subst hc hdt
      obtain ⟨as, h4⟩ := Dp.readsAll I ds _ its ha rv
      have hmap : its.map (SeqAt.readOf s.heap) = ds := SeqAt.readsAll_map ds its as hxs h4
      refine call_meets PySem.F.slot_list_count ⟨_, ho, rfl⟩ PySem.F.entry_list_count (PySem.F.args_list_count_2 _ _)
        (SeqAt.list_countAt a its.toArray n dd sls uy (fun u => PyData.eqv (SeqAt.readOf s.heap u) d)) ⟨ho, SeqAt.items_eqAt (vs := its.toArray) (show ReadsAll s.heap its.toArray.toList ds as from h4) r1 hxs (SeqAt.canLay_of_shaped sd) hroom, ?_⟩
      have ec : its.toArray.toList.countP (fun u => PyData.eqv (SeqAt.readOf s.heap u) d) = ds.countP fun z => PyData.eqv z d := by
        rw [← hmap, List.countP_map]
        rfl
      refine ⟨.int ((ds.countP fun z => PyData.eqv z d : Nat) : Int), H, I.tok _, ⟨s.toks, ?_⟩, q⟩
      show Value.int ((its.toArray.toList.countP _ : Nat) : Int) s.toks = _
      rw [ec]
def MtD (X : Cx) (r : V → List V → Hp → VK → Prop) (op : List D → D → Option D) : Prop :=
  ∀ (G H : Hp) (a : Addr) (y : V) (ds : List D) (d e : D), Ex G H → Vw X.K G H (.ref a) (.lst ds) → Vw X.K G H y d → op ds d = some e → ∀ Q : VK, (∀ v G' H', Ext G H G' H' → Rp X.K G' v e → Q v H') → r (.ref a) [y] H Q
theorem pd_lm {name : Str} {id : String} {r : V → List V → Hp → VK → Prop} {op : List D → D → Option D} (slot : Slot "list" name id) (hty : typeOf (.builtin id) = pure (.type "method_descriptor")) (hm : MtR X id r) (hd : MtD X r op) (ho : PVw X E o fo) (ha : PVw X E e f)
    (hbase : attributeBase o name X.env (eval o X.env) = eval o X.env := by rfl)
    (hfew : ((backTo cpos (starEach (e :: []) X.env)).all (fun x => !x.1) && (backToKw cpos (keywordEach [] X.env)).all (fun x => x.1.isSome)
      && decide ((e :: []).length + ([] : List Keyword).length + (if ([] : List Keyword).isEmpty then 0 else 1) < 30)) = true := by rfl)
    (hline : (apos.endLine == cpos.line) = true := by rfl) (hst : starEach (e :: []) X.env = (false, eval e X.env) :: starEach [] X.env := by rfl) :
    PD X E (.Call (.Attribute o name apos) [e] [] cpos) (dLm op fo f) :=
  PE.weak (pe_bm PySem.F.plainAttrs_list slot hty hm ho (pa_cons ha pa_nil hst) hbase hfew hline hst) fun σ H Q ⟨G0, H0, ε, G, ev, q⟩ => by
    refine ⟨G0, H0, ε, G, ev, q.bind fun l x G1 H1 _ x1 w q1 => ?_⟩
    cases l with
    | lst ds =>
      obtain ⟨a, vs, rfl, s1, r1⟩ := w.lst x1.gh
      rw [lstF_lst] at q1
      refine ⟨.inl ⟨rfl, _, s1⟩, G0, H0, ε, G1, ev.on x1, q1.bind fun d y G2 H2 _ x2 w2 q2 => ?_⟩
      obtain ⟨d', hd', q3⟩ := q2.of
      exact hd G2 H2 a y ds d d' x2.gh (w.on x2) w2 hd' Q q3
    | _ => exact q1.elim
theorem md_count : MtD X (rCountD X.K) oCount := fun G H a y ds d e x w w2 hd Q q => by
  unfold oCount at hd
  split at hd
  · rename_i hs
    cases hd
    rw [Bool.and_eq_true] at hs
    refine ⟨a, y, _, _, rfl, rfl, w.dp x, w2.dp x, hs.2, hs.1, ?_⟩
    rw [count_py]
    exact q _ G H (Ext.refl x) (.int _)
  · cases hd
theorem md_index : MtD X (rIndexD X.K) oIndex := fun G H a y ds d e x w w2 hd Q q => by
  unfold oIndex at hd
  split at hd
  · rename_i hs
    rw [Bool.and_eq_true] at hs
    cases hj : ds.findIdx? (fun z => deq z d) with
    | none => rw [hj] at hd; cases hd
    | some j =>
      rw [hj] at hd
      cases hd
      obtain ⟨hlt, h1, h2⟩ := List.findIdx?_eq_some_iff_getElem.mp hj
      refine ⟨a, y, d.py, pyAll ds, j, ds[j].py, rfl, rfl, w.dp x, w2.dp x, hs.2, hs.1, ?_, h1, fun m z hm hz => ?_, q _ G H (Ext.refl x) (.int _)⟩
      · rw [pyAll_get, List.getElem?_eq_getElem hlt]
        rfl
      · have hml : m < ds.length := by omega
        rw [pyAll_get, List.getElem?_eq_getElem hml] at hz
        cases hz
        have := h2 m hm
        simpa [deq] using this
  · cases hd
theorem pd_index (hu : X.A.units + 65 < cLine) (ho : PVw X E o fo) (ha : PVw X E e f) (hbase : attributeBase o "index" X.env (eval o X.env) = eval o X.env := by rfl)
    (hfew : ((backTo cpos (starEach (e :: []) X.env)).all (fun x => !x.1) && (backToKw cpos (keywordEach [] X.env)).all (fun x => x.1.isSome)
      && decide ((e :: []).length + ([] : List Keyword).length + (if ([] : List Keyword).isEmpty then 0 else 1) < 30)) = true := by rfl)
    (hline : (apos.endLine == cpos.line) = true := by rfl) (hst : starEach (e :: []) X.env = (false, eval e X.env) :: starEach [] X.env := by rfl) :
    PD X E (.Call (.Attribute o "index" apos) [e] [] cpos) (dLm oIndex fo f) := pd_lm PySem.F.slot_list_index PySem.F.type_list_index (mt_indexD hu) md_index ho ha hbase hfew hline hst
theorem pd_count (hu : X.A.units + 65 < cLine) (ho : PVw X E o fo) (ha : PVw X E e f) (hbase : attributeBase o "count" X.env (eval o X.env) = eval o X.env := by rfl)
    (hfew : ((backTo cpos (starEach (e :: []) X.env)).all (fun x => !x.1) && (backToKw cpos (keywordEach [] X.env)).all (fun x => x.1.isSome)
      && decide ((e :: []).length + ([] : List Keyword).length + (if ([] : List Keyword).isEmpty then 0 else 1) < 30)) = true := by rfl)
    (hline : (apos.endLine == cpos.line) = true := by rfl) (hst : starEach (e :: []) X.env = (false, eval e X.env) :: starEach [] X.env := by rfl) :
    PD X E (.Call (.Attribute o "count" apos) [e] [] cpos) (dLm oCount fo f) := pd_lm PySem.F.slot_list_count PySem.F.type_list_count (mt_countD hu) md_count ho ha hbase hfew hline hst
end
end PL

set_option Elab.async false
set_option linter.all false
set_option maxRecDepth 100000
set_option maxHeartbeats 2000000
/-! PL9: raise, try .. except C as e: kept = e, isinstance of what was kept. -/
namespace PL
open PySem PySem.Spec PyProof.Rows L2

/-! ### defs that may raise -/
def runXF : Fl → Out D
  | .rt d => .ok d
  | .nx _ => .ok .non
  | .rs c => .rs c
  | _ => .no
@[simp] theorem runXF_rt (d : D) : runXF (.rt d) = .ok d := rfl
@[simp] theorem runXF_nx (ε : Ev) : runXF (.nx ε) = .ok .non := rfl
@[simp] theorem runXF_rs (c : Str) : runXF (.rs c) = .rs c := rfl
@[simp] def runX (n : Nat) (f : DS) (ds : List D) : Out D := runXF (f (startE n ds))
@[simp] def dCallX (M : List D → Out D) (fl : Ev → Out (List D)) (ε : Ev) : Out D := (fl ε).bind M
/-- what a call may let out is taken -/
abbrev TkE (X : Cx) (E : XK) : Prop := ∀ σ, PassesAt (L2.CX X.prog X.w) X σ E
theorem tk0 {X : Cx} : TkE X E0 := fun σ pins H s e s' I c => by
  obtain ⟨a, B, H', cls, d, _, _, _, _, _, _, _, h⟩ := c
  exact h.elim
theorem tkE {X : Cx} {E : XK} (tk : Takes X (fun cls d _ H => E cls d H)) : TkE X E := fun σ => passAt tk σ
/-- E of a try's body: the slots are forgotten -/
def EW (X : Cx) (W : WX) : XK := fun cls d H => ∀ σ : L2.St, σ.length = X.N.length → W cls d σ H
theorem tkW {X : Cx} {pn : List (Addr × Obj)} {xe : Value → Shared → Prop} {W : WX} (tk : Takes (X.tr pn xe) W) : TkE (X.tr pn xe) (EW X W) := fun σ pins H s e s' I c =>
  tk e s' (XE.of_call I (fun cls d H' h => h σ I.len) c)
section
variable {X : Cx} {E : XK} {e : Expr} {es : List Expr} {p pos : Pos}
theorem pd_callX {M : List D → Out D} {k : Nat} {fa : Addr} {fd : FuncData} {ps : List Str} {x : Str} {fl : List DE} (tk : TkE X E) (F : FnOk X.prog X.w X.K X.mg X.base (L2.CX X.prog X.w) k fa fd ps (spD X.K X.mg ps.length M)) (hr : Room k X.A) (hg : Gl X x) (hm : X.mg x = some (.ref fa))
    (hk : PySem.W.keepIn X.K (.ref fa) = true) (hb : Binds X.K fd ps []) (ha : PAd X E (e :: es) (dArgs fl)) (hn : fl.length = ps.length := by rfl) (hdb : (x == ("__debug__" : Str)) = false := by decide)
    (he : starEach (e :: es) X.env = (false, eval e X.env) :: starEach es X.env := by rfl) (hpl : (backTo pos (starEach es X.env)).any (·.1) = false := by rfl) : PD X E (.Call (.Name x p) (e :: es) [] pos) (dCallX M (dArgs fl)) :=
  PE.weak (pe_callSD (E := fun _ => E) F hr hg hm hk hb .nil tk ha hdb he hpl) fun σ H Q ⟨G0, H0, ε, G, ev, q⟩ => by
    refine ⟨G0, H0, ε, G, ev, Post.bind q fun ds vs G1 H1 hd x1 r q1 => ?_⟩
    rw [List.append_nil]
    exact ⟨G1, ds, x1.gh, r, by rw [dArgs_len hd, hn], q1⟩
/-! ### raise -/
@[simp] def sRs (c : Str) (_ : Ev) : Fl := .rs c
structure XCl (K : PySem.W.Frag) (mg : Str → Option Value) (c : Str) (C : Addr) : Prop where
  g : mg c = some (.ref C)
  x : PySem.W.excIn K C [.type "ValueError", .type "Exception", .type "BaseException", .type "object"] "ValueError.__new__" = true
  k : PySem.W.keepIn K (.ref C) = true
  b : PySem.W.subIn K (.ref C) (.type "BaseException") = some true
  t : PySem.W.typeIn K (.ref C) = some (.type "type")
theorem s_raise {c m : Str} {C : Addr} {j : Nat} {p2 pos' : Pos} (hc : X.calm = true) (tk : Takes X (fun cls d _ H => E cls d H)) (T : XCl X.K X.mg c C) (hg : Gl X c) (hdb : (c == ("__debug__" : Str)) = false := by decide) :
    PSd X E (.Raise (some (.Call (.Name c p) [.Constant (.str m) j p2] [] pos)) none pos') (sRs c) :=
  PS.weak (ps_raise hc tk (pmk_own PySem.F.excBase_ValueError T.x T.g T.k (raises_own T.b T.t) hg hdb)) fun Dn σ H ⟨G0, H0, ε, G, ev, q⟩ => q G H ev.ext (Ex.refl _) _ T.g
end
theorem def_okX {P : Program} {w : World} {K : PySem.W.Frag} {mg : Str → Option Value} {base : Heap} {x qual : Str} {st : Stmt} {f : Addr} {fd : FuncData} {N ps : List Str} {k : Nat} {fb : DS} (F : Fun K x qual st f fd) (S : FnScope N ps (defScope st))
    (body : ∀ (cdv : Value) (A : Around) (outer : List Env) (s : Shared) (H : Hp) (E : XK), Room k (A.deeper (envOfC qual (defScope st) s.heap.objs.size f cdv)) →
      Takes (cxOf (L2.CX P w) P w K mg base N qual (defScope st) f cdv A outer s H E) (fun cls d _ H => E cls d H) →
      PassesOwn (model P w) (cxOf (L2.CX P w) P w K mg base N qual (defScope st) f cdv A outer s H E).A (cxOf (L2.CX P w) P w K mg base N qual (defScope st) f cdv A outer s H E).env (cxOf (L2.CX P w) P w K mg base N qual (defScope st) f cdv A outer s H E).xe →
      PSsd (cxOf (L2.CX P w) P w K mg base N qual (defScope st) f cdv A outer s H E) E (defBody st) fb) : FnOk P w K mg base (L2.CX P w) (k + 1) f fd ps (spD K mg ps.length (runX N.length fb)) := by
  refine F.okX S (fun vs H Q E h => ?_) (fun cdv A outer s H vs Q E hr h => ?_)
  · obtain ⟨G, ds, _, r, hn, _⟩ := h
    rw [r.length, hn]
  · obtain ⟨G, ds, e, r, hn, q⟩ := h
    refine ⟨_, body cdv A outer s H E hr (takes_of rfl rfl rfl rfl) (passes_of rfl), G, H, startE N.length ds, G, start_ok e r, ?_⟩
    unfold runX runXF at q
    cases hf : fb (startE N.length ds) with
    | rt d => rw [hf] at q; exact fun v G' H' x' r' => q v G' H' x' r'
    | nx ε' => rw [hf] at q; exact fun σ' G' H' ev' _ => q .non G' H' ev'.ext .non
    | rs c => rw [hf] at q; exact fun G' H' x' _ => q G' H' x'
    | bk _ => rw [hf] at q; exact q.elim
    | ct _ => rw [hf] at q; exact q.elim
    | no => rw [hf] at q; exact q.elim
theorem def_MX {P : Program} {w : World} {K : PySem.W.Frag} {mg : Str → Option Value} {base : Heap} {x qual : Str} {st : Stmt} {f : Addr} {fd : FuncData} {N ps : List Str} {k n : Nat} {fb : DS} {M : List D → Out D} (F : Fun K x qual st f fd) (S : FnScope N ps (defScope st)) (hM : M = runX N.length fb) (hn : n = ps.length)
    (body : ∀ (cdv : Value) (A : Around) (outer : List Env) (s : Shared) (H : Hp) (E : XK), Room k (A.deeper (envOfC qual (defScope st) s.heap.objs.size f cdv)) →
      Takes (cxOf (L2.CX P w) P w K mg base N qual (defScope st) f cdv A outer s H E) (fun cls d _ H => E cls d H) →
      PassesOwn (model P w) (cxOf (L2.CX P w) P w K mg base N qual (defScope st) f cdv A outer s H E).A (cxOf (L2.CX P w) P w K mg base N qual (defScope st) f cdv A outer s H E).env (cxOf (L2.CX P w) P w K mg base N qual (defScope st) f cdv A outer s H E).xe →
      PSsd (cxOf (L2.CX P w) P w K mg base N qual (defScope st) f cdv A outer s H E) E (defBody st) fb) : FnOk P w K mg base (L2.CX P w) (k + 1) f fd ps (spD K mg n M) := by
  subst hM hn
  exact def_okX F S body

/-! ### an exception is kept behind the suite -/
def ExD (cls : Value) (d : Option Addr) (a : Addr) : HO := .ext fun h => ∃ (oe : Obj) (vs : Array Value), h.get? a = some oe ∧ Zc cls d oe ∧ oe.data = .fields vs
theorem exD_ok {P : Program} {w : World} {H : Hp} {h : Heap} {a : Addr} {cls : Value} {d : Option Addr} {oe : Obj} {vs : Array Value} (e : h.get? a = some oe) (z : Zc cls d oe) (hd : oe.data = .fields vs) : ObjOk P w H h a (ExD cls d a) :=
  ⟨⟨oe, vs, e, z, hd⟩, ⟨oe, e⟩, fun _ _ ⟨o, v, q, r⟩ k => ⟨o, v, k o q, r⟩⟩
theorem Inv.track {X : Cx} {pins : List (Addr × Obj)} {σ : L2.St} {H : Hp} {s : Shared} {a : Addr} {o : HO} {oe : Obj} {vs : Array Value} (I : Inv X pins σ H s) (ha : s.heap.get? a = some oe) (hd : oe.data = .fields vs) (n0 : X.s_0.heap.get? a = none) (hn : H a = none) (nL : a ≠ X.env.locals)
    (hp : ∀ p ∈ X.pn ++ pins, p.1 ≠ a) (new : ObjOk X.prog X.w (upd H a o) s.heap a o) : Inv X pins σ (upd H a o) s := by
  refine ⟨I.ok, I.os, I.bare, ⟨I.base.keep, I.base.slot, fun b u e n hx => ?_, I.base.there, fun b xs q => ?_, fun b u xs q => ?_, fun b ps q => ?_⟩, I.loc, I.cell, ?_, fun x c e => ?_, fun p hpp => ?_, HOk.laidN I.hok (fun _ _ z => z) hn new, I.len⟩
  · rw [upd_ne (fun z => by rw [z, n0] at e; cases e)]
    exact I.base.free b u e n hx
  · have q2 := I.base.tups b xs q
    rw [upd_ne (ne_of_none q2 hn)]
    exact q2
  · have q2 := I.base.frzs b u xs q
    rw [upd_ne (ne_of_none q2 hn)]
    exact q2
  · obtain ⟨m, q2⟩ := I.base.tbls b ps q
    exact ⟨m, by rw [upd_ne (ne_of_none q2 hn)]; exact q2⟩
  · rw [upd_ne (Ne.symm nL)]
    exact I.free
  · obtain ⟨v, ob, e1, e2⟩ := I.cell x c e
    have nc : c ≠ a := fun z => by
      rw [z, ha] at e1
      cases e1
      rw [hd] at e2
      cases e2
    rw [upd_ne nc]
    exact I.freeC x c e
  · obtain ⟨e1, e2, e3⟩ := I.pin p hpp
    exact ⟨e1, by rw [upd_ne (hp p hpp)]; exact e2, e3⟩
/-- as wAs of HandS; what is behind the suite knows the exception -/
def wKp (K : PySem.W.Frag) (c : Value) (i : Nat) (ts : Addr → Value → Option Addr → TS) (Wout : WX) (D : Ends) : WX := fun cls d σ H =>
  ∃ b, PySem.W.exmOne K cls c = some b ∧ (b = true → ∀ a, H a = none → ts a cls d { nx := fun σ' H' => D.nx (σ'.set i none) (upd H' a (ExD cls d a)), rt := D.rt, bk := fun σ' H' => D.bk (σ'.set i none) H', ct := fun σ' H' => D.ct (σ'.set i none) H' } (σ.set i (some (.ref a))) H) ∧
    (b = false → Wout cls d σ H)
section
variable {X : Cx} {x n : Str} {c : Value} {i : Nat} {body suite : List Stmt} {b₀ : Stmt} {np pos pos' : Pos} {tb : WX → TS} {ts : Addr → Value → Option Addr → TS} {Wout : WX}
theorem ps_try_kp (hs : X.stack = X.env :: X.outer) (hf : X.env.frame = some X.env.locals) (hex : X.ex = []) (hN : X.N.Nodup) (hi : X.N[i]? = some n) (hln : X.env.kindOf n = some .local) (hc : Names X x c) (tk : Takes X Wout)
    (hb : ∀ (W : WX) (pn : List (Addr × Obj)) (xe : Value → Shared → Prop), Takes (X.tr pn xe) W → PassesOwn (model X.prog X.w) X.A X.env xe → PSs (X.tr pn xe) body (tb W))
    (hsu : ∀ (a : Addr) (oe : Obj) (cls : Value) (d : Option Addr) (pn : List (Addr × Obj)), Zc cls d oe → (∃ vs, oe.data = .fields vs) → PSs (X.suite a ((a, oe) :: pn)) (b₀ :: suite) (ts a cls d)) :
    PS X (.Try body [.ExceptHandler (some (.Name x np)) (some n) (b₀ :: suite) pos'] [] [] pos) (fun D σ H => tb (wKp X.K c i ts Wout D) D σ H) := by
  refine ⟨fun pins s σ H D I h => ?_⟩
  have ok := I.ok
  have hfr : X.A.frames = some (X.env :: X.outer) := by rw [ok.frames, hs]
  have hloc : Loc X.env.scope n := .inl hln
  refine wpAny_Try_except ?_
  refine wpAny_mono ((hb (wKp X.K c i ts Wout D) (X.pn ++ pins) (fun e s₁ => wpAny (model X.prog X.w) X.A (noteFrame e X.env) (fun _ s₂ => wpAny (model X.prog X.w) X.A (setFlight e none) (fun _ s₃ =>
    wpAny (model X.prog X.w) X.A (handleBy e X.env [.ExceptHandler (some (.Name x np)) (some n) (b₀ :: suite) pos']) (SP X pins D) X.xe s₃) X.xe s₂) X.xe s₁) (fun u s' xx => ?_) PassesOwn.looking).run [] s σ H D (I.toTry _) h) (fun f s1 hsp => ?_) (fun e s1 he => he)
  · -- the catch
    obtain ⟨a, B, sI, pins', σ', H', cls, d, rfl, J', nb, up, sky, na, os, ag, b, hb1, hyes, hno⟩ := xx
    have J : Inv X pins σ' H' sI := J'.ofTry ok
    have sky' : Sky B (X.env :: X.outer) a (Zc cls d) X.env.locals s'.heap := by rw [← hs]; exact sky
    show wpAny (model X.prog X.w) X.A (noteFrame (.ref a) X.env) _ _ _
    refine Sky.land Zc.steady hfr hf sky' fun h3 fl3 up3 => ?_
    have J3 : Inv X pins σ' H' { s' with heap := h3 } := J.landed nb fl3.1 (up.trans up3) os ag
    obtain ⟨oe3, vs3, he3, hz3, hd3⟩ := fl3.there
    have notFr : ∀ {h : Heap} {o : Obj} {vs : Array Value}, h.FunFrames B (X.env :: X.outer) → h.get? a = some o → o.data = .fields vs → a ∉ frs (X.env :: X.outer) := fun {h o vs} ff e dd hm => by
      obtain ⟨_, o', e', hnf⟩ := ff.mem hm
      rw [e] at e'; cases e'
      exact hnf _ dd
    have nfr := notFr fl3.2.2.1 he3 hd3
    have nL : a ≠ X.env.locals := fun z => nfr (List.mem_filterMap.mpr ⟨X.env, List.mem_cons_self, by rw [hf, z]⟩)
    have nF : a ∉ X.fs := fun hm => by
      obtain ⟨e, he, q⟩ := List.mem_filterMap.mp hm
      exact nfr (List.mem_filterMap.mpr ⟨e, List.mem_cons_of_mem _ he, q⟩)
    have nI : sI.heap.get? a = none := by
      cases q : sI.heap.get? a with
      | none => rfl
      | some o =>
        have z := nb a o q (by rw [hs]; exact nfr)
        rw [fl3.2.1] at z
        cases z
    have n0 : X.s_0.heap.get? a = none := by
      cases q : X.s_0.heap.get? a with
      | none => rfl
      | some o =>
        obtain ⟨o', z⟩ := J.base.there a o q (by rw [hex]; exact fun z => nomatch z)
        rw [nI] at z
        cases z
    have nP : ∀ p ∈ X.pn ++ pins, p.1 ≠ a := fun p hp z => by
      have q := (J.pin p hp).1
      rw [z, nI] at q
      cases q
    have S3 := J3.suite he3 hd3 na nL nF
    refine wpAny_handleBy_cons (codeAny_handlers_test ?_) (by intro q; cases q)
    have LT : PySem.W.Looks (model X.prog X.w) h3 (typeOf (.ref a)) cls := fun A Q E s k q => wpAny_typeOf_ref (k _ _ he3) (by rw [hz3.1]; exact q)
    have LM := PySem.W.exm_one (M := model X.prog X.w) (J3.kIn) LT hb1
    have test : ∀ {Q : Value → Shared → Prop} {E : Value → Shared → Prop}, Q c { s' with heap := h3 } → wpAny (model X.prog X.w) (X.A.mark (some (.ref a))) (eval (.Name x np) X.env) Q E { s' with heap := h3 } := fun {Q E} q => by
      obtain ⟨hg, hdbg, hm | ⟨hm, hv, hnn⟩⟩ := hc
      · exact ld_glob (X := X.suite a ((a, oe3) :: (X.pn ++ pins))) S3 hg hm q hdbg
      · exact ld_blt (X := X.suite a ((a, oe3) :: (X.pn ++ pins))) S3 hg hm hv q hnn hdbg
    refine test (LM.here ?_)
    cases b with
    | true =>
      refine codeAny_handlers_suite_as ?_
      refine HandSPX.lands_againZ fl3 fun h4 fl4 up4 => ?_
      have J4 : Inv X pins σ' H' { s' with heap := h4 } := J.landed nb fl4.1 ((up.trans up3).trans up4) os ag
      obtain ⟨oe4, vs4, he4, hz4, hd4⟩ := fl4.there
      have S4 := J4.suite he4 hd4 na nL nF
      refine store_ok (X := X.suite a ((a, oe4) :: (X.pn ++ pins))) (v := .ref a) S4 hN hi hloc rfl (fun s5 S5 => ?_) (.inr hln)
      refine wpAny_mono ((hsu a oe4 cls d (X.pn ++ pins) hz4 ⟨_, hd4⟩).run [] s5 _ H' _ S5 (hyes rfl a na)) (fun f s6 hsp => ?_) (fun _ _ z => False.elim z)
      have end_ : ∀ {σ6 : L2.St} {H6 : Hp} {Q : Shared → Prop}, Inv (X.suite a ((a, oe4) :: (X.pn ++ pins))) [] σ6 H6 s6 → (∀ s7, Inv X pins (σ6.set i none) H6 s7 → Q s7) →
          wpAny (model X.prog X.w) X.A (do bindName X.env n .none; unbindBehindTheSuite X.env n pos') (fun _ s7 => Q s7) X.xe s6 := fun {σ6 H6 Q} S6 hq => gone_ok (S6.unsuite ok) hN hi hln hq
      cases f with
      | next =>
        obtain ⟨σ6, H6, S6, q6⟩ := hsp
        obtain ⟨ha6, hn6, _⟩ := S6.pin (a, oe4) (List.mem_append_left _ List.mem_cons_self)
        have T6 : Inv X pins σ6 (upd H6 a (ExD cls d a)) s6 := Inv.track (S6.unsuite ok) ha6 hd4 n0 hn6 nL nP (exD_ok ha6 hz4 hd4)
        exact gone_ok T6 hN hi hln fun s7 J7 => ⟨_, _, J7, q6⟩
      | brk =>
        obtain ⟨σ6, H6, S6, q6⟩ := hsp
        exact end_ S6 fun s7 J7 => ⟨_, _, J7, q6⟩
      | cont =>
        obtain ⟨σ6, H6, S6, q6⟩ := hsp
        exact end_ S6 fun s7 J7 => ⟨_, _, J7, q6⟩
      | ret u =>
        obtain ⟨v6, σ6, H6, S6, r6, q6⟩ := hsp
        exact end_ S6 fun s7 J7 => ⟨_, _, _, J7, r6, q6⟩
    | false =>
      show wpAny _ X.A (handleBy (.ref a) X.env []) _ _ _
      refine wpAny_handleBy_nil ?_
      obtain ⟨k1, k2, k3, oe, vs, T, oT, ts', he, hz, hd, h1, hr⟩ := id fl3
      unfold PySem.passOn
      refine wpAny_bind (wpAny_field he hd h1 ?_)
      rw [if_neg (show ¬ ((Value.ref T == Value.none) = true) from by simp)]
      have fin : wpAny (model X.prog X.w) X.A (setFlight (.ref a) X.env.frame) (fun _ s4 => wpAny (model X.prog X.w) X.A (throw (.ref a) : Sem Flow) (SP X pins D) X.xe s4) X.xe { s' with heap := h3 } := by
        rw [hf]
        refine HandSPX.setFlight_upZ fl3 fun h4 hh4 up4 => wpAny_throw (tk _ _ ?_)
        exact ⟨a, B, sI, pins, σ', H', cls, d, rfl, J, nb, (up.trans up3).trans up4, .inr (.inr (by rw [hs]; exact hh4)), na, os, ag, hno rfl⟩
      first
        | exact wpAny_bind (wpAny_pure (wpAny_bind fin))
        | exact wpAny_bind fin
  · cases f with
    | next =>
      obtain ⟨σ', H', J', q⟩ := hsp
      exact wpAny_execs_nil ⟨σ', H', J'.ofTry ok, q⟩
    | brk =>
      obtain ⟨σ', H', J', q⟩ := hsp
      exact ⟨σ', H', J'.ofTry ok, q⟩
    | cont =>
      obtain ⟨σ', H', J', q⟩ := hsp
      exact ⟨σ', H', J'.ofTry ok, q⟩
    | ret u =>
      obtain ⟨v, σ', H', J', r, q⟩ := hsp
      exact ⟨v, σ', H', J'.ofTry ok, r, q⟩
end
/-! ### try: body / except x as n: kept = n -/
def tryF (o : Fl) (n k i : Nat) (R : List Str) : Fl := match o with
  | .rs c => if c ∈ R then .nx (((List.replicate n Sl.un).set k (.exc c)).set i .un) else .no
  | o => o
@[simp] theorem tryF_nx (ε : Ev) (n k i : Nat) (R : List Str) : tryF (.nx ε) n k i R = .nx ε := rfl
@[simp] theorem tryF_rt (d : D) (n k i : Nat) (R : List Str) : tryF (.rt d) n k i R = .rt d := rfl
@[simp] theorem tryF_rs (c : Str) (n k i : Nat) (R : List Str) : tryF (.rs c) n k i R = if c ∈ R then .nx (((List.replicate n Sl.un).set k (.exc c)).set i .un) else .no := rfl
@[simp] def sTry (n k i : Nat) (R : List Str) (fb : DS) (ε : Ev) : Fl := tryF (fb ε) n k i R
section
variable {X : Cx} {E : XK}
theorem takes0' : Takes X fun _ _ _ _ => False := fun u s' ⟨a, B, sI, pins, σ, H, cls, d, e, I, nb, up, sky, na, os, ag, w⟩ => w.elim
theorem s_try (k i : Nat) {R : List Str} {x n kept : Str} {c : Value} {body : List Stmt} {np pos pos' p1 p2 p3 : Pos} {fb : DS} (hN : X.N.Nodup) (hc : Names X x c) (hR : ∀ r ∈ R, ∃ u, X.mg r = some u ∧ PySem.W.exmOne X.K u c = some true)
    (hb : ∀ (E : XK) (pn : List (Addr × Obj)) (xe : Value → Shared → Prop), TkE (X.tr pn xe) E → PassesOwn (model X.prog X.w) X.A X.env xe → PSsd (X.tr pn xe) E body fb)
    (hs : X.stack = X.env :: X.outer := by rfl) (hf : X.env.frame = some X.env.locals := by rfl) (hex : X.ex = [] := by rfl) (hi : X.N[i]? = some n := by rfl) (hln : X.env.kindOf n = some .local := by rfl)
    (hk : X.N[k]? = some kept := by rfl) (hkl : Loc X.env.scope kept := by first | exact Or.inl rfl | exact Or.inr rfl) (hkf : X.fn kept = true ∨ X.env.scope.names.lookup kept = some .local := by first | exact .inl rfl | exact .inr rfl)
    (hsw : swapsWith (.Name n p2) (some (.Name kept p1)) p3.line X.env = pure false := by rfl) (hv : Vis X.env.scope n := by first | exact Or.inl rfl | exact Or.inr (Or.inl rfl) | exact Or.inr (Or.inr rfl))
    (hd : (n == ("__debug__" : Str)) = false := by decide) (hcd : (n == ("__classdict__" : Str)) = false := by decide) :
    PSd X E (.Try body [.ExceptHandler (some (.Name x np)) (some n) [.Assign [.Name kept p1] (.Name n p2) p3] pos'] [] [] pos) (sTry X.N.length k i R fb) :=
  PS.weak (ps_try_kp (tb := fun W => sD X.w X.K X.mg (EW X W) fb) (ts := fun _ _ _ => tAsg (tVar i) (gName k)) (Wout := fun _ _ _ _ => False) hs hf hex hN hi hln hc takes0'
    (fun W pn xe tk hp => hb (EW X W) pn xe (tkW tk) hp)
    (fun a oe cls d pn hz hfl => pss_one (ps_set hN hk hkl (pe_var hi hv hd hcd) hsw hkf))) fun Dn σ H ⟨G0, H0, ε, G, ev, q⟩ => by
    refine ⟨G0, H0, ε, G, ev, ?_⟩
    unfold sTry tryF at q
    cases hfb : fb ε with
    | rs r =>
      rw [hfb] at q
      dsimp only at q
      split at q
      · rename_i hr
        intro G1 H1 x1 g1 u hu σ1 hl1
        obtain ⟨u', hu', hx⟩ := hR r hr
        rw [hu] at hu'
        cases hu'
        refine ⟨true, hx, fun _ a ha => ?_, fun z => nomatch z⟩
        have hil : i < σ1.length := by rw [hl1]; exact lt_of_get hi
        refine ⟨.ref a, List.getElem?_set_self hil, ?_⟩
        have x2 := x1.trans (Ext.lay (o := ExD u none a) x1.gh ha)
        have e1 : EnvOk X.w X.K X.mg G0 H0 (List.replicate X.N.length .un) (σ1.set i (some (.ref a))) (upd G1 a (ExD u none a)) (upd H1 a (ExD u none a)) := EnvOk.none_ x2 (by rw [List.length_set]; exact hl1)
        have e2 := (e1.setExc (i := k) (a := a) hu upd_same).setUn (i := i) (o := none)
        exact q _ _ _ e2 (g1.trans (Ex.new (x1.gh.back ha)))
      · exact q.elim
    | nx ε' => rw [hfb] at q; exact q
    | rt d => rw [hfb] at q; exact q
    | bk ε' => rw [hfb] at q; exact q
    | ct ε' => rw [hfb] at q; exact q
    | no => rw [hfb] at q; exact q
/-! ### what was kept -/
def isNS : Option Sl → Out D
  | some (.val d) => .ok (.bl (isNon d))
  | some (.own _) => .ok (.bl false)
  | some (.exc _) => .ok (.bl false)
  | _ => .no
@[simp] theorem isNS_val (d : D) : isNS (some (.val d)) = .ok (.bl (isNon d)) := rfl
@[simp] theorem isNS_exc (c : Str) : isNS (some (.exc c)) = .ok (.bl false) := rfl
@[simp] def dIsN (k : Nat) (ε : Ev) : Out D := isNS ε[k]?
theorem isN_of {k : Nat} : ∀ σ H Q, tG X.w X.K X.mg E (rV X.K) (dIsN k) σ H Q → tOp (fun x y H Q => y = .non ∧ Q (.bl (decide (x = .non))) H) (tVar k) (tC .non) σ H Q := fun σ H Q ⟨G0, H0, ε, G, ev, q⟩ => by
  unfold dIsN isNS at q
  split at q
  · rename_i d hd
    obtain ⟨v, h1, r⟩ := ev.val hd
    refine ⟨v, h1, rfl, ?_⟩
    rw [(Vw.v (H := H) r).isN]
    exact q _ G H (Ext.refl ev.gh) (.bl _)
  · rename_i d hd
    obtain ⟨p, vs, h1, _⟩ := ev.own hd
    exact ⟨_, h1, rfl, q _ G H (Ext.refl ev.gh) (.bl _)⟩
  · rename_i c hd
    have h := ev.sl k
    rw [hd] at h
    obtain ⟨a, u, h1, _⟩ := h
    exact ⟨_, h1, rfl, q _ G H (Ext.refl ev.gh) (.bl _)⟩
  · exact q.elim
theorem pt_isN (k : Nat) {x : Str} {p p2 pos : Pos} {j : Nat} (hN : X.N[k]? = some x := by rfl) (hv : Vis X.env.scope x := by first | exact Or.inl rfl | exact Or.inr (Or.inl rfl) | exact Or.inr (Or.inr rfl)) (hd : (x == ("__debug__" : Str)) = false := by decide)
    (hcd : (x == ("__classdict__" : Str)) = false := by decide) : PTt X E (.Compare (.Name x p) [.Is] [.Constant .none j p2] pos) (dTestB (dIsN k)) := PT.weak (pt_cmpR op_isN (pe_var hN hv hd hcd) pe_non rfl) (test_of isN_of)
theorem pd_isN (k : Nat) {x : Str} {p p2 pos : Pos} {j : Nat} (hN : X.N[k]? = some x := by rfl) (hv : Vis X.env.scope x := by first | exact Or.inl rfl | exact Or.inr (Or.inl rfl) | exact Or.inr (Or.inr rfl)) (hd : (x == ("__debug__" : Str)) = false := by decide)
    (hcd : (x == ("__classdict__" : Str)) = false := by decide) : PD X E (.Compare (.Name x p) [.Is] [.Constant .none j p2] pos) (dIsN k) := PE.weak (pe_cmpR op_isN (pe_var hN hv hd hcd) pe_non rfl) isN_of
def rIsX (K : PySem.W.Frag) (u : Value) : List V → Hp → VK → Prop := fun xs H Q => ∃ (a D : Addr) (c : V) (b : Bool), xs = [.ref a, c] ∧ H a = some (ExC (.ref D) a) ∧ ExcC K D ∧ (∀ v, RelV c v → v = u) ∧ PySem.W.kitOne K (.ref D) u = some b ∧ Q (.bl b) H
theorem call_isX {u : Value} : CallR X (.builtin "isinstance") (rIsX X.K u) := by
  intro pins s σ H xs us Q I r h
  obtain ⟨a, D, c, b, rfl, hH, C, hcv, e, q⟩ := h
  cases r with
  | cons rx rr =>
    cases rr with
    | cons rt rr =>
      cases rr
      cases rx
      have ec := hcv _ rt
      subst ec
      obtain ⟨⟨oe, vs, hget, hz, hv⟩, _, _⟩ := I.hok a _ hH
      have J : PySem.W.InstAt s.heap a oe D none := by
        obtain ⟨oc, od, oda, osl⟩ := oe
        obtain ⟨h1, h2⟩ := hz
        dsimp only at h1 h2 hv
        subst h1 h2 hv
        exact ⟨hget, rfl, rfl, trivial⟩
      exact PySem.W.kia_one (PySem.W.handS_kitx_exc C.hg C.hk C.hs C.hd C.ha C.hn C.ht C.hm) I.kIn J e (fun z => nomatch z) fun tk => ⟨.bl b, H, I.kept (t' := tk) fun _ _ z => z, rfl, q⟩
def isXS (tab : List (Str × Bool)) : Option Sl → Out D
  | some (.exc c) => .of ((tab.lookup c).map .bl)
  | _ => .no
@[simp] theorem isXS_exc (tab : List (Str × Bool)) (c : Str) : isXS tab (some (.exc c)) = .of ((tab.lookup c).map .bl) := rfl
@[simp] def dIsX (k : Nat) (tab : List (Str × Bool)) (ε : Ev) : Out D := isXS tab ε[k]?
/-- what isinstance tells of the classes of tab -/
def XTab (K : PySem.W.Frag) (mg : Str → Option Value) (u : Value) (tab : List (Str × Bool)) : Prop := ∀ c b, tab.lookup c = some b → ∃ D, mg c = some (.ref D) ∧ ExcC K D ∧ PySem.W.kitOne K (.ref D) u = some b
theorem isX_of {k : Nat} {tab : List (Str × Bool)} {c : V} {u : Value} (hc : ∀ v, RelV c v → v = u) (ht : XTab X.K X.mg u tab) : ∀ σ H Q, tG X.w X.K X.mg E (rV X.K) (dIsX k tab) σ H Q → tCons (tVar k) (tCons (tC c) tNil) σ H fun vs H1 => rIsX X.K u vs H1 Q := fun σ H Q ⟨G0, H0, ε, G, ev, q⟩ => by
  unfold dIsX isXS at q
  split at q
  · rename_i r hd
    have h := ev.sl k
    rw [hd] at h
    obtain ⟨a, v, h1, h2, h3⟩ := h
    obtain ⟨d, hd', q2⟩ := q.of
    cases hl : tab.lookup r with
    | none => rw [hl] at hd'; cases hd'
    | some b =>
      rw [hl] at hd'
      cases hd'
      obtain ⟨D, e1, e2, e3⟩ := ht r b hl
      rw [h2] at e1
      cases e1
      exact ⟨_, h1, a, D, c, b, rfl, ev.gh _ _ h3, e2, hc, e3, q2 _ G H (Ext.refl ev.gh) (.bl b)⟩
  · exact q.elim
theorem pd_isX (k : Nat) {tab : List (Str × Bool)} {x y : Str} {C : Addr} {p p2 p3 pos : Pos} (hg : Gl X "isinstance") (hm : X.mg "isinstance" = none) (hgy : Gl X y) (hmy : X.mg y = some (.ref C)) (ht : XTab X.K X.mg (.ref C) tab)
    (hN : X.N[k]? = some x := by rfl) (hv : Vis X.env.scope x := by first | exact Or.inl rfl | exact Or.inr (Or.inl rfl) | exact Or.inr (Or.inr rfl)) (hd : (x == ("__debug__" : Str)) = false := by decide)
    (hcd : (x == ("__classdict__" : Str)) = false := by decide) (hdy : (y == ("__debug__" : Str)) = false := by decide)
    (he : starEach [.Name x p2, .Name y p3] X.env = (false, eval (.Name x p2) X.env) :: starEach [.Name y p3] X.env := by rfl) (he2 : starEach [.Name y p3] X.env = (false, eval (.Name y p3) X.env) :: starEach [] X.env := by rfl) (hpl : (backTo pos (starEach [.Name y p3] X.env)).any (·.1) = false := by rfl) :
    PD X E (.Call (.Name "isinstance" p) [.Name x p2, .Name y p3] [] pos) (dIsX k tab) :=
  PE.weak (pe_callB (call_isX (u := .ref C)) hg hm (by decide +kernel) (pa_cons (pe_var hN hv hd hcd) (pa_cons (pe_glob (v := .ref C) hgy hmy rfl hdy) pa_nil he2) he) (by decide) (by decide) he hpl) (isX_of (fun v h => h) ht)
theorem pd_isXB (k : Nat) {tab : List (Str × Bool)} {T : String} {x y : Str} {p p2 p3 pos : Pos} (hg : Gl X "isinstance") (hm : X.mg "isinstance" = none) (hgy : Gl X y) (hmy : X.mg y = none) (hT : bootBuiltins y = some (.type T)) (ht : XTab X.K X.mg (.type T) tab) (hn : y ≠ "__name__" := by decide)
    (hN : X.N[k]? = some x := by rfl) (hv : Vis X.env.scope x := by first | exact Or.inl rfl | exact Or.inr (Or.inl rfl) | exact Or.inr (Or.inr rfl)) (hd : (x == ("__debug__" : Str)) = false := by decide)
    (hcd : (x == ("__classdict__" : Str)) = false := by decide) (hdy : (y == ("__debug__" : Str)) = false := by decide)
    (he : starEach [.Name x p2, .Name y p3] X.env = (false, eval (.Name x p2) X.env) :: starEach [.Name y p3] X.env := by rfl) (he2 : starEach [.Name y p3] X.env = (false, eval (.Name y p3) X.env) :: starEach [] X.env := by rfl) (hpl : (backTo pos (starEach [.Name y p3] X.env)).any (·.1) = false := by rfl) :
    PD X E (.Call (.Name "isinstance" p) [.Name x p2, .Name y p3] [] pos) (dIsX k tab) :=
  PE.weak (pe_callB (call_isX (u := .type T)) hg hm (by decide +kernel) (pa_cons (pe_var hN hv hd hcd) (pa_cons (pe_bltn (v := .ty T) hgy hmy hT rfl hn hdy) pa_nil he2) he) (by decide) (by decide) he hpl) (isX_of (fun v h => h) ht)
end
end PL
namespace PL
open PySem PySem.Spec PyProof.Rows L2
inductive XTabL (K : PySem.W.Frag) (mg : Str → Option Value) (u : Value) : List (Str × Bool) → Prop
  | nil : XTabL K mg u []
  | cons {c : Str} {b : Bool} {t : List (Str × Bool)} : (∃ D, mg c = some (.ref D) ∧ ExcC K D ∧ PySem.W.kitOne K (.ref D) u = some b) → XTabL K mg u t → XTabL K mg u ((c, b) :: t)
theorem xtab_of {K : PySem.W.Frag} {mg : Str → Option Value} {u : Value} {t : List (Str × Bool)} (h : XTabL K mg u t) : XTab K mg u t := by
  induction h with
  | nil => intro c b e; cases e
  | cons h1 _ ih =>
    intro c b e
    rw [List.lookup_cons] at e
    split at e
    · rename_i hc
      cases e
      rw [eq_of_beq hc]
      exact h1
    · exact ih c b e
end PL

set_option Elab.async false
set_option linter.all false
set_option maxRecDepth 100000
set_option maxHeartbeats 2000000
/-! PL10: range with a step (of 6), [..] * n as a new list. -/
namespace PL
open PySem PySem.Spec PyProof.Rows L2
def rngC (lo c : Int) (n : Nat) : List D := (List.range n).map fun (k : Nat) => D.int (lo + k * c)
def szC (a b : Int) : Nat := if a < b then ((b - a - 1) / 6 + 1).toNat else 0
def r3F : D → D → D → Out (List D)
  | .int a, .int b, .int c => if c = 6 ∧ (-1000000 ≤ a ∧ a ≤ 1000000) ∧ -1000000 ≤ b ∧ b ≤ 1000000 then .ok (rngC a 6 (szC a b)) else .no
  | _, _, _ => .no
@[simp] theorem r3F_int (a b c : Int) : r3F (.int a) (.int b) (.int c) = if c = 6 ∧ (-1000000 ≤ a ∧ a ≤ 1000000) ∧ -1000000 ≤ b ∧ b ≤ 1000000 then .ok (rngC a 6 (szC a b)) else .no := rfl
@[simp] def iR3 (f g k : DE) (ε : Ev) : Out (List D) := (f ε).bind fun d => (g ε).bind fun e => (k ε).bind fun c => r3F d e c
theorem it_rngC {K : PySem.W.Frag} {G : Hp} {lo c : Int} {n : Nat} : ItOk K G (Itc lo c n) (rngC lo c n) := fun G2 H2 x1 x2 i => by
  unfold rngC
  refine ⟨fun d hd => ?_, fun hn => ?_⟩
  · have hi : i < n := by simpa using lt_of_get hd
    rw [List.getElem?_map, List.getElem?_range hi] at hd
    cases hd
    refine ⟨hi, fun x H3 y => ?_⟩
    obtain ⟨rfl, rfl⟩ := y
    exact ⟨G2, Ext.refl x2, .int _⟩
  · have := List.getElem?_eq_none_iff.mp hn
    show n ≤ i
    simpa using this
theorem rgc6 {a b : Int} (ha : -1000000 ≤ a ∧ a ≤ 1000000) (hb : -1000000 ≤ b ∧ b ≤ 1000000) : RgC a b 6 (szC a b) := by
  have hs : Builtin.Range.rangeSize a b 6 = (szC a b : Int) := by
    unfold Builtin.Range.rangeSize szC
    rw [if_pos (by decide)]
    split
    · have : 0 ≤ (b - a - 1) / 6 + 1 := by omega
      omega
    · rfl
  refine ⟨by decide, by decide, ?_, hs⟩
  unfold Builtin.Range.small
  rw [hs]
  unfold szC
  simp only [Builtin.Range.rangeFitsLong, Bool.and_eq_true, Bool.or_eq_true, decide_eq_true_eq, beq_iff_eq, show ((6 : Int) > 0) by decide, if_true]
  split <;> omega
section
variable {X : Cx} {E : XK} {e e2 e3 tg : Expr} {f g k : DE} {p pos : Pos}
theorem vw3 {K : PySem.W.Frag} {G H : Hp} {vs : List V} {d e c : D} (h : VwAll K G H vs [d, e, c]) : ∃ v w u, vs = [v, w, u] ∧ Vw K G H v d ∧ Vw K G H w e ∧ Vw K G H u c := by
  cases h with
  | cons h1 h2 =>
    obtain ⟨w, u, rfl, h3, h4⟩ := vw2 h2
    exact ⟨_, _, _, rfl, h1, h3, h4⟩
theorem args3 {α β : Type} {ε : Ev} {mg : Str → Option Value} {G H : Hp} {kk : D → D → D → Out α} {R : α → β → Hp → Hp → Prop} {Q : β → Hp → Prop} {S : List D → List V → Hp → Hp → Prop} {P : List V → Hp → Prop} (q : Post mg E G H ((f ε).bind fun d => (g ε).bind fun e => (k ε).bind fun c => kk d e c) R Q)
    (F : ∀ d e c vs G' H', Ext G H G' H' → S [d, e, c] vs G' H' → Post mg E G' H' (kk d e c) R Q → P vs H') : Post mg E G H (dArgs [f, g, k] ε) S P := by
  unfold dArgs dArgs dArgs dArgs
  cases h : f ε with
  | ok d =>
    rw [h] at q
    simp only [Out.bind] at q ⊢
    cases h2 : g ε with
    | ok e =>
      rw [h2] at q
      dsimp only at q ⊢
      cases h3 : k ε with
      | ok c =>
        rw [h3] at q
        exact fun vs G2 H2 x2 r => F d e c vs G2 H2 x2 r (Post.on (o := kk d e c) q x2)
      | rs c => rw [h3] at q; exact q
      | no => rw [h3] at q; exact q
    | rs c => rw [h2] at q; exact q
    | no => rw [h2] at q; exact q
  | rs c => rw [h] at q; exact q
  | no => rw [h] at q; exact q
theorem pi_r3 (hg : Gl X "range") (hm : X.mg "range" = none) (ha : PAw X E [e, e2, e3] (dArgs [f, g, k])) (hs : starEach [e, e2, e3] X.env = (false, eval e X.env) :: starEach [e2, e3] X.env := by rfl) (hpl : (backTo pos (starEach [e2, e3] X.env)).any (·.1) = false := by rfl) :
    PDI X E tg (.Call (.Name "range" p) [e, e2, e3] [] pos) (iR3 f g k) :=
  PI.weak (pi_range3 hg hm ha hs hpl) fun σ H Q ⟨G0, H0, ε, G, ev, q⟩ => by
    refine ⟨G0, H0, ε, G, ev, args3 q fun d d' d'' vs G1 H1 x1 r q1 => ?_⟩
    obtain ⟨v, v', v'', rfl, w, w', w''⟩ := vw3 r
    unfold r3F at q1
    split at q1
    · split at q1
      · rename_i hn
        obtain ⟨rfl, ha, hb⟩ := hn
        rw [w.int, w'.int, w''.int]
        exact ⟨_, _, _, _, rfl, rgc6 ha hb, q1 _ G1 H1 (Ext.refl x1.gh) it_rngC⟩
      · exact q1.elim
    · exact q1.elim
/-! ### [..] * n -/
def oMulL : D → D → Option (List D)
  | .lst a, .int k => if decide (-1000 ≤ k) && decide (k ≤ 1000) && decide (a.length ≤ 1000) then some (List.replicate k.toNat a).flatten else none
  | _, _ => none
@[simp] theorem oMulL_lst (a : List D) (k : Int) : oMulL (.lst a) (.int k) = if decide (-1000 ≤ k) && decide (k ≤ 1000) && decide (a.length ≤ 1000) then some (List.replicate k.toNat a).flatten else none := rfl
@[simp] def lMul (fa fb : DE) (ε : Ev) : Out (List D) := (fa ε).bind fun a => (fb ε).bind fun b => .of (oMulL a b)
theorem pf_mul (ha : PVw X E e f) (hb : PVw X E e2 g) : PF X E (.BinOp e .Mult e2 pos) (lMul f g) := PE.weak (pe_op op_repR ha hb) fun σ H Q ⟨G0, H0, ε, G, ev, q⟩ => by
  refine ⟨G0, H0, ε, G, ev, PostF.bind q fun d x G1 H1 _ x1 w1 q1 => ?_⟩
  refine ⟨G0, H0, ε, G1, ev.on x1, PostF.bind q1 fun d2 y G2 H2 _ x2 w2 q2 => ?_⟩
  obtain ⟨ds, hd, q3⟩ := q2.of
  unfold oMulL at hd
  split at hd
  · split at hd
    · rename_i hk
      cases hd
      simp only [Bool.and_eq_true, decide_eq_true_eq] at hk
      obtain ⟨⟨h1, h2⟩, h3⟩ := hk
      obtain ⟨a, vs, rfl, s1, r1⟩ := (w1.on x2).lst x2.gh
      refine ⟨a, _, vs, rfl, w2.int, s1, by omega, by omega, ?_, fun p hp => q3 p _ G2 _ (Ext.open_ x2.gh hp) hp upd_same (x2.gh.back hp) (r1.rep _)⟩
      rw [r1.length]
      exact Nat.le_trans (Nat.mul_le_mul h3 (by omega : _ ≤ 1000)) (by decide)
    · cases hd
  · cases hd
end
end PL

set_option Elab.async false
set_option linter.all false
set_option maxRecDepth 100000
set_option maxHeartbeats 2000000
/-! PL11: dicts whose keys are nested tuples. -/
namespace PL
open PySem PySem.Spec PyProof.Rows L2
abbrev DLIM : Nat := 10000000
/-! ### by data -/
def lkD : List (D × D) → D → Option D
  | [], _ => none
  | p :: ps, d => if nkD p.1 = nkD d then some p.2 else lkD ps d
def stD (kvs : List (D × D)) (k v : D) : List (D × D) := if (lkD kvs k).isSome then kvs.map (fun p => if nkD p.1 = nkD k then (p.1, v) else p) else kvs ++ [(k, v)]
section
variable {K : PySem.W.Frag} {G : Hp} {xs : List (NestedKey × Addr × Value)} {kvs : List (D × D)}
theorem DctR.length (r : DctR K G xs kvs) : xs.length = kvs.length := by
  induction r with
  | nil => rfl
  | cons _ _ _ _ _ ih => rw [List.length_cons, List.length_cons, ih]
theorem DctR.mem (r : DctR K G xs kvs) : ∀ x ∈ xs, ∃ d, x.1 = nkD d ∧ keyOk d = true ∧ Rp K G (.ref x.2.1) d := by
  induction r with
  | nil => intro x hx; cases hx
  | cons h1 h2 h3 _ _ ih =>
    intro x hx
    rcases List.mem_cons.mp hx with rfl | hx
    · exact ⟨_, h1, h2, h3⟩
    · exact ih x hx
theorem DctR.none (r : DctR K G xs kvs) (d : D) (h : lkD kvs d = Option.none) : atKey xs (nkD d) = Option.none := by
  induction r with
  | nil => rfl
  | @cons x p xs ps h1 h2 h3 h4 _ ih =>
    unfold lkD at h
    split at h
    · cases h
    · rename_i hne
      have hx : ¬ x.1 = nkD d := by rw [h1]; exact hne
      have := ih h
      unfold atKey at this ⊢
      rw [List.find?_cons, decide_eq_false hx]
      exact this
theorem DctR.some (r : DctR K G xs kvs) (d v : D) (h : lkD kvs d = Option.some v) : ∃ p val, atKey xs (nkD d) = Option.some p ∧ RelV val p.2 ∧ Rp K G val v := by
  induction r with
  | nil => cases h
  | @cons x p xs ps h1 h2 h3 h4 _ ih =>
    unfold lkD at h
    split at h
    · rename_i he
      cases h
      obtain ⟨val, r1, r2⟩ := h4
      refine ⟨x.2, val, ?_, r1, r2⟩
      unfold atKey
      rw [List.find?_cons, decide_eq_true (by rw [h1]; exact he)]
      rfl
    · rename_i hne
      have hx : ¬ x.1 = nkD d := by rw [h1]; exact hne
      obtain ⟨q, val, e1, e2, e3⟩ := ih h
      refine ⟨q, val, ?_, e2, e3⟩
      unfold atKey at e1 ⊢
      rw [List.find?_cons, decide_eq_false hx]
      exact e1
theorem DctR.isSome (r : DctR K G xs kvs) (d : D) : (atKey xs (nkD d)).isSome = (lkD kvs d).isSome := by
  cases h : lkD kvs d with
  | none => rw [r.none d h]; rfl
  | some v =>
    obtain ⟨p, _, e, _⟩ := r.some d v h
    rw [e]
    rfl
theorem DctR.app (r : DctR K G xs kvs) {x : NestedKey × Addr × Value} {p : D × D} (h1 : x.1 = nkD p.1) (h2 : keyOk p.1 = true) (h3 : Rp K G (.ref x.2.1) p.1) (h4 : ∃ v, RelV v x.2.2 ∧ Rp K G v p.2) : DctR K G (xs ++ [x]) (kvs ++ [p]) := by
  induction r with
  | nil => exact .cons h1 h2 h3 h4 .nil
  | cons a b c d _ ih => exact .cons a b c d ih
theorem DctR.stored (r : DctR K G xs kvs) {k v : D} {b : Addr} {val : V} {u : Value} (hk : keyOk k = true) (rk : Rp K G (.ref b) k) (r1 : RelV val u) (r2 : Rp K G val v) : DctR K G (storedH xs (nkD k) b u) (stD kvs k v) := by
  unfold storedH stD
  rw [r.isSome]
  split
  · rename_i hsome
    clear hsome hk rk
    induction r with
    | nil => exact .nil
    | @cons x p xs ps h1 h2 h3 h4 _ ih =>
      rw [List.map_cons, List.map_cons]
      unfold putAt
      by_cases he : nkD p.1 = nkD k
      · rw [if_pos he, if_pos (h1.trans he)]
        exact .cons h1 h2 h3 ⟨val, r1, r2⟩ ih
      · rw [if_neg he, if_neg (by rw [h1]; exact he)]
        exact .cons h1 h2 h3 h4 ih
  · exact r.app rfl hk rk ⟨val, r1, r2⟩
theorem storedH_len (xs : List (NestedKey × Addr × Value)) (k : NestedKey) (a : Addr) (v : Value) : (storedH xs k a v).length ≤ xs.length + 1 := by
  unfold storedH
  split
  · rw [List.length_map]; omega
  · rw [List.length_append, List.length_singleton]; exact Nat.le_refl _
theorem storedH_keys {xs : List (NestedKey × Addr × Value)} (h : (xs.map (·.1)).Nodup) (k : NestedKey) (a : Addr) (v : Value) : ((storedH xs k a v).map (·.1)).Nodup := by
  unfold storedH
  split
  · rw [keys_map_putAt]; exact h
  · rename_i hn
    rw [List.map_append, List.nodup_append]
    refine ⟨h, by simp, fun x hx y hy => ?_⟩
    simp at hy
    subst hy
    intro e
    subst e
    obtain ⟨z, hz, rfl⟩ := List.mem_map.mp hx
    apply hn
    unfold atKey
    rw [Option.isSome_map, List.find?_isSome]
    exact ⟨z, hz, by simp⟩
end
/-! ### in the heap -/
section
variable {X : Cx} {pins : List (Addr × Obj)} {σ : L2.St} {G H : Hp} {s : Shared}
mutual
theorem nested_of (I : Inv X pins σ H s) (e : Ex G H) : ∀ (d : D) (v : V) (u : Value), Rp X.K G v d → RelV v u → nkOk d = true → NestedIs s.heap (nkD d) u
  | .non, _, _, h, r, _ => by cases h; cases r; exact .none
  | .bl b, _, _, h, r, _ => by cases h; cases r; exact .bool rfl
  | .int i, _, _, h, r, _ => by cases h; obtain ⟨t, rfl⟩ := r; exact .int i t
  | .str x, _, _, h, r, _ => by cases h; obtain ⟨t, rfl⟩ := r; exact .text x t
  | .lst _, _, _, _, _, hk => by simp [nkOk] at hk
  | .tup ds, _, _, h, r, hk => by
    cases h with
    | tup hs ha =>
      cases r
      obtain ⟨its, rv, ⟨o, ho, hc, n, hd⟩, _⟩ := I.tuple (ex_t e hs)
      unfold nkD
      exact .tup ho hc hd (nested_all I e ds _ its ha rv (by simpa [nkOk] using hk))
theorem nested_all (I : Inv X pins σ H s) (e : Ex G H) : ∀ (ds : List D) (vs : List V) (us : List Value), RpAll X.K G vs ds → Vals vs us → nkOkAll ds = true → NestedAll s.heap (nkAll ds) us
  | [], _, _, h, r, _ => by
    cases h
    cases r
    exact .nil
  | d :: ds, _, _, h, r, hk => by
    cases h with
    | cons h1 h2 =>
      cases r with
      | cons r1 r2 =>
        simp only [nkOkAll, Bool.and_eq_true] at hk
        exact .cons (nested_of I e d _ _ h1 r1 hk.1) (nested_all I e ds _ _ h2 r2 hk.2)
end
theorem key_is (I : Inv X pins σ H s) (e : Ex G H) {d : D} {v : V} (h : Rp X.K G v d) (hk : keyOk d = true) : ∃ b, v = .ref b ∧ (nestedKind X.prog X.w).is s.heap (nkD d) b := by
  unfold keyOk at hk
  split at hk
  · rename_i ds
    rw [Bool.and_eq_true, decide_eq_true_eq] at hk
    have hh := h
    cases h with
    | tup hs ha => exact ⟨_, rfl, nested_of I e _ _ _ hh rfl (by simpa [nkOk] using hk.1), hk.2⟩
  · cases hk
theorem dct_at {a : Addr} {xs : List (NestedKey × Addr × Value)} {kvs : List (D × D)} (I : Inv X pins σ H s) (e : Ex G H) (hH : H a = some (DctO X.w a xs)) (r : DctR X.K G xs kvs) :
    s.heap.DictOfH (nestedKind X.prog X.w) a xs ∧ xs.length ≤ sizeLine ∧ (a == sysModules) = false := by
  obtain ⟨⟨o, es, ep, ho, hx, hd, he, hn, hz, hm⟩, _, _⟩ := I.hok a _ hH
  refine ⟨⟨o, es, ep, ho, hx, hd, he, fun x hxm => ?_, hn⟩, hz, hm⟩
  obtain ⟨d, e1, e2, e3⟩ := r.mem x hxm
  obtain ⟨b, e4, e5⟩ := key_is I e e3 e2
  cases e4
  rw [e1]
  exact e5
theorem room_n {A : Around} (hu : A.units + 65 < cLine) {P : Program} {w : World} : (nestedKind P w).room A.in1 := by
  show A.units + 1 + 8 < cLine
  omega
theorem dct_ok {P : Program} {w : World} {H : Hp} {h : Heap} {a : Addr} {xs : List (NestedKey × Addr × Value)} (hm : h.DictOfH (nestedKind P w) a xs) (hz : xs.length ≤ sizeLine) (hs : (a == sysModules) = false) : ObjOk P w H h a (DctO w a xs) := by
  obtain ⟨o, es, ep, ho, hx, hd, he, _, hn⟩ := hm
  exact ⟨⟨o, es, ep, ho, hx, hd, he, hn, hz, hs⟩, ⟨o, ho⟩, fun _ _ ⟨o, es, ep, q, r⟩ k => ⟨o, es, ep, k o q, r⟩⟩
end
/-! ### slots -/
section
variable {w : World} {K : PySem.W.Frag} {mg : Str → Option Value} {G0 H0 G H G' H' : Hp} {ε : Ev} {σ : L2.St}
theorem EnvOk.dct {i : Nat} {kvs : List (D × D)} (e : EnvOk w K mg G0 H0 ε σ G H) (h : ε[i]? = some (.dct kvs)) : ∃ a xs, σ[i]? = some (some (.ref a)) ∧ H a = some (DctO w a xs) ∧ G a = none ∧ H0 a = none ∧ DctR K G xs kvs := by
  have := e.sl i; rw [h] at this; exact this
theorem EnvOk.setDct {i : Nat} {p : Addr} (e : EnvOk w K mg G0 H0 ε σ G H) (hH : H p = none) : EnvOk w K mg G0 H0 (ε.set i (.dct [])) (σ.set i (some (.ref p))) G (upd H p (DctO w p [])) := by
  have x1 : Ext G H G (upd H p (DctO w p [])) := Ext.open_ e.gh hH
  have e1 := e.on x1
  refine ⟨e1.ext, by rw [List.length_set, List.length_set]; exact e.len, fun j => ?_, fun j k a ds es hjk h1 h2 h3 h4 => ?_, fun j k a ds es hjk h1 h2 h3 h4 => ?_⟩
  · by_cases hj : i = j
    · subst hj
      by_cases hi : i < ε.length
      · rw [List.getElem?_set_self hi, List.getElem?_set_self (by rw [← e.len]; exact hi)]
        exact ⟨p, [], rfl, upd_same, e.gh.back hH, e.ext.hh.back hH, .nil⟩
      · rw [set_none (l := ε) hi]; trivial
    · rw [List.getElem?_set_ne hj, List.getElem?_set_ne hj]; exact e1.sl j
  · have n1 : i ≠ j := fun z => by
      subst z
      by_cases hi : i < ε.length
      · rw [List.getElem?_set_self hi] at h1; cases h1
      · rw [List.getElem?_eq_none (by rw [List.length_set]; omega)] at h1; cases h1
    have n2 : i ≠ k := fun z => by
      subst z
      by_cases hi : i < ε.length
      · rw [List.getElem?_set_self hi] at h2; cases h2
      · rw [List.getElem?_eq_none (by rw [List.length_set]; omega)] at h2; cases h2
    rw [List.getElem?_set_ne n1] at h1 h3
    rw [List.getElem?_set_ne n2] at h2 h4
    exact e.ap j k a ds es hjk h1 h2 h3 h4
  · have nw : ∀ (j : Nat) (es : List (D × D)), ε[j]? = some (.dct es) → σ[j]? = some (some (.ref p)) → False := fun j es hj hs => by
      obtain ⟨b, xs, e1, e2, _⟩ := e.dct hj
      rw [hs] at e1
      cases e1
      rw [hH] at e2
      cases e2
    by_cases n1 : i = j
    · subst n1
      rw [List.getElem?_set_ne hjk] at h2 h4
      have hi : i < (σ.set i (some (V.ref p))).length := lt_of_get h3
      rw [List.length_set] at hi
      rw [List.getElem?_set_self hi] at h3
      cases h3
      exact nw k es h2 h4
    · rw [List.getElem?_set_ne n1] at h1 h3
      by_cases n2 : i = k
      · subst n2
        have hi : i < (σ.set i (some (V.ref p))).length := lt_of_get h4
        rw [List.length_set] at hi
        rw [List.getElem?_set_self hi] at h4
        cases h4
        exact nw j ds h1 h3
      · rw [List.getElem?_set_ne n2] at h2 h4
        exact e.ad j k a ds es hjk h1 h2 h3 h4
theorem EnvOk.changeD {i : Nat} {a : Addr} {xs xs' : List (NestedKey × Addr × Value)} {kvs kvs' : List (D × D)} (e : EnvOk w K mg G0 H0 ε σ G H) (hi : ε[i]? = some (.dct kvs)) (hs : σ[i]? = some (some (.ref a))) (hH : H a = some (DctO w a xs)) (hG : G a = none) (h0 : H0 a = none)
    (r : DctR K G xs' kvs') : EnvOk w K mg G0 H0 (ε.set i (.dct kvs')) σ G (upd H a (DctO w a xs')) := by
  have hlt := lt_of_get hi
  have gh : Ex G (upd H a (DctO w a xs')) := fun b u hb => by rw [upd_ne (ne_of_none hb hG)]; exact e.gh b u hb
  refine ⟨⟨e.ext.gg, e.ext.hh.mut h0, gh, e.ext.fr⟩, by rw [List.length_set]; exact e.len, fun j => ?_, fun j k b ds1 es hjk h1 h2 h3 h4 => ?_, fun j k b ds1 es hjk h1 h2 h3 h4 => ?_⟩
  · by_cases hj : i = j
    · subst hj
      rw [List.getElem?_set_self hlt]
      exact ⟨a, xs', hs, upd_same, hG, h0, r⟩
    · rw [List.getElem?_set_ne hj]
      have q := e.sl j
      cases hx : ε[j]? with
      | none => trivial
      | some s =>
        rw [hx] at q
        cases s with
        | un => trivial
        | val d => exact q
        | exc c => exact q
        | vdc es =>
          obtain ⟨b, ws, o, e1, e2, e3, e4⟩ := q
          have nb : b ≠ a := fun z => by subst z; rw [h0] at e3; cases e3
          exact ⟨b, ws, o, e1, by rw [upd_ne nb]; exact e2, e3, e4⟩
        | own es =>
          obtain ⟨b, ws, e1, e2, e3, e4, e5⟩ := q
          have nb : b ≠ a := fun z => by subst z; rw [hH] at e2; cases e2
          exact ⟨b, ws, e1, by rw [upd_ne nb]; exact e2, e3, e4, e5⟩
        | dct es =>
          obtain ⟨b, ws, e1, e2, e3, e4, e5⟩ := q
          have nb : b ≠ a := fun z => by subst z; exact e.ad i j b kvs es hj hi hx hs e1
          exact ⟨b, ws, e1, by rw [upd_ne nb]; exact e2, e3, e4, e5⟩
  · have n1 : i ≠ j := fun z => by subst z; rw [List.getElem?_set_self hlt] at h1; cases h1
    have n2 : i ≠ k := fun z => by subst z; rw [List.getElem?_set_self hlt] at h2; cases h2
    rw [List.getElem?_set_ne n1] at h1
    rw [List.getElem?_set_ne n2] at h2
    exact e.ap j k b ds1 es hjk h1 h2 h3 h4
  · have o1 : ∃ d1, ε[j]? = some (.dct d1) := by
      by_cases z : i = j
      · subst z; exact ⟨kvs, hi⟩
      · rw [List.getElem?_set_ne z] at h1; exact ⟨_, h1⟩
    have o2 : ∃ d1, ε[k]? = some (.dct d1) := by
      by_cases z : i = k
      · subst z; exact ⟨kvs, hi⟩
      · rw [List.getElem?_set_ne z] at h2; exact ⟨_, h2⟩
    obtain ⟨d1, o1⟩ := o1
    obtain ⟨d2, o2⟩ := o2
    exact e.ad j k b d1 d2 hjk o1 o2 h3 h4
end
/-! ### rules -/
def dctF {α : Type} (o : Option Sl) (k : List (D × D) → Out α) : Out α := match o with
  | some (.dct kvs) => k kvs
  | _ => .no
@[simp] theorem dctF_dct {α : Type} (kvs : List (D × D)) (k : List (D × D) → Out α) : dctF (some (.dct kvs)) k = k kvs := rfl
theorem dctF_of {α β : Type} {mg : Str → Option Value} {E : XK} {G H : Hp} {R : α → β → Hp → Hp → Prop} {Q : β → Hp → Prop} {o : Option Sl} {k : List (D × D) → Out α} (h : Post mg E G H (dctF o k) R Q) : ∃ kvs, o = some (.dct kvs) ∧ Post mg E G H (k kvs) R Q := by
  unfold dctF at h
  split at h
  · rename_i kvs; exact ⟨kvs, rfl, h⟩
  · exact h.elim
@[simp] def dInD (g : Bool → Bool) (f : DE) (i : Nat) (ε : Ev) : Out D := (f ε).bind fun d => dctF ε[i]? fun kvs => if keyOk d = true then .ok (.bl (g (lkD kvs d).isSome)) else .no
@[simp] def dDGet (i : Nat) (f : DE) (ε : Ev) : Out D := dctF ε[i]? fun kvs => (f ε).bind fun d => if keyOk d = true then .of (lkD kvs d) else .no
@[simp] def dDLen (i : Nat) (ε : Ev) : Out D := dctF ε[i]? fun kvs => .ok (.int kvs.length)
@[simp] def sDct (i : Nat) (ε : Ev) : Fl := .nx (ε.set i (.dct []))
def dctS (o : Option Sl) (k : List (D × D) → Fl) : Fl := match o with
  | some (.dct kvs) => k kvs
  | _ => .no
@[simp] theorem dctS_dct (kvs : List (D × D)) (k : List (D × D) → Fl) : dctS (some (.dct kvs)) k = k kvs := rfl
@[simp] def sDSet (i : Nat) (fk f : DE) (ε : Ev) : Fl := dctS ε[i]? fun kvs => bindS (f ε) fun v => bindS (fk ε) fun k => if keyOk k = true ∧ kvs.length < DLIM then .nx (ε.set i (.dct (stD kvs k v))) else .no
section
variable {X : Cx} {E : XK} {e e2 : Expr} {f fk : DE} {p pos : Pos}
def rInD (w : World) (K : PySem.W.Frag) (g : Bool → Bool) : R2 := fun x y H Q => ∃ G a xs kvs d, Ex G H ∧ Rp K G x d ∧ keyOk d = true ∧ y = .ref a ∧ H a = some (DctO w a xs) ∧ DctR K G xs kvs ∧ Q (.bl (g (lkD kvs d).isSome)) H
theorem op_inD (hu : X.A.units + 65 < cLine) : OpR X (compareOp .In) (rInD X.w X.K id) := by
  intro pins s σ H x y v u Q I rx ry h
  obtain ⟨G, a, xs, kvs, d, eG, r, hk, rfl, hH, dr, q⟩ := h
  obtain ⟨b, rfl, ki⟩ := key_is I eG r hk
  cases rx
  cases ry
  obtain ⟨hm, _, hs⟩ := dct_at I eG hH dr
  refine in_keyed (room_n hu) ki hs ⟨xs, hm, rfl⟩ ?_
  refine ⟨_, H, I.tok _, ?_, q⟩
  show Value.bool _ = _
  rw [valueAt_pairsH, Option.isSome_map, dr.isSome]
  rfl
theorem op_ninD (hu : X.A.units + 65 < cLine) : OpR X (compareOp .NotIn) (rInD X.w X.K not) := by
  intro pins s σ H x y v u Q I rx ry h
  obtain ⟨G, a, xs, kvs, d, eG, r, hk, rfl, hH, dr, q⟩ := h
  obtain ⟨b, rfl, ki⟩ := key_is I eG r hk
  cases rx
  cases ry
  obtain ⟨hm, _, hs⟩ := dct_at I eG hH dr
  refine notIn_keyed (room_n hu) ki hs ⟨xs, hm, rfl⟩ ?_
  refine ⟨_, H, I.tok _, ?_, q⟩
  show Value.bool _ = _
  rw [valueAt_pairsH, Option.isSome_map, dr.isSome]
theorem inD_of {g : Bool → Bool} {i : Nat} : ∀ σ H Q, tG X.w X.K X.mg E (rV X.K) (dInD g f i) σ H Q → tOp (rInD X.w X.K g) (tG X.w X.K X.mg E (rV X.K) f) (tVar i) σ H Q := fun σ H Q ⟨G0, H0, ε, G, ev, q⟩ => by
  refine ⟨G0, H0, ε, G, ev, Post.bind q fun d x G1 H1 _ x1 r1 q1 => ?_⟩
  obtain ⟨kvs, hi, q2⟩ := dctF_of q1
  obtain ⟨a, xs, hs, hH, _, _, dr⟩ := (ev.on x1).dct hi
  split at q2
  · rename_i hk
    exact ⟨_, hs, G1, a, xs, kvs, d, x1.gh, r1, hk, rfl, hH, dr, q2 _ G1 H1 (Ext.refl x1.gh) (.bl _)⟩
  · exact q2.elim
theorem pt_inD (hu : X.A.units + 65 < cLine) (i : Nat) {x : Str} (he : PD X E e f) (hN : X.N[i]? = some x := by rfl) (hv : Vis X.env.scope x := by first | exact Or.inl rfl | exact Or.inr (Or.inl rfl) | exact Or.inr (Or.inr rfl)) (hd : (x == ("__debug__" : Str)) = false := by decide)
    (hcd : (x == ("__classdict__" : Str)) = false := by decide) : PTt X E (.Compare e [.In] [.Name x p] pos) (dTestB (dInD id f i)) := PT.weak (pt_cmpR (op_inD hu) he (pe_var hN hv hd hcd) rfl) (test_of inD_of)
theorem pd_inD (hu : X.A.units + 65 < cLine) (i : Nat) {x : Str} (he : PD X E e f) (hN : X.N[i]? = some x := by rfl) (hv : Vis X.env.scope x := by first | exact Or.inl rfl | exact Or.inr (Or.inl rfl) | exact Or.inr (Or.inr rfl)) (hd : (x == ("__debug__" : Str)) = false := by decide)
    (hcd : (x == ("__classdict__" : Str)) = false := by decide) : PD X E (.Compare e [.In] [.Name x p] pos) (dInD id f i) := PE.weak (pe_cmpR (op_inD hu) he (pe_var hN hv hd hcd) rfl) inD_of
theorem pt_ninD (hu : X.A.units + 65 < cLine) (i : Nat) {x : Str} (he : PD X E e f) (hN : X.N[i]? = some x := by rfl) (hv : Vis X.env.scope x := by first | exact Or.inl rfl | exact Or.inr (Or.inl rfl) | exact Or.inr (Or.inr rfl)) (hd : (x == ("__debug__" : Str)) = false := by decide)
    (hcd : (x == ("__classdict__" : Str)) = false := by decide) : PTt X E (.Compare e [.NotIn] [.Name x p] pos) (dTestB (dInD not f i)) := PT.weak (pt_cmpR (op_ninD hu) he (pe_var hN hv hd hcd) rfl) (test_of inD_of)
theorem pd_ninD (hu : X.A.units + 65 < cLine) (i : Nat) {x : Str} (he : PD X E e f) (hN : X.N[i]? = some x := by rfl) (hv : Vis X.env.scope x := by first | exact Or.inl rfl | exact Or.inr (Or.inl rfl) | exact Or.inr (Or.inr rfl)) (hd : (x == ("__debug__" : Str)) = false := by decide)
    (hcd : (x == ("__classdict__" : Str)) = false := by decide) : PD X E (.Compare e [.NotIn] [.Name x p] pos) (dInD not f i) := PE.weak (pe_cmpR (op_ninD hu) he (pe_var hN hv hd hcd) rfl) inD_of
/-! d[k] -/
def rGetD (w : World) (K : PySem.W.Frag) : R2 := fun x y H Q => ∃ G a xs kvs d v, Ex G H ∧ x = .ref a ∧ Rp K G y d ∧ keyOk d = true ∧ H a = some (DctO w a xs) ∧ DctR K G xs kvs ∧ lkD kvs d = some v ∧ ∀ val, Rp K G val v → Q val H
theorem ix_D (hu : X.A.units + 65 < cLine) : IxR X (rGetD X.w X.K) := by
  intro value slice pins s σ H x y v u Q I rx ry h hs
  obtain ⟨G, a, xs, kvs, d, vd, eG, rfl, r, hk, hH, dr, hl, q⟩ := h
  obtain ⟨b, rfl, ki⟩ := key_is I eG r hk
  cases rx
  cases ry
  obtain ⟨hm, _, _⟩ := dct_at I eG hH dr
  obtain ⟨pp, val, e1, e2, e3⟩ := dr.some d vd hl
  exact tail_any hm.typeIs slot_dict_getitem.lookup (wpAny_getItem_heap (room_n hu) ki hm e1 ⟨val, H, I.tok _, e2, q val e3⟩) hs
theorem pd_getD (hu : X.A.units + 65 < cLine) (i : Nat) {x : Str} (he : PD X E e f) (hN : X.N[i]? = some x := by rfl) (hv : Vis X.env.scope x := by first | exact Or.inl rfl | exact Or.inr (Or.inl rfl) | exact Or.inr (Or.inr rfl)) (hd : (x == ("__debug__" : Str)) = false := by decide)
    (hcd : (x == ("__classdict__" : Str)) = false := by decide) (hs : PlainIx e := by exact fun _ _ => rfl) : PD X E (.Subscript (.Name x p) e pos) (dDGet i f) :=
  PE.weak (pe_ix (ix_D hu) (pe_var hN hv hd hcd) he hs) fun σ H Q ⟨G0, H0, ε, G, ev, q⟩ => by
    obtain ⟨kvs, hi, q⟩ := dctF_of q
    obtain ⟨a, xs, hs, _⟩ := ev.dct hi
    refine ⟨_, hs, G0, H0, ε, G, ev, Post.bind q fun d y G1 H1 _ x1 r1 q1 => ?_⟩
    split at q1
    · rename_i hk
      obtain ⟨v, hl, q2⟩ := q1.of
      obtain ⟨a', xs', hs', hH, _, _, dr⟩ := (ev.on x1).dct hi
      rw [hs] at hs'
      cases hs'
      exact ⟨G1, a, xs', kvs, d, v, x1.gh, rfl, r1, hk, hH, dr, hl, fun val rv => q2 val G1 H1 (Ext.refl x1.gh) rv⟩
    · exact q1.elim
/-! len(d) -/
def rLenD (w : World) (K : PySem.W.Frag) : List V → Hp → VK → Prop := fun vs H Q => ∃ G a xs kvs, vs = [.ref a] ∧ Ex G H ∧ H a = some (DctO w a xs) ∧ DctR K G xs kvs ∧ Q (.int kvs.length) H
theorem call_lenD : CallR X (.builtin "len") (rLenD X.w X.K) := by
  intro pins s σ H xs us Q I r h
  obtain ⟨G, a, ys, kvs, rfl, eG, hH, dr, q⟩ := h
  obtain ⟨u, rfl, rx⟩ := vals1 r
  cases rx
  obtain ⟨hm, hz, hs⟩ := dct_at I eG hH dr
  refine call_len_dictH hs hm (by rw [sizeLine_eq] at hz; omega) ?_
  rw [dr.length]
  exact ⟨.int kvs.length, H, I.tok _, ⟨_, rfl⟩, q⟩
theorem pd_lenD (i : Nat) {x : Str} {p2 : Pos} (hg : Gl X "len") (hm : X.mg "len" = none) (hN : X.N[i]? = some x := by rfl) (hv : Vis X.env.scope x := by first | exact Or.inl rfl | exact Or.inr (Or.inl rfl) | exact Or.inr (Or.inr rfl)) (hd : (x == ("__debug__" : Str)) = false := by decide)
    (hcd : (x == ("__classdict__" : Str)) = false := by decide) (he : starEach [.Name x p2] X.env = (false, eval (.Name x p2) X.env) :: starEach [] X.env := by rfl) : PD X E (.Call (.Name "len" p) [.Name x p2] [] pos) (dDLen i) :=
  PE.weak (pe_callB call_lenD hg hm PySem.boot_len (pa_cons (pe_var hN hv hd hcd) pa_nil he) (by decide) (by decide) he) fun σ H Q ⟨G0, H0, ε, G, ev, q⟩ => by
    obtain ⟨kvs, hi, q⟩ := dctF_of q
    obtain ⟨a, xs, hs, hH, _, _, dr⟩ := ev.dct hi
    exact ⟨_, hs, G, a, xs, kvs, rfl, ev.gh, hH, dr, q _ G H (Ext.refl ev.gh) (.int _)⟩
/-! {} -/
theorem pe_dnewN : PE X (.Dict [] [] pos) (fun _ H Q => ∀ a, H a = none → Q (.ref a) (upd H a (DctO X.w a []))) := ⟨fun pins s σ H Q I h =>
  wpAny_Dict_empty ⟨.ref s.heap.objs.size, _, I.laid (a := s.heap.objs.size) (o := DctO X.w s.heap.objs.size []) (t' := s.toks) (fun _ _ q => Heap.get?_push_of_some _ q) (Nat.le_refl _)
    (dct_ok (Heap.DictOfH.new s.heap) (Nat.zero_le _) (beq_eq_false_iff_ne.mpr (Ne.symm (Nat.ne_of_lt I.big)))), rfl, h _ (I.hok.fresh (Nat.le_refl _))⟩⟩
theorem s_dct (i : Nat) {x : Str} {pos' : Pos} (hN : X.N.Nodup) (hi : X.N[i]? = some x := by rfl) (hx : Loc X.env.scope x := by first | exact Or.inl rfl | exact Or.inr rfl) (hs : swapsWith (.Dict [] [] p) (some (.Name x pos')) pos.line X.env = pure false := by rfl)
    (hf : X.fn x = true ∨ X.env.scope.names.lookup x = some .local := by first | exact .inl rfl | exact .inr rfl) : PSd X E (.Assign [.Name x pos'] (.Dict [] [] p) pos) (sDct i) :=
  PS.weak (ps_set hN hi hx pe_dnewN hs hf) fun Dn σ H ⟨G0, H0, ε, G, ev, q⟩ => fun a ha => q _ G _ (ev.setDct ha) (Ex.refl _)
/-! d[k] = v -/
def rSetD (w : World) (K : PySem.W.Frag) : TSet := fun o i v H Q => ∃ G a xs kvs k vd, Ex G H ∧ o = .ref a ∧ Rp K G i k ∧ keyOk k = true ∧ Rp K G v vd ∧ H a = some (DctO w a xs) ∧ DctR K G xs kvs ∧ kvs.length < DLIM ∧ ∀ xs', DctR K G xs' (stD kvs k vd) → Q (upd H a (DctO w a xs'))
theorem set_D (hu : X.A.units + 65 < cLine) : PSet X (rSetD X.w X.K) := by
  intro pins s σ H o i v ov iv u Q I ro ri rv h
  obtain ⟨G, a, xs, kvs, k, vd, eG, rfl, rk, hk, rvd, hH, dr, hl, q⟩ := h
  obtain ⟨b, rfl, ki⟩ := key_is I eG rk hk
  cases ro
  cases ri
  obtain ⟨hm, hz, hs⟩ := dct_at I eG hH dr
  have dr' := dr.stored hk rk rv rvd
  have hz' : (storedH xs (nkD k) b u).length ≤ sizeLine := by
    have h1 := storedH_len xs (nkD k) b u
    have h2 := dr.length
    rw [sizeLine_eq]
    have : kvs.length < 10000000 := hl
    omega
  refine wpAny_setItem_heap (hsz := hz) (room_n hu) ki hm fun h' hm' sb => ?_
  have hex : ∃ o, h'.get? a = some o := by
    obtain ⟨o, _, _, ho, _⟩ := id hm'
    exact ⟨o, ho⟩
  refine ⟨_, I.write (x := a) (e := a) (o := DctO X.w a (storedH xs (nkD k) b u)) (by rw [hH]; exact trivial) (.inl rfl) (fun c ob hc hob => (sb.2 c hc).trans hob) hex (dct_ok hm' hz' hs), q _ dr'⟩
theorem s_dset (hu : X.A.units + 65 < cLine) (i : Nat) {x : Str} {p2 p3 : Pos} (hk : PD X E e2 fk) (he : PD X E e f) (hN : X.N[i]? = some x := by rfl) (hv : Vis X.env.scope x := by first | exact Or.inl rfl | exact Or.inr (Or.inl rfl) | exact Or.inr (Or.inr rfl))
    (hd : (x == ("__debug__" : Str)) = false := by decide) (hcd : (x == ("__classdict__" : Str)) = false := by decide)
    (ha : ∀ v, assign (.Subscript (.Name x p2) e2 p3) X.env v = (do
      let ov ← holding [v] (eval (.Name x p2) X.env)
      let iv ← holding [v, ov] (eval e2 X.env)
      standAt p3
      holding [v, ov, iv] (setItem ov iv v)
      release [v, ov, iv] []) := by intro _; rfl)
    (hs : swapsWithSole [.Subscript (.Name x p2) e2 p3] e pos.line X.env = pure false := by rfl) (hw : swappedStores [.Subscript (.Name x p2) e2 p3] e X.env = pure none := by rfl)
    (h1 : (assignEach [.Subscript (.Name x p2) e2 p3] X.env).map (·.2) = [assign (.Subscript (.Name x p2) e2 p3) X.env] := by rfl) :
    PSd X E (.Assign [.Subscript (.Name x p2) e2 p3] e pos) (sDSet i fk f) :=
  PS.weak (ps_asg he (pg_sub (pv i hN hv hd hcd) hk (set_D hu) ha) hs hw h1) fun Dn σ H ⟨G0, H0, ε, G, ev, q⟩ => by
    unfold sDSet dctS at q
    split at q
    · rename_i kvs hi
      obtain ⟨a, xs, hs1, _⟩ := ev.dct hi
      refine ⟨G0, H0, ε, G, ev, PostS.bind q ev.ext fun d v G1 H1 _ x1 rv q1 => ?_⟩
      refine ⟨_, hs1, G0, H0, ε, G1, ev.on x1, PostS.bind q1 (ev.on x1).ext fun k y G2 H2 _ x2 rk q2 => ?_⟩
      split at q2
      · rename_i hk
        have ev2 := (ev.on x1).on x2
        obtain ⟨a', xs', hs', hH, hG, h0, dr⟩ := ev2.dct hi
        rw [hs1] at hs'
        cases hs'
        exact ⟨G2, a, xs', kvs, k, d, x2.gh, rfl, rk, hk.1, rv.up x2.gg, hH, dr, hk.2, fun xs2 dr2 => q2 σ G2 _ (ev2.changeD hi hs1 hH hG h0 dr2) (Ex.refl _)⟩
      · exact q2.elim
    · exact q.elim
end
end PL

set_option Elab.async false
set_option linter.all false
set_option maxRecDepth 100000
set_option maxHeartbeats 2000000
/-! PL12: min(list). -/
namespace PL
open PySem PySem.Spec PyProof.Rows L2
def lmin : Int → List Int → Int
  | m, [] => m
  | m, x :: xs => lmin (if x < m then x else m) xs
theorem lmin_le : ∀ (xs : List Int) (m : Int), lmin m xs ≤ m ∧ ∀ x ∈ xs, lmin m xs ≤ x
  | [], m => ⟨Int.le_refl _, fun _ h => (List.not_mem_nil h).elim⟩
  | y :: ys, m => by
    obtain ⟨h1, h2⟩ := lmin_le ys (if y < m then y else m)
    unfold lmin
    refine ⟨?_, fun x hx => ?_⟩
    · split at h1 <;> (split <;> omega)
    · rcases List.mem_cons.mp hx with rfl | hx
      · split at h1 <;> (split <;> omega)
      · exact h2 x hx
theorem lmin_mem : ∀ (xs : List Int) (m : Int), lmin m xs ∈ m :: xs
  | [], m => List.mem_cons_self ..
  | y :: ys, m => by
    have h := lmin_mem ys (if y < m then y else m)
    unfold lmin
    rcases List.mem_cons.mp h with h | h
    · rw [h]
      split
      · exact List.mem_cons_of_mem _ (List.mem_cons_self ..)
      · exact List.mem_cons_self ..
    · exact List.mem_cons_of_mem _ (List.mem_cons_of_mem _ h)
def oMinL : D → Option D
  | .lst ds => (match intsOf ds with
    | some (i :: is) => some (.int (lmin i is))
    | _ => none)
  | _ => none
theorem oMinL_lst (ds : List D) : oMinL (.lst ds) = (match intsOf ds with
    | some (i :: is) => some (.int (lmin i is))
    | _ => none) := rfl
section
variable {X : Cx} {E : XK} {e : Expr} {f : DE} {p pos : Pos}
theorem pd_minL (hc : X.calm = true) (hg : Gl X "min") (hm : X.mg "min" = none) (ha : PAw X E [e] (dArgs [f])) (he : starEach [e] X.env = (false, eval e X.env) :: starEach [] X.env := by rfl) : PD X E (.Call (.Name "min" p) [e] [] pos) (d1 oMinL f) :=
  PE.weak (pe_callB (cr_min hc) hg hm (by decide +kernel) ha (by decide) (by decide) he) fun σ H Q ⟨G0, H0, ε, G, ev, q⟩ => by
    refine ⟨G0, H0, ε, G, ev, args1 q fun d vs G1 H1 x1 r q1 => ?_⟩
    obtain ⟨v, rfl, w⟩ := vw1 r
    obtain ⟨d', hd, q2⟩ := q1.of
    unfold oMinL at hd
    split at hd
    · rename_i ds
      obtain ⟨a, vs, rfl, s1, r1⟩ := w.lst x1.gh
      split at hd
      · rename_i i is hb
        cases hd
        refine ⟨a, i :: is, rfl, rp_ints hb r1 ▸ s1, by simp, fun m h1 h2 => ?_⟩
        have e : m = lmin i is := by
          have l1 := lmin_le is i
          have l2 := h2 _ (lmin_mem is i)
          rcases List.mem_cons.mp h1 with rfl | h1
          · omega
          · have := l1.2 m h1
            omega
        rw [e]
        exact q2 _ G1 H1 (Ext.refl x1.gh) (.int _)
      · cases hd
    · cases hd
end
end PL

set_option Elab.async false
set_option linter.all false
set_option maxRecDepth 100000
set_option maxHeartbeats 2000000
/-! PL13: t[::-1] of a tuple. -/
namespace PL
open PySem PySem.Spec PyProof.Rows L2 HT
section
variable {prog : Program} {w : World} {A : Around} {E : Value → Shared → Prop} {s : Shared}
theorem adjust_back (n : Nat) : Builtin.Slice.sliceAdjust none none (-1) (n : Int) = ((n : Int) - 1, -1) := by
  unfold Builtin.Slice.sliceAdjust
  simp
theorem places_back (n : Nat) : Builtin.Slice.slicePlaces ((n : Int) - 1) (-1) (-1) = n := by
  unfold Builtin.Slice.slicePlaces
  simp
  omega
theorem sliceApplied_back {sl : Addr} {vl vu vs : Value} {n : Nat} {Q : Int × Int × Nat → Shared → Prop} (hs : s.heap.IsSliceOf sl vl vu vs) (pl : IsPart vl none) (pu : IsPart vu none) (ps : IsPart vs (some (-1)))
    (h : Q ((n : Int) - 1, -1, n) s) : wpAny (model prog w) A (Builtin.Slice.sliceApplied (.ref sl) (pure (n : Int))) Q E s := by
  obtain ⟨os, hos, hcs, hds⟩ := id hs
  unfold Builtin.Slice.sliceApplied Builtin.Slice.sliceFields
  refine wpAny_bind (wpAny_bind (wpAny_field hos hds (x := vl) rfl (wpAny_bind (wpAny_field hos hds (x := vu) rfl (wpAny_bind (wpAny_field hos hds (x := vs) rfl (wpAny_pure ?_)))))))
  refine wpAny_bind (slicePart_ ps ?_)
  show wpAny _ _ (if ((-1 : Int) == 0) = true then _ else _) _ _ s
  rw [if_neg (by decide)]
  refine wpAny_bind (slicePart_ pl (wpAny_bind (slicePart_ pu (wpAny_bind (wpAny_pure ?_)))))
  show wpAny _ _ (match Builtin.Slice.sliceAdjust none none (-1) (n : Int) with | (lo, hi) => pure (lo, (-1 : Int), Builtin.Slice.slicePlaces lo hi (-1))) _ _ s
  rw [adjust_back n]
  show wpAny _ _ (pure ((n : Int) - 1, (-1 : Int), Builtin.Slice.slicePlaces ((n : Int) - 1) (-1) (-1))) _ _ s
  rw [places_back]
  exact wpAny_pure h
theorem fm_congr {α β : Type} {f g : α → Option β} : ∀ l : List α, (∀ x ∈ l, f x = g x) → l.filterMap f = l.filterMap g
  | [], _ => rfl
  | x :: l, h => by
    rw [List.filterMap_cons, List.filterMap_cons, h x (List.mem_cons_self ..), fm_congr l fun y hy => h y (List.mem_cons_of_mem _ hy)]
theorem pick_back (xs : List Value) : ((List.range xs.length).filterMap fun (m : Nat) => xs.toArray[(((xs.length : Int) - 1) + (m : Int) * (-1)).toNat]?) = xs.reverse := by
  have e : ∀ m ∈ List.range xs.length, xs.toArray[(((xs.length : Int) - 1) + (m : Int) * (-1)).toNat]? = xs.reverse[m]? := by
    intro m hm
    have hm := List.mem_range.mp hm
    rw [List.getElem?_reverse hm, List.getElem?_toArray]
    congr 1
    omega
  have e2 : ((List.range xs.length).filterMap fun (m : Nat) => xs.toArray[(((xs.length : Int) - 1) + (m : Int) * (-1)).toNat]?) = (List.range xs.length).filterMap fun m => xs.reverse[m]? := by
    exact fm_congr _ e
  rw [e2]
  have hl : xs.length = xs.reverse.length := by simp
  rw [hl]
  generalize xs.reverse = ys
  clear e e2 hl
  induction ys with
  | nil => rfl
  | cons y ys ih =>
    rw [List.length_cons, List.range_succ_eq_map, List.filterMap_cons]
    simp only [List.getElem?_cons_zero, List.filterMap_map]
    congr 1
theorem getItem_tuple_back {t sl : Addr} {items : List Value} {vl vu vs : Value} {Q : Value → Shared → Prop} (ht : IsTup s.heap t items.toArray) (hs : s.heap.IsSliceOf sl vl vu vs) (pl : IsPart vl none) (pu : IsPart vu none) (ps : IsPart vs (some (-1)))
    (h : Q (.ref s.heap.objs.size) { s with heap := s.heap.push { cls := .type "tuple", data := .seq items.reverse.toArray } })
    (hsz : items.length ≤ sizeLine) : wpAny (model prog w) A (getItem (.ref t) (.ref sl)) Q E s := by
  have htake : sizeOk (.seq items.reverse.toArray) := by
    show items.reverse.toArray.size ≤ sizeLine
    rw [List.size_toArray, List.length_reverse]
    exact hsz
  obtain ⟨os, hos, hcs, hds⟩ := id hs
  have hTs : s.TypeIs (.ref sl) "slice" := ⟨os, hos, hcs⟩
  unfold getItem
  try with_reducible refine wpAny_holding ?_
  first | refine wpAny_bind (wpAny_pure ?_) | skip
  refine wpAny_bind (wpAny_sequenceKey ht.typeIs (by decide) ?_)
  refine wpAny_bind (wpAny_callSpecial?_slot (name := Str.ofString "__getitem__") ht.typeIs PyProof.Rows.slot_tuple_getitem
    (wpAny_call_entry PyProof.Rows.slot_tuple_getitem ht.typeIs entry_tuple_getitem ?_ (args_tuple_getitem _ _)))
  show wpAny _ _ (Builtin.Tuple.tupleItemsOf (.ref t) >>= _) _ _ s
  refine wpAny_bind (tupleItemsOf_ ht ?_)
  refine wpAny_bind (wpAny_typeOf hTs ?_)
  rw [if_pos (by decide)]
  refine wpAny_bind (sliceApplied_back (n := items.toArray.size) hs pl pu ps ?_)
  show wpAny _ _ (if ((((items.toArray.size : Nat) : Int) - 1) == 0 && (-1 : Int) == 1 && items.toArray.size == items.toArray.size) = true then _ else _) _ _ s
  rw [if_neg (by simp)]
  rw [List.size_toArray, pick_back]
  first
    | exact wpAny_bind (m := Builtin.Tuple.tupleExact _) (wpAny_newObj_type (wpAny_pure ⟨_, rfl, wpAny_pure h⟩) htake)
    | exact wpAny_bind (m := Builtin.Tuple.tupleExact _) (wpAny_newObj_type (wpAny_bind (wpAny_pure (wpAny_pure ⟨_, rfl, wpAny_pure h⟩))) htake)
    | exact wpAny_bind (wpAny_bind (m := Builtin.Tuple.tupleExact _) (wpAny_newObj_type (wpAny_pure (wpAny_pure ⟨_, rfl, wpAny_pure h⟩)) htake))
    | exact wpAny_bind (wpAny_bind (m := Builtin.Tuple.tupleExact _) (wpAny_newObj_type (wpAny_pure ⟨_, rfl, wpAny_pure h⟩) htake))
end
section
variable {X : Cx}
def tRevT (K : PySem.W.Frag) (te : TE) : TE := fun σ H Q => te σ H fun x H1 => ∃ a xs, x = .ref a ∧ SqT K H1 a xs ∧ ∀ p, H1 p = none → Q (.ref p) (upd H1 p (.tup xs.reverse))
theorem pe_revT {e : Expr} {te : TE} {k : Nat} {p1 p2 p3 pos : Pos} (he : PE X e te) : PE X (.Subscript e (.Slice none none (some (.UnaryOp .USub (.Constant (.int 1) k p1) p2)) p3) pos) (tRevT X.K te) := by
  refine ⟨fun pins s σ H Q I h => ?_⟩
  refine Subscript_ (thn (he.run pins s σ H _ I h) fun v s1 ⟨x, H1, I1, r1, q1⟩ => ?_)
  obtain ⟨a, xs, ex, hx, q⟩ := q1
  subst ex
  cases r1
  have hst : PO X (some (.UnaryOp .USub (.Constant (.int 1) k p1) p2)) (tPart (tUn (rU fun i => .int (-i)) (tC (.int 1)))) := po_some (pe_un un_neg pe_int)
  refine wpAny_Slice (thn (po_none.run pins s1 σ H1 (fun o H2 => o = none ∧ H2 = H1) I1 ⟨rfl, rfl⟩) fun vl s2 ⟨l, H2, I2, pl, el, e2⟩ => ?_)
  subst el e2
  refine thn (po_none.run pins s2 σ H2 (fun o H3 => o = none ∧ H3 = H2) I2 ⟨rfl, rfl⟩) fun vu s3 ⟨u, H3, I3, pu, eu, e3⟩ => ?_
  subst eu e3
  refine thn (hst.run pins s3 σ H3 (fun o H4 => o = some (-1) ∧ H4 = H3) I3 ⟨1, rfl, -1, rfl, rfl, rfl⟩) fun vs s4 ⟨o, H4, I4, ps, eo, e4⟩ => ?_
  subst eo e4
  have I5 : Inv X pins σ H4 { s4 with heap := s4.heap.push { cls := .type "slice", data := .fields #[vl, vu, vs] } } := I4.kept (t' := s4.toks) fun b ob q => Heap.get?_push_of_some _ q
  obtain ⟨its, r, ht, hz⟩ := I5.tuple hx
  have hlen := r.length
  show wpAny (model X.prog X.w) X.A (subscriptTail e (.Slice none none (some (.UnaryOp .USub (.Constant (.int 1) k p1) p2)) p3) (.ref a) (.ref s4.heap.objs.size)) (EP X pins σ Q) X.xe { s4 with heap := s4.heap.push { cls := .type "slice", data := .fields #[vl, vu, vs] } }
  refine tail_any (ops := [.ref a, .ref s4.heap.objs.size]) ht.typeIs (PyProof.Rows.slot_tuple_getitem.lookup) ?_ (by with_unfolding_all rfl)
  refine getItem_tuple_back ht (Heap.IsSliceOf.new _ vl vu vs) pl pu ps ?_ (by omega)
  refine ⟨.ref _, _, I5.laid (t' := s4.toks) (o := .tup xs.reverse) (fun b ob q => Heap.get?_push_of_some _ q) (Nat.le_refl _) ?_, rfl, q _ (I5.hok.fresh (Nat.le_refl _))⟩
  exact ⟨by rw [List.length_reverse]; exact hz, _, r.reverse, ⟨_, Heap.get?_push_size _ rfl, rfl, 0, rfl⟩⟩
def oRevT : D → Option D
  | .tup ds => some (.tup ds.reverse)
  | _ => none
@[simp] theorem oRevT_tup (ds : List D) : oRevT (.tup ds) = some (.tup ds.reverse) := rfl
theorem pd_revT {E : XK} {e : Expr} {f : DE} {k : Nat} {p1 p2 p3 pos : Pos} (he : PVw X E e f) : PD X E (.Subscript e (.Slice none none (some (.UnaryOp .USub (.Constant (.int 1) k p1) p2)) p3) pos) (d1 oRevT f) :=
  PE.weak (pe_revT he) fun σ H Q ⟨G0, H0, ε, G, ev, q⟩ => by
    refine ⟨G0, H0, ε, G, ev, Post.bind q fun d x G1 H1 _ x1 w q1 => ?_⟩
    obtain ⟨d', hd, q2⟩ := q1.of
    unfold oRevT at hd
    split at hd
    · cases hd
      obtain ⟨a, vs, rfl, s1, _, r1⟩ := w.tup x1.gh
      exact ⟨a, vs, rfl, s1, fun p hp => q2 _ _ _ (Ext.lay x1.gh hp) (.tup (.inl (.inl upd_same)) (r1.reverse.up (Ex.new (x1.gh.back hp))))⟩
    · cases hd
end
end PL

set_option Elab.async false
set_option linter.all false
set_option maxRecDepth 100000
set_option maxHeartbeats 2000000
/-! PL14: sorted(list), list(dict). -/
namespace PL
open PySem PySem.Spec PyProof.Rows L2
/-! ### sorted -/
def leD (x y : D) : Bool := PySem.W.dataLe false D.py x y
def tup1 : D → Bool
  | .tup (_ :: _) => true
  | _ => false
def plain1 : D → Bool
  | .non => false
  | .tup _ => false
  | _ => true
def sortOk (ds : List D) : Bool := (ds.all fun d => ds.all fun e => PySem.W.alike d.py e.py) && (ds.all tup1 || ds.all plain1) && ds.all fun d => decide (d.py.depth ≤ 60)
def oSorted : D → Option (List D)
  | .lst ds => if sortOk ds then some (ds.mergeSort leD) else none
  | _ => none
theorem oSorted_lst (ds : List D) : oSorted (.lst ds) = if sortOk ds then some (ds.mergeSort leD) else none := rfl
section
variable {X : Cx} {pins : List (Addr × Obj)} {σ : L2.St} {G H : Hp} {s : Shared}
theorem each_of (I : Inv X pins σ H s) (e : Ex G H) : ∀ {vs : List V} {us : List Value} {ds : List D}, Vals vs us → RpAll X.K G vs ds → PySem.W.EachIs (fun u d => ∃ v, RelV v u ∧ Rp X.K G v d) us ds ∧ PySem.W.EachIs (fun u d => ∃ as, Reads s.heap u (D.py d) as) us ds
  | _, _, _, .nil, h => by
    cases h
    exact ⟨.nil, .nil⟩
  | _, _, _, .cons r rt, h => by
    cases h with
    | cons h1 h2 =>
      obtain ⟨a, b⟩ := each_of I e rt h2
      exact ⟨.cons ⟨_, r, h1⟩ a, .cons (Dp.reads I _ _ _ (Rp.dp _ _ (h1.up e)) r) b⟩
theorem back_of {K : PySem.W.Frag} : ∀ {us : List Value} {ds : List D}, PySem.W.EachIs (fun u d => ∃ v, RelV v u ∧ Rp K G v d) us ds → ∃ vs, Vals vs us ∧ RpAll K G vs ds
  | _, _, .nil => ⟨[], .nil, .nil⟩
  | _, _, .cons ⟨v, r, h⟩ t => by
    obtain ⟨vs, a, b⟩ := back_of t
    exact ⟨v :: vs, .cons r a, .cons h b⟩
theorem sortOk_of {ds : List D} (h : sortOk ds = true) : PySem.W.AllAlike (ds.map D.py) ∧ PySem.W.Sortable (ds.map D.py) ∧ ∀ d ∈ ds, d.py.depth ≤ 60 := by
  unfold sortOk at h
  rw [Bool.and_eq_true, Bool.and_eq_true, Bool.or_eq_true] at h
  obtain ⟨⟨h1, h2⟩, h3⟩ := h
  have h1 := List.all_eq_true.mp h1
  have h3 := List.all_eq_true.mp h3
  refine ⟨fun d hd e he => ?_, ?_, fun d hd => by simpa using h3 d hd⟩
  · obtain ⟨x, hx, rfl⟩ := List.mem_map.mp hd
    obtain ⟨y, hy, rfl⟩ := List.mem_map.mp he
    exact List.all_eq_true.mp (h1 x hx) y hy
  · rcases h2 with h2 | h2
    · refine .inl fun d hd => ?_
      obtain ⟨x, hx, rfl⟩ := List.mem_map.mp hd
      have := List.all_eq_true.mp h2 x hx
      cases x with
      | tup l =>
        cases l with
        | nil => cases this
        | cons y r => exact ⟨_, _, rfl⟩
      | _ => cases this
    · refine .inr fun d hd => ?_
      obtain ⟨x, hx, rfl⟩ := List.mem_map.mp hd
      have := List.all_eq_true.mp h2 x hx
      cases x with
      | tup l => cases this
      | non => cases this
      | _ => exact ⟨(fun z => by simp only [D.py] at z; cases z), (fun xs z => by simp only [D.py] at z; cases z)⟩
end
section
variable {X : Cx} {E : XK} {e : Expr} {f : DE} {p pos : Pos}
def rSortD (K : PySem.W.Frag) : List V → Hp → VK → Prop := fun vs H Q => ∃ G a xs ds, vs = [.ref a] ∧ Ex G H ∧ SqL K H a xs ∧ RpAll K G xs ds ∧ sortOk ds = true ∧ ∀ ys p, RpAll K G ys (ds.mergeSort leD) → H p = none → Q (.ref p) (upd H p (.lst ys))
theorem call_sortD (hu : X.A.units + 65 < cLine) : CallR X (.builtin "sorted") (rSortD X.K) := by
  intro pins s σ H vs us Q I r h
  obtain ⟨G, a, xs, ds, rfl, eG, hs, hr, hok, q⟩ := h
  obtain ⟨its, rv, hl, hz⟩ := I.list hs
  obtain ⟨u, rfl, ru⟩ := vals1 r
  obtain rfl : u = Value.ref a := ru
  obtain ⟨e1, e2⟩ := each_of I eG rv hr
  obtain ⟨o1, o2, o3⟩ := sortOk_of hok
  refine PySem.W.sorted_data (enc := D.py) (R := fun u d => ∃ v, RelV v u ∧ Rp X.K G v d) hl.isList e1 e2 o1 o2 (by rw [← e1.length, ← rv.length]; exact hz) (fun b hb => by have := o3 b hb; omega) fun out ho eo => ?_
  obtain ⟨ys, v1, v2⟩ := back_of eo
  obtain ⟨c, hc⟩ := sortedAll_at s.heap its out.toArray
  have hy : ys.length ≤ sizeLine := by
    have h1 := v1.length
    have h2 := rv.length
    have h3 := e1.length
    omega
  exact ⟨.ref _, _, I.laid (t' := s.toks) (o := .lst ys) (fun _ _ => sortedAll_old) (Nat.le_succ _) ⟨hy, out, c, v1, hc⟩, rfl, q ys _ v2 (I.hok.fresh (Nat.le_succ _))⟩
@[simp] def lSorted (f : DE) (ε : Ev) : Out (List D) := (f ε).bind fun d => .of (oSorted d)
theorem pf_sorted (hu : X.A.units + 65 < cLine) (hg : Gl X "sorted") (hm : X.mg "sorted" = none) (ha : PAw X E [e] (dArgs [f])) (he : starEach [e] X.env = (false, eval e X.env) :: starEach [] X.env := by rfl) : PF X E (.Call (.Name "sorted" p) [e] [] pos) (lSorted f) :=
  PE.weak (pe_callB (call_sortD hu) hg hm (by decide +kernel) ha (by decide) (by decide) he) fun σ H Q ⟨G0, H0, ε, G, ev, q⟩ => by
    refine ⟨G0, H0, ε, G, ev, argsF q fun d vs G1 H1 x1 r q1 => ?_⟩
    obtain ⟨v, rfl, w⟩ := vw1 r
    obtain ⟨ds, hd, q2⟩ := q1.of
    unfold oSorted at hd
    split at hd
    · split at hd
      · rename_i es hok
        cases hd
        obtain ⟨a, vs, rfl, s1, r1⟩ := w.lst x1.gh
        exact ⟨G1, a, vs, es, rfl, x1.gh, s1, r1, hok, fun ys l ry hl => q2 l ys G1 _ (Ext.open_ x1.gh hl) hl upd_same (x1.gh.back hl) ry⟩
      · cases hd
    · cases hd
/-! ### list(d) -/
def rListD (w : World) (K : PySem.W.Frag) : List V → Hp → VK → Prop := fun vs H Q => ∃ G a xs kvs, vs = [.ref a] ∧ Ex G H ∧ H a = some (DctO w a xs) ∧ DctR K G xs kvs ∧ ∀ ys p, RpAll K G ys (kvs.map (·.1)) → H p = none → Q (.ref p) (upd H p (.lst ys))
theorem DctR.keys {K : PySem.W.Frag} {G : Hp} {xs : List (NestedKey × Addr × Value)} {kvs : List (D × D)} (r : DctR K G xs kvs) : RpAll K G (xs.map fun x => V.ref x.2.1) (kvs.map (·.1)) := by
  induction r with
  | nil => exact .nil
  | cons _ _ h _ _ ih => exact .cons h ih
theorem vals_refs (xs : List (NestedKey × Addr × Value)) : Vals (xs.map fun x => V.ref x.2.1) (xs.map fun x => Value.ref x.2.1) := by
  induction xs with
  | nil => exact .nil
  | cons x xs ih => exact .cons rfl ih
theorem call_listD (hc : X.calm = true) : CallR X (.type "list") (rListD X.w X.K) := by
  intro pins s σ H vs us Q I r h
  obtain ⟨G, a, xs, kvs, rfl, eG, hH, dr, q⟩ := h
  obtain ⟨u, rfl, ru⟩ := vals1 r
  obtain rfl : u = Value.ref a := ru
  obtain ⟨hm, hz, hs⟩ := dct_at I eG hH dr
  obtain ⟨es, ep, hraw, hsz, hes⟩ := hm.raw
  refine PySem.W.kdl_call (KdlSrc.rawDict hs) (I.ok.hd hc) hraw (by rw [hsz]; exact hz) fun h' tk acc c hk hS hacc => ?_
  have ea : acc.toList = xs.map fun x => Value.ref x.2.1 := by
    obtain ⟨k1, k2⟩ := hacc
    apply List.ext_getElem?
    intro i
    rw [List.getElem?_map, Array.getElem?_toList]
    by_cases hi : i < es.size
    · obtain ⟨y, y1, y2, _⟩ := hes i hi
      have hia : i < acc.size := by omega
      have g1 : acc[i]? = some acc[i] := Array.getElem?_eq_getElem hia
      obtain ⟨_, g2⟩ := k2 i _ g1
      rw [g1, y1, g2, y2]
      rfl
    · rw [Array.getElem?_eq_none (by omega), List.getElem?_eq_none (by omega)]
      rfl
  refine ⟨.ref _, _, I.laid (t' := tk) (o := .lst (xs.map fun x => V.ref x.2.1)) hk (Nat.le_refl _) ⟨by rw [List.length_map]; exact hz, acc.toList, c, by rw [ea]; exact vals_refs xs, ?_⟩, rfl, q _ _ dr.keys (I.hok.fresh (Nat.le_refl _))⟩
  rw [hS, Array.toArray_toList]
@[simp] def lListD (i : Nat) (ε : Ev) : Out (List D) := dctF ε[i]? fun kvs => .ok (kvs.map (·.1))
theorem dctFF_of {K : PySem.W.Frag} {mg : Str → Option Value} {G H : Hp} {Q : VK} {o : Option Sl} {k : List (D × D) → Out (List D)} (h : PostF K mg E G H (dctF o k) Q) : ∃ kvs, o = some (.dct kvs) ∧ PostF K mg E G H (k kvs) Q := by
  unfold dctF at h
  split at h
  · rename_i kvs; exact ⟨kvs, rfl, h⟩
  · exact h.elim
theorem pf_listD (i : Nat) {x : Str} {p2 : Pos} (hc : X.calm = true) (hg : Gl X "list") (hm : X.mg "list" = none) (hN : X.N[i]? = some x := by rfl) (hv : Vis X.env.scope x := by first | exact Or.inl rfl | exact Or.inr (Or.inl rfl) | exact Or.inr (Or.inr rfl)) (hd : (x == ("__debug__" : Str)) = false := by decide)
    (hcd : (x == ("__classdict__" : Str)) = false := by decide) (he : starEach [.Name x p2] X.env = (false, eval (.Name x p2) X.env) :: starEach [] X.env := by rfl) : PF X E (.Call (.Name "list" p) [.Name x p2] [] pos) (lListD i) :=
  PE.weak (pe_callTy (call_listD hc) hg hm (by decide +kernel) (pa_cons (pe_var hN hv hd hcd) pa_nil he) (by decide) (by decide) he) fun σ H Q ⟨G0, H0, ε, G, ev, q⟩ => by
    obtain ⟨kvs, hi, q⟩ := dctFF_of q
    obtain ⟨a, xs, hs, hH, _, _, dr⟩ := ev.dct hi
    exact ⟨_, hs, G, a, xs, kvs, rfl, ev.gh, hH, dr, fun ys l ry hl => q l ys G _ (Ext.open_ ev.gh hl) hl upd_same (ev.gh.back hl) ry⟩
end
end PL

set_option Elab.async false
set_option linter.all false
set_option maxRecDepth 100000
set_option maxHeartbeats 4000000
/-! PL15: sorted(set(ints)), fresh slices, x[i], x[j] = a, b; x, y = a, []. -/
namespace PL
open PySem PySem.Spec PyProof.Rows L2
/-! ### sets of a few ints -/
theorem int_nodup_len : ∀ (l D : List Int), l.Nodup → (∀ x ∈ l, x ∈ D) → l.length ≤ D.length
  | [], _, _, _ => Nat.zero_le _
  | x :: l, D, hn, hs => by
    obtain ⟨h1, h2⟩ := List.nodup_cons.mp hn
    have hx : x ∈ D := hs x List.mem_cons_self
    have ih := int_nodup_len l (D.erase x) h2 fun y hy => by
      have hne : y ≠ x := fun e => h1 (e ▸ hy)
      exact (List.mem_erase_of_ne hne).2 (hs y (List.mem_cons_of_mem _ hy))
    have e := List.length_erase_of_mem hx
    have hp : 0 < D.length := List.length_pos_of_mem hx
    rw [List.length_cons]
    omega
theorem setR_few {w : World} {h : Heap} {a : Addr} {S : Int → Bool} {n : Nat} (R : SetR w h a S n) {M : List Int} (hM : ∀ k, S k = true → k ∈ M) : n ≤ M.length := by
  obtain ⟨o, es, ep, t, _, _, _, _, nd, hm, _, _, hn, _⟩ := R
  have := int_nodup_len (es.toList.map keyOf) M nd fun x hx => hM x ((hm x).mpr hx)
  rw [List.length_map, Array.length_toList] at this
  omega
section
variable {P : Program} {w : World} {A : Around} {E : Value → Shared → Prop} {s : Shared}
theorem set_update_few {I : Addr} {fp wr : List Addr} {G : Array GenState → Array GenState → Prop} {n : Nat} {Pv : Nat → Value → Prop} {St : Nat → Shared → Prop} {R : Result → Shared → Prop}
    (W : WalksS P w A.in1 I fp wr G n Pv St) (S : Addr) (hSf : S ∉ fp) (ns M : List Int) (hn : n = ns.length) (hM : ∀ k ∈ ns, k ∈ M) (hb : M.length + 1 < scanBound) (hval : ∀ i v, Pv i v → ∃ k t, ns[i]? = some k ∧ v = .int k t) :
    ∀ (k i : Nat) (s : Shared), n - i = k → i ≤ n → St i s → (∃ c, SetR w s.heap S (fun j => decide (j ∈ ns.take i)) c) →
      (∀ s' c, Moved (S :: wr) G s s' → SetR w s'.heap S (fun j => decide (j ∈ ns)) c → R (.ok (.ret .none)) s') →
      codeAny (model P w) A (.builtin "set.update.loop" ⟨[.ref S, .ref I], []⟩) R s := by
  have hSw : S ∉ wr := fun h => hSf (W.sub _ h)
  have hsub : ∀ b ∈ wr, b ∈ S :: wr := fun b hb => List.mem_cons_of_mem _ hb
  intro k
  induction k with
  | zero =>
    intro i s hk' hi hst ⟨c, hS⟩ hR
    have hin : i = n := by omega
    subst hin
    refine codeAny_builtin F.entry_set_update_loop ?_
    rw [Around.under_plainId F.plain_set_update_loop _]
    show wpAny _ A.in1 (pyNext (.ref I) >>= _) _ _ s
    refine wpAny_bind (W.done s _ _ hst fun s' hm => ?_)
    show wpAny _ A.in1 (ret Value.none) _ _ s'
    have e : ns.take i = ns := List.take_of_length_le (by omega)
    rw [e] at hS
    exact wpAny_pure (hR s' c (hm.mono hsub) (hS.at fun o e => hm.heap S o hSw e))
  | succ k ih =>
    intro i s hk' hi hst ⟨c, hS⟩ hR
    have hlt : i < n := by omega
    refine codeAny_builtin F.entry_set_update_loop ?_
    rw [Around.under_plainId F.plain_set_update_loop _]
    show wpAny _ A.in1 (pyNext (.ref I) >>= _) _ _ s
    refine wpAny_bind (W.item i s _ _ hlt hst fun v s' hP hst' hm => ?_)
    obtain ⟨z, t, hz, rfl⟩ := hval i v hP
    have hS' : SetR w s'.heap S (fun j => decide (j ∈ ns.take i)) c := hS.at fun o e => hm.heap S o hSw e
    have hc : c ≤ M.length := setR_few hS' fun k hk => hM k (List.mem_of_mem_take (by simpa using hk))
    show wpAny _ A.in1 (holding [Value.int z t] (setAdd S (.int z t)) >>= _) _ _ s'
    refine wpAny_bind (wpAny_holding ?_)
    unfold setAdd
    refine wpAny_holding ?_
    refine wpAny_bind ((intKind P w).pyHash (k := z) (intKind_is _ _ _ _) ?_)
    refine setR_add_hashed (s := { s' with toks := s'.toks + 1 }) hS' (by omega) fun h' hsb hS2 => ?_
    have hS3 : SetR w h' S (fun j => decide (j ∈ ns.take (i + 1))) (if decide (z ∈ ns.take i) = true then c else c + 1) := hS2.congr fun j => by
      rw [List.take_add_one, hz]
      simp [List.mem_append]
    refine wpAny_pure ⟨plainId_quiet F.plain_set_update_loop _, ih (i + 1) _ (by omega) hlt (W.frame _ s' _ _ hst' (Nat.le_succ _) fun b hb o e => ?_) ⟨_, hS3⟩ fun s'' c2 hm'' hS'' => ?_⟩
    · rw [hsb.2 b (fun h : b = S => hSf (by rw [← h]; exact hb))]; exact e
    · refine hR s'' c2 (Moved.trans W.gtrans ((hm.mono hsub).then_heap (Nat.le_succ _) fun b o hb e => ?_) hm'') hS''
      rw [hsb.2 b (fun h : b = S => hb (by rw [h]; exact List.mem_cons_self))]; exact e
theorem call_set_few {l : Addr} {items : Array Value} (ns M : List Int) {Q : Value → Shared → Prop} (hh : A.handled = none) (hl : s.heap.IsList l items) (hit : IntsAre items.toList ns) (hM : ∀ k ∈ ns, k ∈ M) (hb : M.length + 1 < scanBound)
    (h : ∀ (h' : Heap) (tk c : Nat), SetR w h' s.heap.objs.size (fun j => decide (j ∈ ns)) c → (∀ b o, s.heap.get? b = some o → h'.get? b = some o) → Q (.ref s.heap.objs.size) { s with heap := h', toks := tk }) :
    wpAny (model P w) A (call (.type "set") [.ref l]) Q E s := by
  have hisz : items.size = ns.length := by
    have q := IntsAre.length hit
    rw [Array.length_toList] at q
    exact q
  obtain ⟨c, tl, hmro⟩ := F.called_set.mro
  have hmade := F.called_set.made
  have hsub := F.called_set.sub
  refine wpAny_call (codeAny_of_tree ?_)
  show wpAny _ _ (callAny (.type "set") _) _ _ _
  refine wpAny_pure ⟨Code.quiet_builtin _ (by decide +kernel), codeAny_builtin F.entry_type_call ?_⟩
  rw [Around.under_plain (weight_type_call_type "set" [.ref l] []) rfl]
  have h1 := F.called_set.notType
  have h2 := F.called_set.canCreate
  have hct := F.typeCall_set_1 (.ref l)
  repeat (any_goals (first | assumption | wp_step))
  refine codeAny_mono (code_set_led1 (.ref l) (E := E) (Q₁ := fun obj s₁ => obj = .ref s.heap.objs.size ∧ s₁ = { s with heap := s.heap.push { cls := .type "set", dict := none, data := .set #[] 0 (.fresh 0 0 (!w.params.followText "set-order")) } }) ⟨rfl, rfl⟩) fun r s₁ hr => ?_
  cases r with
  | error e => exact hr
  | ok fl =>
    cases fl with
    | ret obj =>
      obtain ⟨rfl, rfl⟩ := hr
      have hS : (s.heap.push { cls := .type "set", dict := none, data := .set #[] 0 (.fresh 0 0 (!w.params.followText "set-order")) }).get? s.heap.objs.size = some { cls := .type "set", dict := none, data := .set #[] 0 (.fresh 0 0 (!w.params.followText "set-order")) } := Heap.get?_push_size _ rfl
      have hT : Shared.TypeIs { s with heap := s.heap.push { cls := .type "set", dict := none, data := .set #[] 0 (.fresh 0 0 (!w.params.followText "set-order")) } } (.ref s.heap.objs.size) "set" := ⟨_, hS, rfl⟩
      have hli := F.called_set.init.lookup
      have hbi := F.called_set.init.bind (.ref s.heap.objs.size)
      repeat (any_goals (first | assumption | wp_step))
      refine codeAny_mono (codeAny_call_builtin (R := wants (fun r s₂ => r = .none ∧ ∃ h' tk c, s₂ = { s with heap := h', toks := tk } ∧ SetR w h' s.heap.objs.size (fun j => decide (j ∈ ns)) c ∧
          (∀ b o, s.heap.get? b = some o → h'.get? b = some o)) E) F.called_set.init.plain F.entry_set_init (check_set_init_1 hT ?_)) fun r₂ s₂ hr₂ => ?_
      · obtain ⟨ol, hol, hcl, nl, hdl⟩ := hl
        obtain ⟨ocls, odict, odata, oslots⟩ := ol
        simp only at hcl hdl
        subst hcl; subst hdl
        have hol' : (s.heap.push { cls := .type "set", dict := none, data := .set #[] 0 (.fresh 0 0 (!w.params.followText "set-order")) }).get? l = some { cls := .type "list", dict := odict, data := .seq items nl, slots := oslots } := Heap.get?_push_of_some _ hol
        have hsls := F.sub_list_set
        have hslf := F.sub_list_frozenset
        have hne : (Value.type "list" == Value.type "dict") = false := by decide
        have hl1 : (s.heap.push { cls := .type "set", dict := none, data := .set #[] 0 (.fresh 0 0 (!w.params.followText "set-order")) }).IsList l items := ⟨_, hol', rfl, nl, rfl⟩
        unfold Builtin.«set.__init__» noKeywords Builtin.Frozenset.updateFrom
        generalize hPI : pyIter = PI
        wp_walk
        subst hPI
        refine wpAny_pyIter_list hl1 ?_
        refine wpAny_bind (wpAny_runValue ?_)
        have hlS : l < s.heap.objs.size := Heap.lt_size hol
        have hh3 : A.in1.in1.in1.handled = none := by simp [hh]
        have hneI : l ≠ (s.heap.push { cls := .type "set", dict := none, data := .set #[] 0 (.fresh 0 0 (!w.params.followText "set-order")) }).objs.size := by
          rw [Heap.size_push]; exact Nat.ne_of_lt (Nat.lt_succ_of_lt hlS)
        have hSf : s.heap.objs.size ∉ [(s.heap.push { cls := .type "set", dict := none, data := .set #[] 0 (.fresh 0 0 (!w.params.followText "set-order")) }).objs.size, l] := by
          rw [Heap.size_push]; simp only [List.mem_cons, List.mem_singleton, List.not_mem_nil, or_false, not_or]
          exact ⟨Nat.ne_of_lt (Nat.lt_succ_self _), Nat.ne_of_gt hlS⟩
        have hval : ∀ (i : Nat) (v : Value), items[i]? = some v → ∃ k t, ns[i]? = some k ∧ v = .int k t := fun i v hv => by
          have hi : i < ns.length := by rw [← hisz]; exact (Array.getElem?_eq_some_iff.mp hv).1
          obtain ⟨t, e⟩ := PyProof.Rows.IntsAre.int_at hit i v (by rw [Array.getElem?_toList]; exact hv)
          refine ⟨ns[i], t, List.getElem?_eq_getElem hi, ?_⟩
          rw [e, List.getD_eq_getElem?_getD, List.getElem?_eq_getElem hi] <;> rfl
        refine set_update_few ((Walks.list hh3 _ l hneI items).toS) s.heap.objs.size
          hSf ns M hisz hM hb hval (items.size - 0) 0 _ (by omega) (Nat.zero_le _)
          ⟨⟨_, Heap.get?_push_size _ rfl, rfl, rfl⟩, (hl1.push _)⟩ ?hS0 ?hR
        case hS0 =>
          have hget : ((s.heap.push { cls := .type "set", dict := none, data := .set #[] 0 (.fresh 0 0 (!w.params.followText "set-order")) }).push { cls := .type "list_iterator", data := .fields #[.ref l, .int 0 0] }).get? s.heap.objs.size
              = some { cls := .type "set", dict := none, data := .set #[] 0 (.fresh 0 0 (!w.params.followText "set-order")) } := Heap.get?_push_of_some _ hS
          exact ⟨0, setR_new_at hget⟩
        case hR =>
          intro s' c' hm hS'
          obtain ⟨h', g2, d', tk', os'⟩ := s'
          have eg : g2 = s.gens := hm.gens
          have ed : d' = s.drawn := hm.drawn
          have eo : os' = s.os := hm.os
          subst eg; subst ed; subst eo
          show wpAny _ _ _ _ _ _
          refine wpAny_pure ?_
          show wpAny _ _ (ret Value.none) _ _ _
          refine wpAny_pure ⟨rfl, h', tk', c', rfl, hS', fun b o e => ?_⟩
          have hb0 : b < s.heap.objs.size := Heap.lt_size e
          have hb1 : b ≠ s.heap.objs.size := Nat.ne_of_lt hb0
          have hb2 : b ≠ (s.heap.push { cls := .type "set", dict := none, data := .set #[] 0 (.fresh 0 0 (!w.params.followText "set-order")) }).objs.size := by
            rw [Heap.size_push]; exact Nat.ne_of_lt (Nat.lt_succ_of_lt hb0)
          exact hm.heap b o (by simp only [List.mem_cons, List.mem_singleton, List.not_mem_nil, or_false, not_or]; exact ⟨hb1, hb2⟩) (Heap.get?_push_of_some _ (Heap.get?_push_of_some _ e))
      · cases r₂ with
        | error e => exact hr₂
        | ok fl₂ =>
          cases fl₂ with
          | ret r =>
            obtain ⟨rfl, h', tk, c', rfl, hS', hk'⟩ := hr₂
            repeat (any_goals (first | assumption | wp_step))
            exact h _ _ _ hS' hk'
          | _ => exact hr₂.elim
    | _ => exact hr.elim
end
/-! by data -/
def insI (x : Int) : List Int → List Int
  | [] => [x]
  | y :: ys => if x < y then x :: y :: ys else if x = y then y :: ys else y :: insI x ys
def sset (ns : List Int) : List Int := ns.foldr insI []
theorem mem_insI {x k : Int} : ∀ {l : List Int}, k ∈ insI x l ↔ k = x ∨ k ∈ l
  | [] => by simp [insI]
  | y :: ys => by
    unfold insI
    split
    · simp
    · split
      · rename_i e
        subst e
        simp
      · rw [List.mem_cons, mem_insI, List.mem_cons]
        constructor
        · rintro (h | h | h)
          · exact .inr (.inl h)
          · exact .inl h
          · exact .inr (.inr h)
        · rintro (h | h | h)
          · exact .inr (.inl h)
          · exact .inl h
          · exact .inr (.inr h)
theorem insI_lt {x : Int} : ∀ {l : List Int}, l.Pairwise (· < ·) → (insI x l).Pairwise (· < ·)
  | [], _ => List.pairwise_singleton ..
  | y :: ys, h => by
    obtain ⟨h1, h2⟩ := List.pairwise_cons.mp h
    unfold insI
    split
    · rename_i hx
      refine List.pairwise_cons.mpr ⟨fun z hz => ?_, h⟩
      rcases List.mem_cons.mp hz with rfl | hz
      · exact hx
      · have := h1 z hz; omega
    · split
      · exact h
      · refine List.pairwise_cons.mpr ⟨fun z hz => ?_, insI_lt h2⟩
        rcases mem_insI.mp hz with rfl | hz
        · omega
        · exact h1 z hz
theorem mem_sset {k : Int} : ∀ {ns : List Int}, k ∈ sset ns ↔ k ∈ ns
  | [] => by simp [sset]
  | x :: ns => by
    have : sset (x :: ns) = insI x (sset ns) := rfl
    rw [this, mem_insI, mem_sset, List.mem_cons]
theorem sset_lt : ∀ ns : List Int, (sset ns).Pairwise (· < ·)
  | [] => List.Pairwise.nil
  | x :: ns => insI_lt (sset_lt ns)
theorem lt_uniq : ∀ {l m : List Int}, l.Pairwise (· < ·) → m.Pairwise (· < ·) → (∀ k, k ∈ l ↔ k ∈ m) → l = m
  | [], [], _, _, _ => rfl
  | [], y :: m, _, _, h => absurd ((h y).mpr (List.mem_cons_self ..)) (List.not_mem_nil)
  | x :: l, [], _, _, h => absurd ((h x).mp (List.mem_cons_self ..)) (List.not_mem_nil)
  | x :: l, y :: m, hl, hm, h => by
    obtain ⟨l1, l2⟩ := List.pairwise_cons.mp hl
    obtain ⟨m1, m2⟩ := List.pairwise_cons.mp hm
    have e : x = y := by
      have a := (h x).mp (List.mem_cons_self ..)
      have b := (h y).mpr (List.mem_cons_self ..)
      rcases List.mem_cons.mp a with a | a
      · exact a
      · rcases List.mem_cons.mp b with b | b
        · exact b.symm
        · have := l1 y b; have := m1 x a; omega
    subst e
    rw [lt_uniq l2 m2 fun k => ?_]
    have hk := h k
    rw [List.mem_cons, List.mem_cons] at hk
    constructor
    · intro z
      rcases hk.mp (.inr z) with e | e
      · subst e; have := l1 k z; omega
      · exact e
    · intro z
      rcases hk.mpr (.inr z) with e | e
      · subst e; have := m1 k z; omega
      · exact e
theorem sset_congr {l m : List Int} (h : ∀ k, k ∈ l ↔ k ∈ m) : sset l = sset m := lt_uniq (sset_lt l) (sset_lt m) fun k => by rw [mem_sset, mem_sset]; exact h k
def fewI (ns : List Int) : Bool := ns.all fun k => decide (0 ≤ k) && decide (k < 60)
def oSset : D → Option (List D)
  | .lst ds => (match intsOf ds with
    | some ns => if fewI ns then some ((sset ns).map .int) else none
    | none => none)
  | _ => none
theorem oSset_lst (ds : List D) : oSset (.lst ds) = (match intsOf ds with
    | some ns => if fewI ns then some ((sset ns).map .int) else none
    | none => none) := rfl
theorem rp_intsL {K : PySem.W.Frag} {G : Hp} : ∀ ns : List Int, RpAll K G (ns.map V.int) (ns.map D.int)
  | [] => .nil
  | n :: ns => .cons (.int n) (rp_intsL ns)
section
variable {X : Cx} {E : XK} {e e2 : Expr} {f g : DE} {p p2 pos pos2 : Pos}
@[simp] def lSset (f : DE) (ε : Ev) : Out (List D) := (f ε).bind fun d => .of (oSset d)
def rSetFew (w : World) (K : PySem.W.Frag) : List V → Hp → VK → Prop := fun vs H Q => ∃ a ns, vs = [.ref a] ∧ SqL K H a (ns.map V.int) ∧ fewI ns = true ∧ ∀ p n, H p = none → n < 64 → Q (.ref p) (upd H p (SetO w p (fun j => decide (j ∈ ns)) n))
def M60 : List Int := (List.range 60).map fun (k : Nat) => (k : Int)
theorem few_M {ns : List Int} (h : fewI ns = true) : ∀ k ∈ ns, k ∈ M60 := fun k hk => by
  have := List.all_eq_true.mp h k hk
  rw [Bool.and_eq_true, decide_eq_true_eq, decide_eq_true_eq] at this
  unfold M60
  exact List.mem_map.mpr ⟨k.toNat, List.mem_range.mpr (by omega), by omega⟩
theorem call_setFew (hc : X.calm = true) : CallR X (.type "set") (rSetFew X.w X.K) := by
  intro pins s σ H vs us Q I r h
  obtain ⟨a, ns, rfl, hs, hf, q⟩ := h
  obtain ⟨u, rfl, ru⟩ := vals1 r
  obtain rfl : u = Value.ref a := ru
  obtain ⟨its, rv, hl, hz⟩ := I.list hs
  have hM : M60.length = 60 := by decide
  refine call_set_few ns M60 (I.ok.hd hc) hl.isList (by simpa using ints_of_vals rv) (few_M hf) (by rw [hM]; decide) fun h' tk c R hk => ?_
  have hcl : c ≤ 60 := by
    rw [← hM]
    exact setR_few R fun k hk => few_M hf k (by simpa using hk)
  exact ⟨.ref _, upd H s.heap.objs.size (SetO X.w s.heap.objs.size (fun j => decide (j ∈ ns)) c), I.laid (t' := tk) hk (Nat.le_refl _) (setO_new R), rfl, q _ c (I.hok.fresh (Nat.le_refl _)) (by omega)⟩
theorem pf_sset (hc : X.calm = true) (hg : Gl X "sorted") (hm : X.mg "sorted" = none) (hg2 : Gl X "set") (hm2 : X.mg "set" = none) (ha : PAw X E [e] (dArgs [f])) (he : starEach [e] X.env = (false, eval e X.env) :: starEach [] X.env := by rfl)
    (he2 : starEach [.Call (.Name "set" p2) [e] [] pos2] X.env = (false, eval (.Call (.Name "set" p2) [e] [] pos2) X.env) :: starEach [] X.env := by rfl) :
    PF X E (.Call (.Name "sorted" p) [.Call (.Name "set" p2) [e] [] pos2] [] pos) (lSset f) :=
  PE.weak (pe_callB (cr_sortedSet hc) hg hm (by decide +kernel) (pa_cons (pe_callTy (call_setFew hc) hg2 hm2 (by decide +kernel) ha (by decide) (by decide) he) pa_nil he2) (by decide) (by decide) he2) fun σ H Q ⟨G0, H0, ε, G, ev, q⟩ => by
    refine ⟨G0, H0, ε, G, ev, argsF q fun d vs G1 H1 x1 r q1 => ?_⟩
    obtain ⟨v, rfl, w⟩ := vw1 r
    obtain ⟨ds, hd, q2⟩ := q1.of
    unfold oSset at hd
    split at hd
    · rename_i ds0
      obtain ⟨a, vs, rfl, s1, r1⟩ := w.lst x1.gh
      split at hd
      · rename_i ns hb
        split at hd
        · rename_i hf
          cases hd
          refine ⟨a, ns, rfl, rp_ints hb r1 ▸ s1, hf, fun l n hl hn => ?_⟩
          refine ⟨l, _, n, rfl, upd_same, hn, fun ns' l2 h1 h2 _ hl2 => ?_⟩
          have e1 : ns' = sset ns := lt_uniq h1 (sset_lt ns) fun k => by rw [mem_sset, h2]; simp
          subst e1
          have x2 : Ext G1 H1 G1 (upd H1 l (SetO X.w l (fun j => decide (j ∈ ns)) n)) := Ext.open_ x1.gh hl
          have x3 := Ext.open_ (o := .lst ((sset ns).map V.int)) x2.gh hl2
          exact q2 l2 _ G1 _ (x2.trans x3) (x2.hh.back hl2) upd_same (x2.gh.back hl2) (rp_intsL _)
        · cases hd
      · cases hd
    · cases hd
/-! ### xs[a:b], a new list that may be changed -/
def lstL (l : D) (k : List D → Out (List D)) : Out (List D) := match l with
  | .lst ds => k ds
  | _ => .no
@[simp] theorem lstL_lst (ds : List D) (k : List D → Out (List D)) : lstL (.lst ds) k = k ds := rfl
@[simp] def lSl (fa : DE) (lo hi : Option DE) (ε : Ev) : Out (List D) := (fa ε).bind fun a => (dPart lo ε).bind fun l => (dPart hi ε).bind fun h => lstL a fun ds => .ok (cut ds l h)
theorem pf_sl {a : Expr} {fa : DE} {lo hi : Option Expr} {fl fh : Option DE} (ha : PVw X E a fa) (hl : PPt X E lo (dPart fl)) (hh : PPt X E hi (dPart fh)) : PF X E (.Subscript a (.Slice lo hi none p2) pos) (lSl fa fl fh) :=
  PE.weak (pe_slice sl_list ha hl hh) fun σ H Q ⟨G0, H0, ε, G, ev, q⟩ => by
    refine ⟨G0, H0, ε, G, ev, PostF.bind q fun p x G1 H1 _ x1 w1 q1 => ?_⟩
    refine ⟨G0, H0, ε, G1, ev.on x1, PostF.bind q1 fun l l' G2 H2 _ x2 e2 q2 => ?_⟩
    cases e2
    refine ⟨G0, H0, ε, G2, (ev.on x1).on x2, PostF.bind q2 fun h h' G3 H3 _ x3 e3 q3 => ?_⟩
    cases e3
    have w3 := (w1.on x2).on x3
    cases p with
    | lst ds =>
      obtain ⟨u, vs, rfl, s1, r1⟩ := w3.lst x3.gh
      exact ⟨u, vs, rfl, s1, fun p hp => q3 p _ G3 _ (Ext.open_ x3.gh hp) hp upd_same (x3.gh.back hp) (r1.cut l h)⟩
    | _ => exact q3.elim
/-! ### x, y = a, [..]: y a list of its own -/
@[simp] def sParO (i j : Nat) (f : DE) (g : Ev → Out (List D)) (ε : Ev) : Fl := bindS (f ε) fun d => bindS (g ε) fun ds => .nx ((ε.set i (.val d)).set j (.own ds))
theorem s_parO (i j : Nat) {x y : Str} {a b : Expr} {g : Ev → Out (List D)} {px py pt : Pos} {kt k2 pt2} (hc : X.calm = true) (hN : X.N.Nodup) (ha : PD X E a f) (hb : PF X E b g)
    (hi : X.N[i]? = some x := by rfl) (hj : X.N[j]? = some y := by rfl) (hij : i ≠ j := by decide) (hx : X.env.scope.names.lookup x = some .local := by rfl) (hy : X.env.scope.names.lookup y = some .local := by rfl)
    (na : starEach [a, b] X.env = (false, eval a X.env) :: starEach [b] X.env := by rfl) (nb : starEach [b] X.env = (false, eval b X.env) :: starEach [] X.env := by rfl)
    (hw : swappedStores [.Tuple [.Name x px, .Name y py] kt pt] (.Tuple [a, b] k2 pt2) X.env = pure (some [x, y]) := by rfl) (hs : swapsWithSole [.Tuple [.Name x px, .Name y py] kt pt] (.Tuple [a, b] k2 pt2) pos.line X.env = pure false := by rfl) :
    PSd X E (.Assign [.Tuple [.Name x px, .Name y py] kt pt] (.Tuple [a, b] k2 pt2) pos) (sParO i j f g) :=
  PS.weak (ps_par hc hN hi hj hij hx hy (pa_cons ha (pa_cons hb pa_nil nb) na) hw hs) fun Dn σ H ⟨G0, H0, ε, G, ev, q⟩ => by
    refine ⟨G0, H0, ε, G, ev, PostS.bind q ev.ext fun d v G1 H1 _ x1 r q1 => ?_⟩
    refine ⟨G0, H0, ε, G1, ev.on x1, PostS.bindF q1 (ev.on x1).ext fun ds p vs G2 H2 x2 h1 h2 h3 r2 q2 => ?_⟩
    exact ⟨v, .ref p, rfl, q2 _ G2 H2 (own_new ((ev.on x1).setVal r) x2 h1 h2 h3 r2) (Ex.refl _)⟩
/-! ### x[i], x[j] = a, b -/
def tup2F (d : D) (k : D → D → Fl) : Fl := match d with
  | .tup [a, b] => k a b
  | _ => .no
@[simp] theorem tup2F_tup (a b : D) (k : D → D → Fl) : tup2F (.tup [a, b]) k = k a b := rfl
@[simp] def sSub2 (i : Nat) (fk fk' f : DE) (ε : Ev) : Fl := ownS i (fun ε ds => bindS (f ε) fun d => tup2F d fun a b => bindS (fk ε) fun k => subF k ds.length fun j =>
  bindS (fk' (ε.set i (.own (ds.set j a)))) fun k' => subF k' ds.length fun j' => .nx ((ε.set i (.own (ds.set j a))).set i (.own ((ds.set j a).set j' b)))) ε
theorem s_sub2 (i : Nat) {x : Str} {e3 : Expr} {fk fk' fe : DE} {q2 q3 q4 q5 pt : Pos} {kt : Nat} (hc : X.calm = true) (hk : PVw X E e2 fk) (hk' : PVw X E e3 fk') (he : PD X E e fe) (hN : X.N[i]? = some x := by rfl) (hv : Vis X.env.scope x := by first | exact Or.inl rfl | exact Or.inr (Or.inl rfl) | exact Or.inr (Or.inr rfl))
    (hd : (x == ("__debug__" : Str)) = false := by decide) (hcd : (x == ("__classdict__" : Str)) = false := by decide)
    (ha : ∀ v, assign (.Subscript (.Name x q2) e2 q3) X.env v = (do
      let ov ← holding [v] (eval (.Name x q2) X.env)
      let iv ← holding [v, ov] (eval e2 X.env)
      standAt q3
      holding [v, ov, iv] (setItem ov iv v)
      release [v, ov, iv] []) := by intro _; rfl)
    (ha' : ∀ v, assign (.Subscript (.Name x q4) e3 q5) X.env v = (do
      let ov ← holding [v] (eval (.Name x q4) X.env)
      let iv ← holding [v, ov] (eval e3 X.env)
      standAt q5
      holding [v, ov, iv] (setItem ov iv v)
      release [v, ov, iv] []) := by intro _; rfl)
    (c1 : (assignEach [.Subscript (.Name x q2) e2 q3, .Subscript (.Name x q4) e3 q5] X.env).map (·.2) = assign (.Subscript (.Name x q2) e2 q3) X.env :: (assignEach [.Subscript (.Name x q4) e3 q5] X.env).map (·.2) := by rfl)
    (c2 : (assignEach [.Subscript (.Name x q4) e3 q5] X.env).map (·.2) = assign (.Subscript (.Name x q4) e3 q5) X.env :: (assignEach [] X.env).map (·.2) := by rfl)
    (hn : (assignEach [.Subscript (.Name x q2) e2 q3, .Subscript (.Name x q4) e3 q5] X.env).length = 2 := by rfl) (hst : (assignEach [.Subscript (.Name x q2) e2 q3, .Subscript (.Name x q4) e3 q5] X.env).findIdx? (·.1) = none := by rfl)
    (hs : swapsWithSole [.Tuple [.Subscript (.Name x q2) e2 q3, .Subscript (.Name x q4) e3 q5] kt pt] e pos.line X.env = pure false := by rfl) (hw : swappedStores [.Tuple [.Subscript (.Name x q2) e2 q3, .Subscript (.Name x q4) e3 q5] kt pt] e X.env = pure none := by rfl)
    (h1 : (assignEach [.Tuple [.Subscript (.Name x q2) e2 q3, .Subscript (.Name x q4) e3 q5] kt pt] X.env).map (·.2) = [assign (.Tuple [.Subscript (.Name x q2) e2 q3, .Subscript (.Name x q4) e3 q5] kt pt) X.env] := by rfl) :
    PSd X E (.Assign [.Tuple [.Subscript (.Name x q2) e2 q3, .Subscript (.Name x q4) e3 q5] kt pt] e pos) (sSub2 i fk fk' fe) :=
  PS.weak (ps_asg he (pg_tup hc (pgs_cons (pg_sub (pv i hN hv hd hcd) hk set_list ha) (pgs_cons (pg_sub (pv i hN hv hd hcd) hk' set_list ha') pgs_nil c2) c1) hn hst) hs hw h1) fun Dn σ H ⟨G0, H0, ε, G, ev, q⟩ => by
    obtain ⟨ds, hi, q⟩ := ownS_of (P := PostS X.w X.K X.mg E G0 H0 G Dn) q id
    obtain ⟨a, vs, hs1, hH, hG, h0, r⟩ := ev.own hi
    refine ⟨G0, H0, ε, G, ev, PostS.bind q ev.ext fun d v G1 H1 _ x1 rv q1 => ?_⟩
    unfold tup2F at q1
    split at q1
    · rename_i d1 d2 _
      obtain ⟨l, us, rfl, s1, r1⟩ : ∃ l us, v = V.ref l ∧ SqT X.K G1 l us ∧ RpAll X.K G1 us [d1, d2] := by
        cases rv with
        | tup hs ha => exact ⟨_, _, rfl, hs, ha⟩
      cases r1 with
      | cons ra r1 => cases r1 with
        | cons rb r1 =>
          cases r1
          refine ⟨l, _, rfl, ex_t x1.gh s1, rfl, _, _, rfl, ?_⟩
          refine ⟨_, hs1, G0, H0, ε, G1, ev.on x1, PostS.bind q1 (ev.on x1).ext fun k w G2 H2 _ x2 rw q2 => ?_⟩
          cases k with
          | int k =>
            dsimp only [subF] at q2
            split at q2
            · rename_i j hj
              have x12 := x1.trans x2
              refine ⟨a, vs, k, j, rfl, rw.int, x12.hh _ _ hH, by rw [r.length]; exact hj, ?_⟩
              have ev2 := ((ev.on x1).on x2).change hi hs1 (x12.hh _ _ hH) (x12.fr _ _ hH hG) h0 ((r.up x12.gg).set (ra.up x2.gg) j)
              have hi2 : (ε.set i (Sl.own (ds.set j d1)))[i]? = some (Sl.own (ds.set j d1)) := List.getElem?_set_self (lt_of_get hi)
              obtain ⟨a', vs', hs2, hH2, hG2, h02, r2⟩ := ev2.own hi2
              refine ⟨_, _, rfl, ?_⟩
              refine ⟨_, hs2, G0, H0, _, G2, ev2, PostS.bind q2 ev2.ext fun k2 w2 G3 H3 _ x3 rw2 q3 => ?_⟩
              cases k2 with
              | int k2 =>
                dsimp only [subF] at q3
                split at q3
                · rename_i j2 hj2
                  refine ⟨a', vs', k2, j2, rfl, rw2.int, x3.hh _ _ hH2, by rw [r2.length, List.length_set]; exact hj2, rfl, ?_⟩
                  exact q3 σ G3 _ ((ev2.on x3).change hi2 hs2 (x3.hh _ _ hH2) (x3.fr _ _ hH2 hG2) h02 ((r2.up x3.gg).set ((rb.up x2.gg).up x3.gg) j2)) (Ex.refl _)
                · exact q3.elim
              | _ => exact q3.elim
            · exact q2.elim
          | _ => exact q2.elim
    · exact q1.elim
end
end PL

set_option Elab.async false
set_option linter.all false
set_option maxRecDepth 100000
set_option maxHeartbeats 4000000
/-! PL16: an exception that leaves a list comprehension. -/
namespace PL
open PySem PySem.Spec PyProof.Rows L2
/-- in the air of X, over the frame whose block is L -/
def XF (X : Cx) (E : XK) (L : Addr) (u : Value) (z : Shared) : Prop :=
  ∃ (a : Addr) (B : Heap) (y : Shared) (pins : List (Addr × Obj)) (σ : L2.St) (H : Hp) (cls : Value) (d : Option Addr), u = .ref a ∧ Inv X pins σ H y ∧
    (∀ b o, y.heap.get? b = some o → b ∉ frs X.stack → B.get? b = some o) ∧ y.heap.UpToSlots z.heap ∧ Sky B X.stack a (Zc cls d) L z.heap ∧ H a = none ∧ z.os = y.os ∧ AllBare z.gens ∧ E cls d H
structure TkF (X : Cx) (E : XK) : Prop where
  x : ∃ (fr : Env) (out : List Env) (L : Addr), X.stack = fr :: out ∧ fr.frame = some L ∧ X.env.frame = some L ∧ ∀ u z, XF X E L u z → X.xe u z
theorem tkf {X : Cx} {E : XK} (tk : Takes X (fun cls d _ H => E cls d H)) (hs : X.stack = X.env :: X.outer) (hf : X.env.frame = some X.env.locals) : TkF X E :=
  ⟨X.env, X.outer, X.env.locals, hs, hf, hf, fun u z h => tk u z h⟩
theorem tkfW {X : Cx} {pn : List (Addr × Obj)} {xe : Value → Shared → Prop} {W : WX} (tk : Takes (X.tr pn xe) W) (hs : X.stack = X.env :: X.outer) (hf : X.env.frame = some X.env.locals) : TkF (X.tr pn xe) (EW X W) :=
  ⟨X.env, X.outer, X.env.locals, hs, hf, hf, fun u z ⟨a, B, y, pins, σ, H, cls, d, e, I, r⟩ => tk u z ⟨a, B, y, pins, σ, H, cls, d, e, I, r.1, r.2.1, r.2.2.1, r.2.2.2.1, r.2.2.2.2.1, r.2.2.2.2.2.1, r.2.2.2.2.2.2 σ I.len⟩⟩
theorem TkF.e {X : Cx} {E : XK} (t : TkF X E) : TkE X E := fun σ pins H s u z I c => by
  obtain ⟨fr, out, L, _, _, _, tk⟩ := t.x
  have fl := c
  obtain ⟨a0, B0, _, _, _, e0, ⟨_, _, _, ⟨oe0, vs0, T0, oT0, ts0, g1, _, g3, g4, _, _, g7, g8, g9⟩⟩, _⟩ := fl
  have key := XE.of_call (W := fun cls d _ H => E cls d H) I (fun _ _ _ h => h) c
  obtain ⟨a, B, y, pins', σ', H', cls, d, e1, I', nb, up, sky, na, os, ag, w⟩ := key
  rw [e0] at e1
  cases e1
  refine tk u z ⟨a0, B, y, pins', σ', H', cls, d, e0, I', nb, up, ?_, na, os, ag, w⟩
  rcases sky with ⟨_, _, _, oe, vs, k1, _, k3, k4⟩ | f | ⟨_, _, _, ⟨oe, vs, T, oT, ts, k1, _, k3, k4, _, _, k7, k8, k9⟩⟩
  · rw [g1] at k1
    cases k1
    rw [g3] at k3
    cases k3
    rw [g4] at k4
    cases k4
  · exact .inr (.inl f)
  · rw [g1] at k1
    cases k1
    rw [g3] at k3
    cases k3
    rw [g4] at k4
    cases k4
    rw [g7] at k7
    cases k7
    rw [g8] at k8
    cases k8
    rw [g9] at k9
    simp [rawInt] at k9
/-- a comprehension's block; what leaves it -/
abbrev Cx.blkX (X : Cx) (s : Shared) (H : Hp) (scope : Scope) (ce : Env) (fp : List Addr) (xe : Value → Shared → Prop) : Cx := { X.blk s H scope ce fp with xe := xe }
theorem Inv.onX {X : Cx} {pins : List (Addr × Obj)} {σ : L2.St} {H : Hp} {s : Shared} (xe : Value → Shared → Prop) (I : Inv X pins σ H s) : Inv { X with xe := xe } pins σ H s :=
  ⟨⟨I.ok.mod, I.ok.kind, I.ok.glob, I.ok.blt, I.ok.above, I.ok.inj, I.ok.has, I.ok.cab, I.ok.hd, I.ok.frames, I.ok.stk, I.ok.exf, I.ok.bs, I.ok.bsz, I.ok.noex, I.ok.exfs, I.ok.funs, I.ok.frf⟩, I.os, I.bare, I.base, I.loc, I.cell, I.free, I.freeC, I.pin, I.hok, I.len⟩
theorem ns_same {h h' : Heap} {C : Addr} {m : Str → Option Value} {Z : Obj → Prop} {B : Heap} {a : Addr} {fl : Value} (hn : h.Ns C m) (sb : Heap.SameBut C h h') (t : HandSPX.TracedZ h B a Z fl) : HandSPX.TracedZ h' (PySem.W.hideAll B [C]) a Z fl := by
  obtain ⟨oe, vs, T, oT, ts, k1, k2, k3, k4, k5, k6, k7, k8, k9⟩ := t
  obtain ⟨oC, es, ep, c1, c2, _⟩ := hn
  have nC : ∀ {b : Addr} {o : Obj} {us : Array Value}, h.get? b = some o → o.data = .fields us → b ≠ C := fun q r z => by
    rw [z, c1] at q
    cases q
    rw [c2] at r
    cases r
  refine ⟨oe, vs, T, oT, ts, (sb.2 a (nC k1 k3)).trans k1, k2, k3, k4, ?_, k6, (sb.2 T (nC k7 k8)).trans k7, k8, k9⟩
  cases q : (PySem.W.hideAll B [C]).get? T with
  | none => rfl
  | some o => rw [PySem.W.of_hideAll _ q] at k5; cases k5
section
variable {X : Cx} {E : XK}
theorem blk_tk (t : TkF X E) {pins : List (Addr × Obj)} {σ : L2.St} {H3 : Hp} {s3 : Shared} {scope : Scope} {ce : Env} {fp : List Addr} (I3 : Inv X pins σ H3 s3) (hfp : ∀ b ∈ fp, FpOk X pins H3 b) (hC : ce.locals = s3.heap.objs.size) (hF : ce.frame = X.env.frame) :
    TkF (Cx.blkX X s3 H3 scope ce fp (notedBy (model X.prog X.w) X.A ce (fun e z => CompFails (model X.prog X.w) X.A X.xe ce e z))) E := by
  obtain ⟨fr, out, L, hs, hf, hL, tk⟩ := t.x
  refine ⟨fr, out, L, hs, hf, hF.trans hL, fun u z h => ?_⟩
  obtain ⟨a, B, y, pb, σb, H, cls, d, rfl, J, nb, up, sky, na, os, ag, w⟩ := h
  have hfr : X.A.frames = some (fr :: out) := by rw [I3.ok.frames, hs]
  have sky : Sky B (fr :: out) a (Zc cls d) L z.heap := by rw [← hs]; exact sky
  obtain ⟨m, hn, _⟩ := J.loc
  have hn : y.heap.Ns ce.locals m := hn
  have nCf : ce.locals ∉ frs X.stack := fun hm => by
    obtain ⟨_, o, q, _⟩ := I3.stack.mem hm
    have := Heap.lt_size q
    rw [hC] at this
    exact Nat.lt_irrefl _ this
  -- behind the note
  have fin : ∀ h1, HandSPX.HeldZ B (fr :: out) a (Zc cls d) L h1 → z.heap.UpToSlots h1 → CompFails (model X.prog X.w) X.A X.xe ce (.ref a) { z with heap := h1 } := by
    intro h1 hh up1
    have hn1 : h1.Ns ce.locals m := up1.ns (up.ns hn)
    refine ⟨m, hn1, fun h2 m2 hn2 sb => ?_⟩
    obtain ⟨b1, b2, b3, b4⟩ := hh
    have hB' : ∀ b o, (PySem.W.hideAll B [ce.locals]).get? b = some o → B.get? b = some o ∧ b ≠ ce.locals := fun b o q => ⟨PySem.W.of_hideAll _ q, fun e => by
      rw [e, PySem.W.hideAll_none _ (List.mem_singleton.mpr rfl)] at q
      cases q⟩
    have frn : ∀ L' ∈ frs (fr :: out), (PySem.W.hideAll B [ce.locals]).get? L' = none := fun L' hm => by
      obtain ⟨q1, _⟩ := b3.mem hm
      cases q : (PySem.W.hideAll B [ce.locals]).get? L' with
      | none => rfl
      | some o => rw [(hB' _ _ q).1] at q1; cases q1
    have held : HandSPX.HeldZ (PySem.W.hideAll B [ce.locals]) (fr :: out) a (Zc cls d) L h2 := by
      refine ⟨fun b o q => ?_, ?_, ?_, ns_same hn1 sb b4⟩
      · obtain ⟨q1, q2⟩ := hB' b o q
        exact (sb.2 b q2).trans (b1 b o q1)
      · cases q : (PySem.W.hideAll B [ce.locals]).get? a with
        | none => rfl
        | some o => rw [(hB' _ _ q).1] at b2; cases b2
      · exact funFrames_none (Heap.FunFrames.sameBut sb hn2 b3) frn
    obtain ⟨oe, vs, T, oT, ts, k1, _, k3, k4, _⟩ := held.2.2.2
    unfold PySem.passOn
    refine wpAny_bind (wpAny_field k1 k3 k4 ?_)
    rw [if_neg (by simp), show ce.frame = some L from hF.trans hL]
    refine wpAny_bind (HandSPX.setFlight_onZ held fun h3 held3 up3 => wpAny_throw ?_)
    have back : ∀ b o, (PySem.W.hideAll y.heap [ce.locals]).get? b = some o → y.heap.get? b = some o ∧ b ≠ ce.locals := fun b o q => ⟨PySem.W.of_hideAll _ q, fun e => by
      rw [e, PySem.W.hideAll_none _ (List.mem_singleton.mpr rfl)] at q
      cases q⟩
    have stay : ∀ b o, y.heap.get? b = some o → b ≠ ce.locals → (PySem.W.hideAll y.heap [ce.locals]).get? b = some o := fun b o q n => PySem.W.hideAll_get _ q (by simpa using n)
    have old : ∀ b o, s3.heap.get? b = some o → b ≠ ce.locals := fun b o q e => by
      have := Heap.lt_size q
      rw [e, hC] at this
      exact Nat.lt_irrefl _ this
    have hfree : H ce.locals = none := J.free
    have J0 : Inv X pins σ H { y with heap := PySem.W.hideAll y.heap [ce.locals] } := by
      refine I3.call' (ch := fp) (s' := { y with heap := PySem.W.hideAll y.heap [ce.locals] }) J.os ⟨fun b o q n nf nx => ?_, fun b o q n nf nx => ?_, fun b o q n nx => J.base.free b o q n nx, fun b o q nx => ?_, J.base.tups, J.base.frzs, J.base.tbls⟩ ?_ J.bare
        fun b hb => ⟨(hfp b hb).2.2.2.1, (hfp b hb).2.1, (hfp b hb).2.2.2.2.1, (hfp b hb).2.2.2.2.2⟩
      · exact stay _ _ (J.base.keep b o q n nf nx) (old b o q)
      · obtain ⟨sl, r⟩ := J.base.slot b o q n nf nx
        exact ⟨sl, stay _ _ r (old b o q)⟩
      · obtain ⟨o', r⟩ := J.base.there b o q nx
        exact ⟨o', stay _ _ r (old b o q)⟩
      · intro b o q
        refine (J.hok b o q).stay (fun c r hc rr => stay c r rr fun e => ?_) (fun _ r => r) fun _ _ r => r
        rcases hc with hc | hc
        · rw [← hc, e, hfree] at q; cases q
        · rw [e, hfree] at hc; cases hc
    refine tk (.ref a) _ ⟨a, PySem.W.hideAll B [ce.locals], { y with heap := PySem.W.hideAll y.heap [ce.locals] }, pins, σ, H, cls, d, rfl, J0, fun b o q hb => ?_, fun b o q nf => ?_, .inr (.inr (by rw [hs]; exact held3)), na, os, ag, w⟩
    · obtain ⟨q1, q2⟩ := back b o q
      exact PySem.W.hideAll_get _ (nb b o q1 hb) (by simpa using q2)
    · obtain ⟨q1, q2⟩ := back b o q
      obtain ⟨s1, r1⟩ := up b o q1 nf
      obtain ⟨s2, r2⟩ := up1 b _ r1 nf
      obtain ⟨s4, r4⟩ := up3 b _ ((sb.2 b q2).trans r2) nf
      exact ⟨s4, r4⟩
  show wpAny (model X.prog X.w) X.A (noteFrame (.ref a) ce) _ _ z
  rw [noteFrame_env _ (show ce.frame = fr.frame by rw [hF, hL, hf])]
  rcases sky with ⟨k1, k2, k3, oe, vs, k4, k5, k6, k7⟩ | k | k
  · exact HandSPX.look_newZ Zc.steady hfr k3 hf k4 k1 k2 k6 k7 k5 fin
  · exact HandSPX.looks_onZ Zc.steady hfr hf k fin
  · exact HandSPX.againZ hf k.2.2.2 (fin z.heap k (Heap.UpToSlots.refl _))
end
end PL

set_option Elab.async false
set_option linter.all false
set_option maxRecDepth 100000
set_option maxHeartbeats 4000000
/-! PL17: list comprehensions whose element may raise. -/
namespace PL
open PySem PySem.Spec PyProof.Rows L2
section
variable {X : Cx} {E : XK}
theorem pe_lcX {el tg it : Expr} {ifs : List Expr} {sc : Scope} {own : List (Str × Nat)} {pos : Pos} {wi : TI} {g : TG} {tt : TT} {te : TE} (hc : X.calm = true) (hN : X.N.Nodup) (tk : TkF X E) (hi : PI X tg it wi) (ok : BlkOk X.N X.env.scope sc own)
    (hg : ∀ (s : Shared) (H : Hp) (C : Addr) (cl : List (Str × Addr)) (fp : List Addr) (xe : Value → Shared → Prop), PG (Cx.blkX X s H sc (compEnvC sc cl C X.env) fp xe) tg g)
    (ht : ∀ (s : Shared) (H : Hp) (C : Addr) (cl : List (Str × Addr)) (fp : List Addr) (xe : Value → Shared → Prop), PTs (Cx.blkX X s H sc (compEnvC sc cl C X.env) fp xe) ifs tt)
    (he : ∀ (s : Shared) (H : Hp) (C : Addr) (cl : List (Str × Addr)) (fp : List Addr) (xe : Value → Shared → Prop), TkF (Cx.blkX X s H sc (compEnvC sc cl C X.env) fp xe) E → PE (Cx.blkX X s H sc (compEnvC sc cl C X.env) fp xe) el te)
    (hs : ∀ x, foldedSetIterable it X.env x = pure x := by intro _; rfl) : PE X (.ListComp el [⟨tg, it, ifs, 0⟩] sc pos) (tLc wi g tt te (own.map (·.2))) := by
  refine ⟨fun pins s σ H Q I h => ?_⟩
  rw [eval_ListComp]
  have clo : ∀ y ∈ sc.names, y.2 = .free → ∃ c, X.env.cells.lookup y.1 = some c := fun y hy e =>
    (ok.free y hy e).elim (fun k => I.ok.has _ (.inl k)) fun k => I.ok.has _ (.inr k)
  refine comprehension_at (use := none) (cl := _) rfl hs (closure_ok clo) ok.kind (fun y hy e => by rw [ok.uniq y hy, e]) ?_
  refine thn (hi.run pins s σ H _ I h) fun _ _ q0 => thn q0 fun itv sA q1 => ?_
  obtain ⟨i0, fp, tn, J, HA, e0, IA, T, stA, fA, q⟩ := q1
  subst e0
  refine wpAny_newObj_type (newEnv_comp ?_) (Nat.zero_le _)
  generalize hD : sA.heap.objs.size = D
  have nD : HA D = none := IA.hok.fresh (Nat.le_of_eq hD)
  obtain ⟨W, ⟨m0, w0⟩, turn⟩ := q D nD
  generalize eB : ({ sA with heap := sA.heap.push { cls := .type "list", data := .seq ([] : List Value).toArray } } : Shared) = sB
  have hB : sB.heap = sA.heap.push { cls := .type "list", data := .seq ([] : List Value).toArray } := by rw [← eB]
  have IB : Inv X pins σ (upd HA D (.lst [])) sB := by
    rw [← eB]
    refine IA.laid (t' := sA.toks) (fun b o r => Heap.get?_push_of_some _ r) (Nat.le_of_eq hD) ⟨Nat.zero_le _, [], 0, .nil, ?_⟩
    rw [← hD]
    exact Heap.get?_push_size _ rfl
  have lt : ∀ b ∈ fp, b < sA.heap.objs.size := fun b hb => (T.obj _ _ stA b hb).elim fun o r => Heap.lt_size r.1
  have fB : ∀ b ∈ fp, FpOk X pins (upd HA D (.lst [])) b ∧ b < sB.heap.objs.size := fun b hb => by
    have l1 := lt b hb
    refine ⟨⟨?_, (fA b hb).2⟩, by rw [hB, Heap.size_push]; exact Nat.lt_succ_of_lt l1⟩
    rw [upd_ne (by rw [← hD]; exact Nat.ne_of_lt l1)]
    exact (fA b hb).1
  have stB : tn 0 sB.heap := T.keep _ _ _ stA fun b _ o r => by rw [hB]; exact Heap.get?_push_of_some _ r
  have IC := block_start IB ok hN fB
  generalize hcl : cellsFrom (sB.heap.objs.size + 1) sc.names (cloFrom X.env.cells sc.names []) = cl at IC
  have tkb := blk_tk (scope := sc) (ce := compEnvC sc cl sB.heap.objs.size X.env) (fp := fp) tk IB (fun b hb => (fB b hb).1) rfl rfl
  show codeAny _ _ (.compStart (.ListComp el [⟨tg, it, ifs, 0⟩] sc pos) 0 (.ref i0) (.ref D) (compEnvC sc cl sB.heap.objs.size X.env))
    (compEnds (model X.prog X.w) X.A X.xe none (EP X pins σ Q) (.ref D) (compEnvC sc cl sB.heap.objs.size X.env)) { sB with heap := pushCells (sB.heap.push { cls := .type "dict", data := .dict #[] }) sc.names }
  generalize hce : compEnvC sc cl sB.heap.objs.size X.env = ce at IC tkb ⊢
  have ceL : ce.locals = sB.heap.objs.size := by rw [← hce]; rfl
  generalize hXE : notedBy (model X.prog X.w) X.A ce (fun e z => CompFails (model X.prog X.w) X.A X.xe ce e z) = xe at tkb
  have pg := hg sB (upd HA D (.lst [])) sB.heap.objs.size cl fp xe
  have pt := ht sB (upd HA D (.lst [])) sB.heap.objs.size cl fp xe
  have pe := he sB (upd HA D (.lst [])) sB.heap.objs.size cl fp xe
  rw [hce] at pg pt pe
  have pe := pe tkb
  have nB : ∀ b ∈ fp, (upd HA D (.lst [])) b = none := fun b hb => (fB b hb).1.1
  generalize upd HA D (.lst []) = HB at *
  have IC := Inv.onX xe IC
  generalize eC : ({ sB with heap := pushCells (sB.heap.push { cls := .type "dict", data := .dict #[] }) sc.names } : Shared) = sC at IC ⊢
  have stC : tn 0 sC.heap := T.keep _ _ _ stB fun b _ o r => by rw [← eC]; exact pushCells_keeps _ _ _ _ (Heap.get?_push_of_some _ r)
  have still : ∀ {ρ : L2.St} {K : Hp} {z : Shared}, Inv (Cx.blkX X sB HB sc ce fp xe) [] ρ K z → (∀ b ∈ fp, K b = none) → ∀ b ∈ fp, FpOk (Cx.blkX X sB HB sc ce fp xe) [] K b := fun {ρ K z} I' hn b hb =>
    ⟨hn b hb, (I'.ok.exf b hb).1, I'.ok.exfs b hb, .inl hb, fun x c r => (I'.ok.exf b hb).2 x c r, fun p hp => absurd (show p ∈ ([] : List (Addr × Obj)) ++ [] from hp) (by simp)⟩
  have loop : codeAny (model X.prog X.w) X.A (.compLoop (.ListComp el [⟨tg, it, ifs, 0⟩] sc pos) 0 (.ref i0) (.ref D) ce) (compEnds (model X.prog X.w) X.A X.xe none (EP X pins σ Q) (.ref D) ce) sC := by
    refine compLoop_any (fun n z => ∃ i K, Inv (Cx.blkX X sB HB sc ce fp xe) [] (wipe σ (own.map (·.2))) K z ∧ tn i z.heap ∧ (∀ b ∈ fp, K b = none) ∧ W i n K) ?_ m0 ⟨0, HB, IC, stC, nB, w0⟩
    rintro n z ⟨i, K, Iz, stz, nz, wz⟩
    have away : ∀ {α : Type} {t : Sem α} {P P' : α → Shared → Prop} {z : Shared}, wpAny (model X.prog X.w) X.A t P xe z → (∀ a z, P a z → P' a z) → wpAny (model X.prog X.w) X.A t P' (notedBy (model X.prog X.w) X.A ce fun e z' => compEnds (model X.prog X.w) X.A X.xe none (EP X pins σ Q) (.ref D) ce (.error e) z') z :=
      fun h hp => wpAny_mono h hp fun e z' r => by rw [← hXE] at r; exact r
    rcases turn i n K wz with ⟨stop, qq⟩ | ⟨go, Nx, hNx, step⟩
    · refine thnF (T.done (Cx.blkX X sB HB sc ce fp xe) rfl rfl rfl hc i [] z _ K (fun _ _ => False) Iz (still Iz nz) stz stop) fun r y ⟨hr, Iy⟩ => ?_
      subst hr
      have Ix : Inv X pins σ K y := IB.call' (ch := fp) Iy.os Iy.base Iy.hok Iy.bare fun b hb => ⟨(fB b hb).1.2.2.2.1, (fB b hb).1.2.1, (fB b hb).1.2.2.2.2.1, (fB b hb).1.2.2.2.2.2⟩
      have nC : K sB.heap.objs.size = none := by rw [← ceL]; exact Iy.free
      obtain ⟨m, hn, _⟩ := Iy.loc
      have hn : y.heap.Ns ce.locals m := hn
      obtain ⟨f0, f1, f2, f3, f4, f5⟩ := IB.fpOk (H' := K) (b := ce.locals) (Nat.le_of_eq ceL.symm) (by rw [ceL]; exact nC)
      refine ⟨m, hn, fun h'' sb => ⟨.ref D, K, ?_, rfl, qq⟩⟩
      exact Ix.turned (t' := y.toks) (fun b o hb r => (sb.2 b hb).trans r) f0 f1 f3 f4 f5
    · refine thnF (T.item (Cx.blkX X sB HB sc ce fp xe) rfl rfl rfl hc i [] z _ K (fun _ _ => False) Iz (still Iz nz) stz go) fun r y ⟨u, hr, hy⟩ => ?_
      subst hr
      refine thnF hy fun _ y1 ⟨x, K1, I1, r1, y1', st1, n1⟩ => ?_
      have I1' := I1.pinned (still I1 n1) (T.obj _ _ st1)
      refine away (pg.run _ y1 _ K1 x u _ I1' r1 (step x K1 y1')) fun _ y2 ⟨ρ2, K2, I2, hw2, q2⟩ => ?_
      refine away (pt.run _ y2 ρ2 K2 _ I2 q2) fun b y3 ⟨K3, I3, q3⟩ => ?_
      have fin : ∀ {y' : Shared} {K' : Hp}, Inv (Cx.blkX X sB HB sc ce fp xe) ([] ++ pinsAt fp y1.heap) ρ2 K' y' → Nx K' → ∃ m, m < n ∧ ∃ i K, Inv (Cx.blkX X sB HB sc ce fp xe) [] (wipe σ (own.map (·.2))) K y' ∧ tn i y'.heap ∧ (∀ b ∈ fp, K b = none) ∧ W i m K := fun {y' K'} I' nx => by
        obtain ⟨m', hm, w'⟩ := hNx K' nx
        have pin' : ∀ b ∈ fp, ∀ o, y1.heap.get? b = some o → y'.heap.get? b = some o ∧ K' b = none := fun b hb o r =>
          have zz := I'.pin (b, o) (List.mem_append_right _ (List.mem_append_right _ (mem_pinsAt hb r)))
          ⟨zz.1, zz.2.1⟩
        have hl : (wipe σ (own.map (·.2))).length = ρ2.length := by rw [← hw2, wipe_length]
        refine ⟨m', hm, i + 1, K', (I'.unpinned (pins := [])).weak hl (fun j v r => ?_), T.keep _ _ _ st1 fun b hb o r => (pin' b hb o r).1, fun b hb => ?_, w'⟩
        · rw [← hw2] at r
          exact (wipe_some r).1
        · obtain ⟨o, r, _⟩ := T.obj _ _ st1 b hb
          exact (pin' b hb o r).2
      cases b with
      | false =>
        simp only [Bool.false_eq_true, if_false] at q3 ⊢
        exact fin I3 q3
      | true =>
        simp only [if_true] at q3 ⊢
        refine away (pe.run _ y3 ρ2 K3 _ I3 q3) fun v y4 ⟨yv, K4, I4, r4, acc, hD4, hz4, nx⟩ => ?_
        exact app_ok (X := Cx.blkX X sB HB sc ce fp xe) I4 hD4 hz4 r4 fun y5 I5 => fin I5 nx
  exact codeAny_compStart_list loop (T.self X.A 0 _ _ _ stC loop)
/-! by data -/
def compLX (ft : DG) (test : Ev → Out Bool) (elt : DE) (ε : Ev) : List D → Out (List D)
  | [] => .ok []
  | d :: ds => match ft d ε with
    | none => .no
    | some ε1 => match test ε1 with
      | .ok true => (elt ε1).bind fun x => (compLX ft test elt ε ds).bind fun xs => .ok (x :: xs)
      | .ok false => compLX ft test elt ε ds
      | _ => .no
@[simp] def lCompX (own : List Nat) (it : Ev → Out (List D)) (ft : DG) (test : Ev → Out Bool) (elt : DE) (ε : Ev) : Out (List D) := (it ε).bind fun ds => if ds.length ≤ LIM then compLX ft test elt (wipeE ε own) ds else .no
theorem lcX_of {own sl : List Nat} {it : Ev → Out (List D)} {ft : DG} {test : Ev → Out Bool} {elt : DE} (hsl : ∀ i ∈ sl, i ∈ own) :
    ∀ σ H Q, tF X.w X.K X.mg E (lCompX own it ft test elt) σ H Q → tLc (tG X.w X.K X.mg E (rIt X.K) it) (gD X.w X.K X.mg sl ft) (tG X.w X.K X.mg E0 rB test) (tG X.w X.K X.mg E (rV X.K) elt) own σ H Q := fun σ H Q ⟨G0, H0, ε, G, ev, q⟩ => by
  refine ⟨G0, H0, ε, G, ev, PostF.bind q fun ds J G1 H1 _ x1 ok1 q1 => ?_⟩
  intro DD hD
  split at q1
  · rename_i hlen
    have ev1 : EnvOk X.w X.K X.mg G0 H0 (wipeE ε own) (L2.wipe σ own) G1 H1 := (ev.on x1).wipe own
    generalize hres : compLX ft test elt (wipeE ε own) ds = res at q1
    refine ⟨fun i m H => i ≤ ds.length ∧ m = ds.length - i ∧ ∃ G acc dacc, Ext G1 H1 G H ∧ H DD = some (.lst acc) ∧ G DD = none ∧ RpAll X.K G acc dacc ∧ dacc.length ≤ i ∧ ((compLX ft test elt (wipeE ε own) (ds.drop i)).bind fun xs => .ok (dacc ++ xs)) = res,
      ⟨ds.length, Nat.zero_le _, by omega, G1, [], [], Ext.open_ x1.gh hD, upd_same, x1.gh.back hD, .nil, Nat.le_refl _, ?_⟩, ?_⟩
    · rw [List.drop_zero, hres]
      cases res <;> rfl
    rintro i m H2 ⟨hi, rfl, G2, acc, dacc, x2, hH, hG, r, hl, hcr⟩
    obtain ⟨goes, stops⟩ := ok1 G2 H2 x2.gg x2.gh i
    cases hd : ds[i]? with
    | none =>
      refine .inl ⟨stops hd, ?_⟩
      have hi2 : ds.length ≤ i := List.getElem?_eq_none_iff.mp hd
      rw [List.drop_eq_nil_of_le hi2] at hcr
      have hcr : Out.ok (dacc ++ []) = res := hcr
      rw [List.append_nil] at hcr
      subst hcr
      exact q1 DD acc G2 H2 x2 hD hH hG r
    | some d =>
      have hi2 := lt_of_get hd
      obtain ⟨go, yl⟩ := goes d hd
      refine .inr ⟨go, _, fun H' w => ⟨ds.length - (i + 1), by omega, w⟩, fun x H3 y => ?_⟩
      obtain ⟨G3, x3, r3⟩ := yl x H3 y
      have hdr : ds.drop i = d :: ds.drop (i + 1) := by
        rw [List.drop_eq_getElem_cons hi2]
        congr 1
        exact Option.some.inj ((List.getElem?_eq_getElem hi2).symm.trans hd)
      rw [hdr] at hcr
      unfold compLX at hcr
      cases hft : ft d (wipeE ε own) with
      | none =>
        rw [hft] at hcr
        have hcr : (Out.no : Out (List D)) = res := hcr
        subst hcr
        exact q1.elim
      | some ε1 =>
        rw [hft] at hcr
        dsimp only at hcr
        refine ⟨G0, H0, wipeE ε own, G3, d, ε1, (ev1.on x2).on x3, r3, hft, fun σ2 ev2 hl2 k2 => ⟨?_, ?_⟩⟩
        · rw [wipe_same hl2 fun j hj => k2 j fun z => hj (hsl j z), wipe_wipe]
        · refine ⟨G0, H0, ε1, G3, ev2, ?_⟩
          cases ht : test ε1 with
          | rs c =>
            rw [ht] at hcr
            have hcr : (Out.no : Out (List D)) = res := hcr
            subst hcr
            exact q1.elim
          | no =>
            rw [ht] at hcr
            have hcr : (Out.no : Out (List D)) = res := hcr
            subst hcr
            exact q1.elim
          | ok b =>
            rw [ht] at hcr
            intro b' G4 H4 x4 eb
            cases eb
            cases b with
            | false =>
              rw [if_neg Bool.false_ne_true]
              exact ⟨hi2, rfl, G4, acc, dacc, (x2.trans x3).trans x4, x4.hh _ _ (x3.hh _ _ hH), x4.fr _ _ (x3.hh _ _ hH) (x3.fr _ _ hH hG), r.up (x3.gg.trans x4.gg), by omega, hcr⟩
            | true =>
              rw [if_pos rfl]
              refine ⟨G0, H0, ε1, G4, ev2.on x4, ?_⟩
              have x14 := (x2.trans x3).trans x4
              cases he : elt ε1 with
              | rs c =>
                rw [he] at hcr
                have hcr : (Out.rs c : Out (List D)) = res := hcr
                subst hcr
                exact fun G5 H5 x5 => q1 G5 H5 (x14.trans x5)
              | no =>
                rw [he] at hcr
                have hcr : (Out.no : Out (List D)) = res := hcr
                subst hcr
                exact q1.elim
              | ok y =>
                rw [he] at hcr
                dsimp only at hcr
                intro v G5 H5 x5 r5
                have hH5 := x5.hh _ _ (x4.hh _ _ (x3.hh _ _ hH))
                have hG5 := x5.fr _ _ (x4.hh _ _ (x3.hh _ _ hH)) (x4.fr _ _ (x3.hh _ _ hH) (x3.fr _ _ hH hG))
                have x15 := x14.trans x5
                have hal := r.length
                refine ⟨acc, hH5, Nat.lt_of_le_of_lt (by omega : acc.length ≤ LIM) (by decide), hi2, rfl, G5, acc ++ [v], dacc ++ [y], ⟨x15.gg, x15.hh.mut hD, fun a u ha => by rw [upd_ne (ne_of_none ha hG5)]; exact x15.gh a u ha, x15.fr⟩, upd_same, hG5, ?_, ?_, ?_⟩
                · exact (r.up ((x3.gg.trans x4.gg).trans x5.gg)).append (.cons r5 .nil)
                · rw [List.length_append, List.length_singleton]; omega
                · rw [← hcr]
                  cases compLX ft test elt (wipeE ε own) (ds.drop (i + 1)) with
                  | ok xs => show Out.ok _ = Out.ok _; rw [List.append_assoc]; rfl
                  | rs c => rfl
                  | no => rfl
  · exact q1.elim
theorem pf_lcX {elt tg iter : Expr} {ifs : List Expr} {scope : Scope} {own : List (Str × Nat)} {sl : List Nat} {pos : Pos} {it : Ev → Out (List D)} {ft : DG} {test : Ev → Out Bool} {fe : DE} (hc : X.calm = true) (hN : X.N.Nodup) (tk : TkF X E) (hi : PDI X E tg iter it) (ok : BlkOk X.N X.env.scope scope own)
    (hg : ∀ (s : Shared) (H : Hp) (C : Addr) (cl : List (Str × Addr)) (fp : List Addr) (xe : Value → Shared → Prop), PDG (Cx.blkX X s H scope (compEnvC scope cl C X.env) fp xe) tg sl ft)
    (ht : ∀ (s : Shared) (H : Hp) (C : Addr) (cl : List (Str × Addr)) (fp : List Addr) (xe : Value → Shared → Prop), PTs (Cx.blkX X s H scope (compEnvC scope cl C X.env) fp xe) ifs (tG X.w X.K X.mg E0 rB test))
    (he : ∀ (s : Shared) (H : Hp) (C : Addr) (cl : List (Str × Addr)) (fp : List Addr) (xe : Value → Shared → Prop), TkF (Cx.blkX X s H scope (compEnvC scope cl C X.env) fp xe) E → PD (Cx.blkX X s H scope (compEnvC scope cl C X.env) fp xe) E elt fe)
    (hsl : ∀ i ∈ sl, i ∈ own.map (·.2) := by decide) (hs : ∀ x, foldedSetIterable iter X.env x = pure x := by intro _; rfl) : PF X E (.ListComp elt [⟨tg, iter, ifs, 0⟩] scope pos) (lCompX (own.map (·.2)) it ft test fe) :=
  PE.weak (pe_lcX hc hN tk hi ok hg ht he hs) (lcX_of hsl)
end
end PL

set_option Elab.async false
set_option linter.all false
set_option maxRecDepth 100000
set_option maxHeartbeats 4000000
/-! PL18: a dict handed to a def that only reads it; min of a list of pairs; ranges downward. -/
namespace PL
open PySem PySem.Spec PyProof.Rows L2
/-! ### ranges downward -/
def r3dF : D → D → D → Out (List D)
  | .int a, .int b, .int c => if c = -1 ∧ (-1000000 ≤ a ∧ a ≤ 1000000) ∧ -1000000 ≤ b ∧ b ≤ 1000000 then .ok (rngC a (-1) (a - b).toNat) else .no
  | _, _, _ => .no
@[simp] theorem r3dF_int (a b c : Int) : r3dF (.int a) (.int b) (.int c) = if c = -1 ∧ (-1000000 ≤ a ∧ a ≤ 1000000) ∧ -1000000 ≤ b ∧ b ≤ 1000000 then .ok (rngC a (-1) (a - b).toNat) else .no := rfl
@[simp] def iRd (f g k : DE) (ε : Ev) : Out (List D) := (f ε).bind fun d => (g ε).bind fun e => (k ε).bind fun c => r3dF d e c
section
variable {X : Cx} {E : XK} {e e2 e3 tg : Expr} {f g k : DE} {p pos : Pos}
theorem pi_rd (hg : Gl X "range") (hm : X.mg "range" = none) (ha : PAw X E [e, e2, e3] (dArgs [f, g, k])) (hs : starEach [e, e2, e3] X.env = (false, eval e X.env) :: starEach [e2, e3] X.env := by rfl) (hpl : (backTo pos (starEach [e2, e3] X.env)).any (·.1) = false := by rfl) :
    PDI X E tg (.Call (.Name "range" p) [e, e2, e3] [] pos) (iRd f g k) :=
  PI.weak (pi_range3 hg hm ha hs hpl) fun σ H Q ⟨G0, H0, ε, G, ev, q⟩ => by
    refine ⟨G0, H0, ε, G, ev, args3 q fun d d' d'' vs G1 H1 x1 r q1 => ?_⟩
    obtain ⟨v, v', v'', rfl, w, w', w''⟩ := vw3 r
    unfold r3dF at q1
    split at q1
    · split at q1
      · rename_i hn
        obtain ⟨rfl, ha, hb⟩ := hn
        rw [w.int, w'.int, w''.int]
        exact ⟨_, _, _, _, rfl, RgC.neg (by omega) (by omega) (by omega) (by omega), q1 _ G1 H1 (Ext.refl x1.gh) it_rngC⟩
      · exact q1.elim
    · exact q1.elim
end
/-! ### min of a list of pairs -/
def prsOf : List D → Option (List (Int × Int))
  | [] => some []
  | .tup [.int a, .int b] :: ds => (prsOf ds).map fun l => (a, b) :: l
  | _ => none
def prD2 (x : Int × Int) : D := .tup [.int x.1, .int x.2]
theorem prsOf_map (l : List (Int × Int)) : prsOf (l.map prD2) = some l := by
  induction l with
  | nil => rfl
  | cons x l ih => rw [List.map_cons, prD2, prsOf, ih]; rfl
theorem prsOf_eq : ∀ {ds : List D} {l : List (Int × Int)}, prsOf ds = some l → ds = l.map prD2
  | [], l, h => by
    unfold prsOf at h
    cases h
    rfl
  | d :: ds, l, h => by
    unfold prsOf at h
    split at h
    · rename_i he; cases he
    · rename_i a b ds' he
      cases he
      cases hl : prsOf ds with
      | none => rw [hl] at h; cases h
      | some l' =>
        rw [hl] at h
        cases h
        rw [List.map_cons, ← prsOf_eq hl]
        rfl
    · cases h
def ltP (x y : Int × Int) : Bool := decide (x.1 < y.1) || (decide (x.1 = y.1) && decide (x.2 < y.2))
def minP (x : Int × Int) (l : List (Int × Int)) : Int × Int := l.foldl (fun a y => if ltP y a then y else a) x
def pyP (x : Int × Int) : PyData := .tuple [.int x.1, .int x.2]
theorem lt_int (a b : Int) : PySem.W.dataLt (.int a) (.int b) = decide (a < b) := by
  unfold PySem.W.dataLt
  rw [PySem.W.keyToks, PySem.W.keyToks, PySem.W.lex_one]
  rfl
theorem lt_pyP (x y : Int × Int) : PySem.W.dataLt (pyP x) (pyP y) = ltP x y := by
  have toks : ∀ z : Int × Int, PySem.W.keyToks (pyP z) = PySem.W.keyToksAll [.int z.1, .int z.2] := fun z => by
    unfold pyP
    rw [PySem.W.keyToks]
  unfold PySem.W.dataLt ltP
  rw [toks, toks]
  by_cases h : x.1 = y.1
  · rw [PySem.W.dataLt_all_yes (x := .int x.1) (y := .int y.1) rfl (by simp [PyData.eqv, h])]
    have n : ¬ x.1 < y.1 := by omega
    by_cases h2 : x.2 = y.2
    · rw [PySem.W.dataLt_all_yes (x := .int x.2) (y := .int y.2) rfl (by simp [PyData.eqv, h2])]
      have n2 : ¬ x.2 < y.2 := by omega
      rw [PySem.W.keyToksAll, PySem.W.lex_one]
      simp [n, n2]
      rfl
    · rw [PySem.W.dataLt_all_no (x := .int x.2) (y := .int y.2) rfl (by simp [PyData.eqv, h2]), lt_int]
      simp [n, h]
  · rw [PySem.W.dataLt_all_no (x := .int x.1) (y := .int y.1) rfl (by simp [PyData.eqv, h]), lt_int]
    simp [h]
theorem minD_pyP : ∀ (l : List (Int × Int)) (x : Int × Int), PySem.W.minD (pyP x) (l.map pyP) = pyP (minP x l)
  | [], _ => rfl
  | y :: l, x => by
    have ih := minD_pyP l (if ltP y x then y else x)
    unfold PySem.W.minD minP at *
    rw [List.map_cons, List.foldl_cons, List.foldl_cons, lt_pyP]
    rw [← ih]
    congr 1
    split <;> rfl
theorem py_prD2 (x : Int × Int) : (prD2 x).py = pyP x := by
  unfold prD2 pyP
  rw [D.py, pyAll, pyAll, pyAll, D.py, D.py]
theorem pyP_inj {x y : Int × Int} (h : pyP x = pyP y) : x = y := by
  unfold pyP at h
  injection h with h
  injection h with h1 h2
  injection h2 with h2 _
  injection h1 with h1
  injection h2 with h2
  exact Prod.ext h1 h2
def oMinP : D → Option D
  | .lst ds => (match prsOf ds with
    | some (x :: l) => some (prD2 (minP x l))
    | _ => none)
  | _ => none
theorem oMinP_lst (ds : List D) : oMinP (.lst ds) = (match prsOf ds with
    | some (x :: l) => some (prD2 (minP x l))
    | _ => none) := rfl
section
variable {X : Cx} {E : XK} {e : Expr} {f : DE} {p pos : Pos}
def rMinP (K : PySem.W.Frag) : List V → Hp → VK → Prop := fun vs H Q => ∃ G a xs x l, vs = [.ref a] ∧ Ex G H ∧ SqL K H a xs ∧ RpAll K G xs ((x :: l).map prD2) ∧ ∀ v, Rp K G v (prD2 (minP x l)) → Q v H
theorem reads_all {h : Heap} {enc : D → PyData} : ∀ {us : List Value} {ds : List D}, PySem.W.EachIs (fun u d => ∃ as, Reads h u (enc d) as) us ds → ∃ as, ReadsAll h us (ds.map enc) as
  | _, _, .nil => ⟨_, .nil⟩
  | _, _, .cons ⟨a, r⟩ t => by
    obtain ⟨b, rb⟩ := reads_all t
    exact ⟨_, .cons r rb⟩
theorem each_at {R : Value → D → Prop} : ∀ {us : List Value} {ds : List D} {i : Nat} {u : Value}, PySem.W.EachIs R us ds → us[i]? = some u → ∃ d, ds[i]? = some d ∧ R u d
  | _, _, _, _, .nil, h => by simp at h
  | _, _, 0, _, .cons r _, h => by
    simp at h
    subst h
    exact ⟨_, rfl, r⟩
  | _, _, i + 1, _, .cons _ t, h => each_at (i := i) t (by simpa using h)
theorem call_minP (hc : X.calm = true) (hu : X.A.units + 65 < cLine) : CallR X (.builtin "min") (rMinP X.K) := by
  intro pins s σ H vs us Q I r h
  obtain ⟨G, a, xs, x, l, rfl, eG, hs, hr, q⟩ := h
  obtain ⟨its, rv, hl, hz⟩ := I.list hs
  obtain ⟨u, rfl, ru⟩ := vals1 r
  obtain rfl : u = Value.ref a := ru
  obtain ⟨e1, e2⟩ := each_of I eG rv hr
  obtain ⟨as, ra⟩ := reads_all e2
  have em : ((x :: l).map prD2).map D.py = pyP x :: l.map pyP := by
    rw [List.map_map, List.map_cons]
    show (D.py (prD2 x)) :: _ = _
    rw [py_prD2]
    have e : l.map (D.py ∘ prD2) = l.map pyP := List.map_congr_left fun y _ => py_prD2 y
    rw [e]
  rw [em] at ra
  have dep : PyData.depthAll (pyP x :: l.map pyP) ≤ 1 := by
    have : ∀ l : List (Int × Int), PyData.depthAll (l.map pyP) ≤ 1 := by
      intro l
      induction l with
      | nil => simp [PyData.depthAll]
      | cons y l ih =>
        rw [List.map_cons]
        simp only [PyData.depthAll, pyP, PyData.depth]
        simp [PyData.depthAll, pyP, PyData.depth] at ih ⊢
        omega
    exact this (x :: l)
  have alk : PySem.W.AlikeAll (pyP x :: l.map pyP) := by
    have all : ∀ d ∈ pyP x :: l.map pyP, ∃ z, d = pyP z := fun d hd => by
      rcases List.mem_cons.mp hd with rfl | hd
      · exact ⟨x, rfl⟩
      · obtain ⟨z, _, rfl⟩ := List.mem_map.mp hd
        exact ⟨z, rfl⟩
    refine ⟨fun d hd d' hd' => ?_, fun d hd => ?_⟩
    · obtain ⟨z, rfl⟩ := all d hd
      obtain ⟨z', rfl⟩ := all d' hd'
      rfl
    · obtain ⟨z, rfl⟩ := all d hd
      exact fun z => by cases z
  have hn : its.toArray.size = (pyP x :: l.map pyP).length := PySem.W.readsAll_len (vs := its.toArray) (as := as) ra
  rw [List.length_cons] at hn
  refine PySem.call_min_walkH (PySem.W.iter_listW (A := X.A.in1) (I.ok.hd hc) hl.isList fun s₂ ee W st hfp hw hk => ?_)
  refine ⟨_, _, _, _, _, _, _, s.heap, _, rfl, W, st, hfp, by omega, hw, hk, PySem.W.cmpIn_lt (A := X.A.in1) (vs := its.toArray) (as := as) ra alk (by show X.A.units + 1 + _ < _; omega), fun v s' hP m => ?_⟩
  obtain ⟨h', tk, rfl, hk'⟩ := PySem.W.moved_old ee rfl m
  have e3 : its.toArray.size - 1 = (l.map pyP).length := by omega
  have e4 := (PySem.W.argBest_fold PySem.W.dataLt PyData.none (pyP x) (l.map pyP) (l.map pyP).length (Nat.le_refl _)).2
  rw [List.take_length] at e4
  rw [e3] at hP
  generalize argBest (fun i j => PySem.W.dataLt ((pyP x :: l.map pyP).getD i PyData.none) ((pyP x :: l.map pyP).getD j PyData.none)) (l.map pyP).length = i0 at hP e4
  obtain ⟨d, hd, v0, rv0, rp0⟩ := each_at e1 (i := i0) (u := v) (by simpa using hP)
  have hmin : (pyP x :: l.map pyP).getD i0 PyData.none = pyP (minP x l) := by rw [e4]; exact minD_pyP l x
  have hd2 : d = prD2 (minP x l) := by
    rw [List.getElem?_map] at hd
    cases hx : (x :: l)[i0]? with
    | none => rw [hx] at hd; cases hd
    | some z =>
      rw [hx] at hd
      cases hd
      have : (pyP x :: l.map pyP).getD i0 PyData.none = pyP z := by
        rw [← List.map_cons (f := pyP), List.getD_eq_getElem?_getD, List.getElem?_map, hx]
        rfl
      rw [this] at hmin
      rw [pyP_inj hmin]
  rw [hd2] at rp0
  exact ⟨v0, H, I.kept (t' := tk) hk', rv0, q v0 rp0⟩
theorem pd_minP (hc : X.calm = true) (hu : X.A.units + 65 < cLine) (hg : Gl X "min") (hm : X.mg "min" = none) (ha : PAw X E [e] (dArgs [f])) (he : starEach [e] X.env = (false, eval e X.env) :: starEach [] X.env := by rfl) : PD X E (.Call (.Name "min" p) [e] [] pos) (d1 oMinP f) :=
  PE.weak (pe_callB (call_minP hc hu) hg hm (by decide +kernel) ha (by decide) (by decide) he) fun σ H Q ⟨G0, H0, ε, G, ev, q⟩ => by
    refine ⟨G0, H0, ε, G, ev, args1 q fun d vs G1 H1 x1 r q1 => ?_⟩
    obtain ⟨v, rfl, w⟩ := vw1 r
    obtain ⟨d', hd, q2⟩ := q1.of
    unfold oMinP at hd
    split at hd
    · rename_i ds
      obtain ⟨a, vs, rfl, s1, r1⟩ := w.lst x1.gh
      split at hd
      · rename_i x l hb
        cases hd
        rw [prsOf_eq hb] at r1
        exact ⟨G1, a, vs, x, l, rfl, x1.gh, s1, r1, fun v rv => q2 v G1 H1 (Ext.refl x1.gh) rv⟩
      · cases hd
    · cases hd
end
/-! ### a dict that is only read -/
def vdcF {α : Type} (o : Option Sl) (k : List (D × D) → Out α) : Out α := match o with
  | some (.vdc kvs) => k kvs
  | _ => .no
@[simp] theorem vdcF_vdc {α : Type} (kvs : List (D × D)) (k : List (D × D) → Out α) : vdcF (some (.vdc kvs)) k = k kvs := rfl
theorem vdcF_of {α β : Type} {mg : Str → Option Value} {E : XK} {G H : Hp} {R : α → β → Hp → Hp → Prop} {Q : β → Hp → Prop} {o : Option Sl} {k : List (D × D) → Out α} (h : Post mg E G H (vdcF o k) R Q) : ∃ kvs, o = some (.vdc kvs) ∧ Post mg E G H (k kvs) R Q := by
  unfold vdcF at h
  split at h
  · rename_i kvs; exact ⟨kvs, rfl, h⟩
  · exact h.elim
@[simp] def dVGet (i : Nat) (f : DE) (ε : Ev) : Out D := vdcF ε[i]? fun kvs => (f ε).bind fun d => if keyOk d = true then .of (lkD kvs d) else .no
theorem EnvOk.vdc {w : World} {K : PySem.W.Frag} {mg : Str → Option Value} {G0 H0 G H : Hp} {ε : Ev} {σ : L2.St} {i : Nat} {kvs : List (D × D)} (e : EnvOk w K mg G0 H0 ε σ G H) (h : ε[i]? = some (.vdc kvs)) : ∃ a xs o, σ[i]? = some (some (.ref a)) ∧ H a = some (DctO w a xs) ∧ H0 a = some o ∧ DctR K G xs kvs := by
  have := e.sl i; rw [h] at this; exact this
section
variable {X : Cx} {E : XK} {e : Expr} {es : List Expr} {f : DE} {p pos : Pos}
theorem pd_getV (hu : X.A.units + 65 < cLine) (i : Nat) {x : Str} (he : PD X E e f) (hN : X.N[i]? = some x := by rfl) (hv : Vis X.env.scope x := by first | exact Or.inl rfl | exact Or.inr (Or.inl rfl) | exact Or.inr (Or.inr rfl)) (hd : (x == ("__debug__" : Str)) = false := by decide)
    (hcd : (x == ("__classdict__" : Str)) = false := by decide) (hs : PlainIx e := by exact fun _ _ => rfl) : PD X E (.Subscript (.Name x p) e pos) (dVGet i f) :=
  PE.weak (pe_ix (ix_D hu) (pe_var hN hv hd hcd) he hs) fun σ H Q ⟨G0, H0, ε, G, ev, q⟩ => by
    obtain ⟨kvs, hi, q⟩ := vdcF_of q
    obtain ⟨a, xs, o, hs, _⟩ := ev.vdc hi
    refine ⟨_, hs, G0, H0, ε, G, ev, Post.bind q fun d y G1 H1 _ x1 r1 q1 => ?_⟩
    split at q1
    · rename_i hk
      obtain ⟨v, hl, q2⟩ := q1.of
      obtain ⟨a', xs', o', hs', hH, _, dr⟩ := (ev.on x1).vdc hi
      rw [hs] at hs'
      cases hs'
      exact ⟨G1, a, xs', kvs, d, v, x1.gh, rfl, r1, hk, hH, dr, hl, fun val rv => q2 val G1 H1 (Ext.refl x1.gh) rv⟩
    · exact q1.elim
/-! arguments, the last one a dict -/
abbrev rAV (w : World) (K : PySem.W.Frag) : List D × List (D × D) → List V → Hp → Hp → Prop := fun x vs G H => ∃ us a xs, vs = us ++ [.ref a] ∧ RpAll K G us x.1 ∧ H a = some (DctO w a xs) ∧ DctR K G xs x.2
abbrev PAV (X : Cx) (E : XK) (es : List Expr) (f : Ev → Out (List D × List (D × D))) : Prop := PA X es (tG X.w X.K X.mg E (rAV X.w X.K) f)
def aDct (i : Nat) (ε : Ev) : Out (List D × List (D × D)) := dctF ε[i]? fun kvs => .ok ([], kvs)
def aCons (f : DE) (g : Ev → Out (List D × List (D × D))) (ε : Ev) : Out (List D × List (D × D)) := (f ε).bind fun d => (g ε).bind fun x => .ok (d :: x.1, x.2)
def aAll : List DE → Nat → Ev → Out (List D × List (D × D))
  | [], i => aDct i
  | f :: fl, i => aCons f (aAll fl i)
theorem paV_n (i : Nat) {x : Str} (hN : X.N[i]? = some x := by rfl) (hv : Vis X.env.scope x := by first | exact Or.inl rfl | exact Or.inr (Or.inl rfl) | exact Or.inr (Or.inr rfl)) (hd : (x == ("__debug__" : Str)) = false := by decide)
    (hcd : (x == ("__classdict__" : Str)) = false := by decide) (hs : starEach [.Name x p] X.env = (false, eval (.Name x p) X.env) :: starEach [] X.env := by rfl) : PAV X E [.Name x p] (aAll [] i) :=
  PA.weak (pa_cons (pe_var hN hv hd hcd) pa_nil hs) fun σ H Q ⟨G0, H0, ε, G, ev, q⟩ => by
    obtain ⟨kvs, hi, q⟩ := dctF_of q
    obtain ⟨a, xs, hs, hH, _, _, dr⟩ := ev.dct hi
    exact ⟨_, hs, q _ G H (Ext.refl ev.gh) ⟨[], a, xs, rfl, .nil, hH, dr⟩⟩
theorem paV_c {i : Nat} {fl : List DE} (ha : PD X E e f) (hr : PAV X E es (aAll fl i)) (hs : starEach (e :: es) X.env = (false, eval e X.env) :: starEach es X.env := by rfl) : PAV X E (e :: es) (aAll (f :: fl) i) :=
  PA.weak (pa_cons ha hr hs) fun σ H Q ⟨G0, H0, ε, G, ev, q⟩ => by
    refine ⟨G0, H0, ε, G, ev, Post.bind q fun d x G1 H1 _ x1 w1 q1 => ?_⟩
    refine ⟨G0, H0, ε, G1, ev.on x1, Post.bind q1 fun ps xs G2 H2 _ x2 w2 q2 => ?_⟩
    obtain ⟨us, a, ys, rfl, r, hH, dr⟩ := w2
    exact q2 _ G2 H2 (Ext.refl x2.gh) ⟨x :: us, a, ys, rfl, .cons (w1.up x2.gg) r, hH, dr⟩
theorem aAll_len : ∀ {fl : List DE} {i : Nat} {ε : Ev} {x : List D × List (D × D)}, aAll fl i ε = .ok x → x.1.length = fl.length
  | [], i, ε, x, h => by
    unfold aAll aDct dctF at h
    split at h
    · cases h; rfl
    · cases h
  | f :: fl, i, ε, x, h => by
    unfold aAll aCons at h
    cases hf : f ε with
    | ok d =>
      rw [hf] at h
      cases hg : aAll fl i ε with
      | ok y =>
        rw [bind_ok, hg] at h
        cases h
        rw [List.length_cons, List.length_cons, aAll_len hg]
      | rs c => rw [bind_ok, hg] at h; cases h
      | no => rw [bind_ok, hg] at h; cases h
    | rs c => rw [hf] at h; cases h
    | no => rw [hf] at h; cases h
end
def spDV (w : World) (K : PySem.W.Frag) (mg : Str → Option Value) (n : Nat) (M : List D → List (D × D) → Out D) : Sp := fun vs H Q E => ∃ G ds kvs us a xs, Ex G H ∧ vs = us ++ [.ref a] ∧ RpAll K G us ds ∧ ds.length = n ∧ H a = some (DctO w a xs) ∧ DctR K G xs kvs ∧ Post mg E G H (M ds kvs) (rV K) Q
@[simp] def dCallV (M : List D → List (D × D) → Out D) (f : Ev → Out (List D × List (D × D))) (ε : Ev) : Out D := (f ε).bind fun x => nrm (M x.1 x.2)
section
variable {X : Cx} {E : XK} {e : Expr} {es : List Expr} {p pos : Pos}
theorem pd_callV {M : List D → List (D × D) → Out D} {k n i : Nat} {fa : Addr} {fd : FuncData} {ps : List Str} {x : Str} {fl : List DE} (F : FnOk X.prog X.w X.K X.mg X.base CX0 k fa fd ps (spDV X.w X.K X.mg n M)) (hr : Room k X.A) (hg : Gl X x) (hm : X.mg x = some (.ref fa))
    (hk : PySem.W.keepIn X.K (.ref fa) = true) (hb : Binds X.K fd ps []) (ha : PAV X E (e :: es) (aAll fl i)) (hn : fl.length = n := by rfl) (hdb : (x == ("__debug__" : Str)) = false := by decide)
    (he : starEach (e :: es) X.env = (false, eval e X.env) :: starEach es X.env := by rfl) (hpl : (backTo pos (starEach es X.env)).any (·.1) = false := by rfl) : PD X E (.Call (.Name x p) (e :: es) [] pos) (dCallV M (aAll fl i)) :=
  PE.weak (pe_call (E := E0) F hr hg hm hk hb .nil pass0 ha hdb he hpl) fun σ H Q ⟨G0, H0, ε, G, ev, q⟩ => by
    refine ⟨G0, H0, ε, G, ev, Post.bind q fun y vs G1 H1 hd x1 r q1 => ?_⟩
    rw [List.append_nil]
    obtain ⟨us, a, xs, rfl, r, hH, dr⟩ := r
    refine ⟨G1, y.1, y.2, us, a, xs, x1.gh, rfl, r, by rw [aAll_len hd, hn], hH, dr, ?_⟩
    cases hM : M y.1 y.2 with
    | ok d => rw [hM] at q1; exact q1
    | rs c => rw [hM] at q1; exact q1.elim
    | no => rw [hM] at q1; exact q1.elim
end
@[simp] def startV (n : Nat) (ds : List D) (kvs : List (D × D)) : Ev := ds.map .val ++ .vdc kvs :: List.replicate (n - ds.length - 1) .un
@[simp] def runV (n : Nat) (f : DS) (ds : List D) (kvs : List (D × D)) : Out D := runF (f (startV n ds kvs))
theorem start_okV {w : World} {K : PySem.W.Frag} {mg : Str → Option Value} {G H : Hp} {N : List Str} {us : List V} {ds : List D} {kvs : List (D × D)} {a : Addr} {xs : List (NestedKey × Addr × Value)} (e : Ex G H) (r : RpAll K G us ds) (hH : H a = some (DctO w a xs)) (dr : DctR K G xs kvs) (hn : ds.length < N.length) : EnvOk w K mg G H (startV N.length ds kvs) (L2.start N (us ++ [.ref a])) G H := by
  have hl := r.length
  have cases_ : ∀ i, (i < ds.length ∧ (startV N.length ds kvs)[i]? = (ds[i]?).map Sl.val ∧ (L2.start N (us ++ [.ref a]))[i]? = (us[i]?).map some) ∨ (i = ds.length ∧ (startV N.length ds kvs)[i]? = some (.vdc kvs) ∧ (L2.start N (us ++ [.ref a]))[i]? = some (some (.ref a))) ∨ ((startV N.length ds kvs)[i]? = some .un ∨ (startV N.length ds kvs)[i]? = none) := by
    intro i
    unfold startV L2.start
    by_cases h1 : i < ds.length
    · left
      refine ⟨h1, ?_, ?_⟩
      · rw [List.getElem?_append_left (by simpa using h1), List.getElem?_map]
      · rw [List.getElem?_append_left (by simp; omega), List.getElem?_map, List.getElem?_append_left (by omega)]
    · by_cases h2 : i = ds.length
      · right; left
        subst h2
        refine ⟨rfl, ?_, ?_⟩
        · rw [List.getElem?_append_right (by simp)]
          simp
        · rw [List.getElem?_append_left (by simp; omega), List.getElem?_map, List.getElem?_append_right (by omega)]
          simp [hl]
      · right; right
        rw [List.getElem?_append_right (by simp; omega)]
        obtain ⟨j, hj⟩ : ∃ j, i - (ds.map Sl.val).length = j + 1 := ⟨i - ds.length - 1, by simp; omega⟩
        rw [hj, List.getElem?_cons_succ, List.getElem?_replicate]
        split
        · exact .inl rfl
        · exact .inr rfl
  refine ⟨Ext.refl e, by simp [L2.start, hl]; omega, fun i => ?_, fun i j b d1 d2 _ h1 => ?_, fun i j b d1 d2 _ h1 => ?_⟩
  · rcases cases_ i with ⟨h1, h2, h3⟩ | ⟨_, h2, h3⟩ | h2 | h2
    · rw [h2, h3, List.getElem?_eq_getElem h1]
      obtain ⟨v, q1, q2⟩ := r.getD (List.getElem?_eq_getElem h1)
      exact ⟨v, by rw [q1]; rfl, q2⟩
    · rw [h2, h3]
      exact ⟨a, xs, _, rfl, hH, hH, dr⟩
    · rw [h2]; trivial
    · rw [h2]; trivial
  · exfalso
    rcases cases_ i with ⟨h, h2, _⟩ | ⟨_, h2, _⟩ | h2 | h2
    · rw [h2, List.getElem?_eq_getElem h] at h1; cases h1
    · rw [h2] at h1; cases h1
    · rw [h2] at h1; cases h1
    · rw [h2] at h1; cases h1
  · exfalso
    rcases cases_ i with ⟨h, h2, _⟩ | ⟨_, h2, _⟩ | h2 | h2
    · rw [h2, List.getElem?_eq_getElem h] at h1; cases h1
    · rw [h2] at h1; cases h1
    · rw [h2] at h1; cases h1
    · rw [h2] at h1; cases h1
theorem def_MV {P : Program} {w : World} {K : PySem.W.Frag} {mg : Str → Option Value} {base : Heap} {x qual : Str} {st : Stmt} {f : Addr} {fd : FuncData} {N ps : List Str} {k n : Nat} {fb : DS} {M : List D → List (D × D) → Out D} (F : Fun K x qual st f fd) (S : FnScope N ps (defScope st)) (hM : M = runV N.length fb) (hn : n + 1 = ps.length) (hnN : n < N.length)
    (body : ∀ (cdv : Value) (A : Around) (outer : List Env) (s : Shared) (H : Hp) (E : XK), Room k (A.deeper (envOfC qual (defScope st) s.heap.objs.size f cdv)) →
      PSsd (cxOf CX0 P w K mg base N qual (defScope st) f cdv A outer s H E).nox E0 (defBody st) fb) : FnOk P w K mg base CX0 (k + 1) f fd ps (spDV w K mg n M) := by
  subst hM
  refine F.ok S (fun vs H Q E h => ?_) (fun cdv A outer s H vs Q E hr h => ?_)
  · obtain ⟨G, ds, kvs, us, a, xs, _, rfl, r, hl, _⟩ := h
    rw [List.length_append, r.length, hl, ← hn]
    rfl
  · obtain ⟨G, ds, kvs, us, a, xs, e, rfl, r, hl, hH, dr, q⟩ := h
    refine ⟨_, body cdv A outer s H E hr, G, H, startV N.length ds kvs, G, start_okV e r hH dr (by omega), ?_⟩
    unfold runV runF at q
    cases hf : fb (startV N.length ds kvs) with
    | rt d => rw [hf] at q; exact fun v G' H' x' r' => q v G' H' x' r'
    | nx ε' => rw [hf] at q; exact fun σ' G' H' ev' _ => q .non G' H' ev'.ext .non
    | rs c => rw [hf] at q; exact q.elim
    | bk _ => rw [hf] at q; exact q.elim
    | ct _ => rw [hf] at q; exact q.elim
    | no => rw [hf] at q; exact q.elim
end PL

set_option Elab.async false
set_option linter.all false
set_option maxRecDepth 100000
set_option maxHeartbeats 4000000
/-! PL19: dict(list of pairs), len(set(list of pairs of ints)). -/
namespace PL
open PySem PySem.Spec PyProof.Rows L2
/-! ### by data -/
def prK : List D → Option (List (D × D))
  | [] => some []
  | .tup [k, v] :: ds => (prK ds).map ((k, v) :: ·)
  | _ :: _ => none
def stAll (kvs ps : List (D × D)) : List (D × D) := ps.foldl (fun acc p => stD acc p.1 p.2) kvs
def bindK (d : D) (k : List (D × D) → Fl) : Fl := match d with
  | .lst ds => (match prK ds with
    | some ps => if ps.all (fun p => keyOk p.1) = true ∧ ps.length < 1000 then k ps else .no
    | none => .no)
  | _ => .no
@[simp] def sDctL (i : Nat) (f : DE) (ε : Ev) : Fl := bindS (f ε) fun d => bindK d fun ps => .nx (ε.set i (.dct (stAll [] ps)))
theorem prK_cons {d : D} {ds : List D} {ps : List (D × D)} (h : prK (d :: ds) = some ps) : ∃ k v ps', d = .tup [k, v] ∧ ps = (k, v) :: ps' ∧ prK ds = some ps' := by
  unfold prK at h
  split at h
  · rename_i e; cases e
  · rename_i k v ds' e
    cases e
    cases hp : prK ds with
    | none => rw [hp] at h; cases h
    | some ps' =>
      rw [hp] at h
      cases h
      exact ⟨k, v, ps', rfl, rfl, rfl⟩
  · cases h
section
variable {X : Cx} {pins : List (Addr × Obj)} {σ : L2.St} {G H : Hp} {s : Shared}
/-- the pairs in the heap -/
inductive PrR (K : PySem.W.Frag) (G : Hp) (h : Heap) : List (Addr × Addr × Value) → List (D × D) → Prop
  | nil : PrR K G h [] []
  | cons {t b : Addr} {u : Value} {k v : D} {L : List (Addr × Addr × Value)} {ps : List (D × D)} : h.IsTuple t #[.ref b, u] → keyOk k = true → Rp K G (.ref b) k → (∃ x, RelV x u ∧ Rp K G x v) → PrR K G h L ps → PrR K G h ((t, b, u) :: L) ((k, v) :: ps)
theorem prR_of (I : Inv X pins σ H s) (e : Ex G H) : ∀ (ds : List D) (xs : List V) (us : List Value) (ps : List (D × D)), RpAll X.K G xs ds → Vals xs us → prK ds = some ps → (∀ p ∈ ps, keyOk p.1 = true) → ∃ L, us = L.map (fun t => Value.ref t.1) ∧ PrR X.K G s.heap L ps
  | [], _, _, ps, r, rv, hp, _ => by
    cases r
    cases rv
    cases hp
    exact ⟨[], rfl, .nil⟩
  | d :: ds, _, _, ps, r, rv, hp, hk => by
    obtain ⟨k, v, ps', rfl, rfl, hp'⟩ := prK_cons hp
    cases r with
    | cons r1 r2 =>
      cases rv with
      | cons v1 v2 =>
        obtain ⟨L, e1, e2⟩ := prR_of I e ds _ _ ps' r2 v2 hp' fun p hp => hk p (List.mem_cons_of_mem _ hp)
        have hkk := hk (k, v) (List.mem_cons_self ..)
        cases r1 with
        | tup hs ha =>
          rename_i t vs
          cases v1
          obtain ⟨its, rv, pl, _⟩ := I.tuple (ex_t e hs)
          cases ha with
          | cons a1 a2 =>
            cases a2 with
            | cons a3 a4 =>
              cases a4
              obtain ⟨b, rfl, _⟩ := key_is I e a1 hkk
              cases rv with
              | cons w1 w2 =>
                cases w2 with
                | cons w3 w4 =>
                  cases w4
                  cases w1
                  refine ⟨(t, b, _) :: L, by rw [e1]; rfl, .cons ?_ hkk a1 ⟨_, w3, a3⟩ e2⟩
                  exact pl
theorem PrR.length {K : PySem.W.Frag} {h : Heap} {L : List (Addr × Addr × Value)} {ps : List (D × D)} (r : PrR K G h L ps) : L.length = ps.length := by
  induction r with
  | nil => rfl
  | cons _ _ _ _ _ ih => rw [List.length_cons, List.length_cons, ih]
theorem PrR.at {K : PySem.W.Frag} {h : Heap} {L : List (Addr × Addr × Value)} {ps : List (D × D)} (r : PrR K G h L ps) : ∀ (j : Nat) (t : Addr × Addr × Value), L[j]? = some t → ∃ p, ps[j]? = some p ∧ h.IsTuple t.1 #[.ref t.2.1, t.2.2] ∧ keyOk p.1 = true ∧ Rp K G (.ref t.2.1) p.1 ∧ ∃ x, RelV x t.2.2 ∧ Rp K G x p.2 := by
  induction r with
  | nil => intro j t h; cases h
  | @cons t b u k v L ps h1 h2 h3 h4 _ ih =>
    intro j t' hj
    cases j with
    | zero =>
      have e : (t, b, u) = t' := by simpa using hj
      subst e
      exact ⟨(k, v), rfl, h1, h2, h3, h4⟩
    | succ j => exact ih j t' (by simpa using hj)
/-- keys by their name -/
def trip : List (Addr × Addr × Value) → List (D × D) → List (NestedKey × Addr × Value)
  | t :: L, p :: ps => (nkD p.1, t.2.1, t.2.2) :: trip L ps
  | _, _ => []
theorem trip_len : ∀ {L : List (Addr × Addr × Value)} {ps : List (D × D)}, L.length = ps.length → (trip L ps).length = L.length
  | [], [], _ => rfl
  | [], _ :: _, h => by simp at h
  | _ :: _, [], h => by simp at h
  | t :: L, p :: ps, h => by
    unfold trip
    rw [List.length_cons, List.length_cons, trip_len (by simpa using h)]
theorem trip_at : ∀ {L : List (Addr × Addr × Value)} {ps : List (D × D)} {j : Nat} {t : Addr × Addr × Value} {p : D × D}, L[j]? = some t → ps[j]? = some p → (trip L ps)[j]? = some (nkD p.1, t.2.1, t.2.2)
  | [], _, _, _, _, h, _ => by simp at h
  | _ :: _, [], _, _, _, _, h => by simp at h
  | t :: L, p :: ps, 0, _, _, h1, h2 => by
    simp at h1 h2
    subst h1
    subst h2
    rfl
  | t :: L, p :: ps, j + 1, _, _, h1, h2 => by
    unfold trip
    rw [List.getElem?_cons_succ]
    exact trip_at (by simpa using h1) (by simpa using h2)
theorem trip_mem {L : List (Addr × Addr × Value)} {ps : List (D × D)} (hl : L.length = ps.length) {x : NestedKey × Addr × Value} (h : x ∈ trip L ps) : ∃ (j : Nat) (t : Addr × Addr × Value) (p : D × D), L[j]? = some t ∧ ps[j]? = some p ∧ x = (nkD p.1, t.2.1, t.2.2) := by
  obtain ⟨j, hj, e⟩ := List.mem_iff_getElem.mp h
  have hj' : j < L.length := by rw [trip_len hl] at hj; exact hj
  refine ⟨j, L[j], ps[j]'(by omega), List.getElem?_eq_getElem hj', List.getElem?_eq_getElem (by omega), ?_⟩
  have := trip_at (List.getElem?_eq_getElem hj') (List.getElem?_eq_getElem (l := ps) (i := j) (by omega))
  rw [List.getElem?_eq_getElem hj] at this
  rw [← e]
  exact Option.some.inj this
theorem PrR.stored {K : PySem.W.Frag} {h : Heap} {L : List (Addr × Addr × Value)} {ps : List (D × D)} (r : PrR K G h L ps) : ∀ {xs : List (NestedKey × Addr × Value)} {kvs : List (D × D)}, DctR K G xs kvs → DctR K G (storedAllH xs (trip L ps)) (stAll kvs ps) := by
  induction r with
  | nil => intro xs kvs d; exact d
  | @cons t b u k v L ps h1 h2 h3 h4 _ ih =>
    intro xs kvs d
    obtain ⟨x, r1, r2⟩ := h4
    exact ih (d.stored h2 h3 r1 r2)
def rDictN (w : World) (K : PySem.W.Frag) : List V → Hp → VK → Prop := fun vs H Q => ∃ G a xs ds ps, vs = [.ref a] ∧ Ex G H ∧ SqL K H a xs ∧ RpAll K G xs ds ∧ prK ds = some ps ∧ (∀ p ∈ ps, keyOk p.1 = true) ∧ ps.length < 1000 ∧
  ∀ p ys, H p = none → DctR K G ys (stAll [] ps) → Q (.ref p) (upd H p (DctO w p ys))
theorem call_dictN (hc : X.calm = true) (hu : X.A.units + 70 < cLine) : CallR X (.type "dict") (rDictN X.w X.K) := by
  intro pins s σ H vs us Q I r h
  obtain ⟨G, a, xs, ds, ps, rfl, eG, hs, ra, hp, hk, hl, q⟩ := h
  rw [Vals.ref1 r]
  obtain ⟨its, rv, pl, hz⟩ := I.list hs
  obtain ⟨L, e1, R⟩ := prR_of I eG ds xs its ps ra rv hp hk
  have hL := R.length
  have ln : (L.map fun t => (Value.ref t.2.1, t.2.2)).length = L.length := List.length_map ..
  obtain ⟨o, n, ho, hcl, hd, hdat⟩ := pl
  have P := PairArg.list (prog := X.prog) (w := X.w) a its.toArray (fun j => (L.getD j (0, 0, .none)).1) (L.map fun t => (Value.ref t.2.1, t.2.2))
  have stay : ∀ h' : Heap, (∀ b o, s.heap.get? b = some o → h'.get? b = some o) → ∀ x ∈ trip L ps, (nestedKind X.prog X.w).is h' x.1 x.2.1 := fun h' hk' x hx => by
    obtain ⟨j, t, p, g1, g2, rfl⟩ := trip_mem hL hx
    obtain ⟨p', g3, _, k1, k2, _⟩ := R.at j t g1
    rw [g2] at g3
    cases g3
    obtain ⟨b, e, z⟩ := key_is (I.kept (t' := s.toks) hk') eG k2 k1
    cases e
    exact z
  refine call_dict_pairsH (knd := nestedKind X.prog X.w) (ps := trip L ps) P (I.ok.hd hc) (room_n (by show X.A.units + 1 + 65 < cLine; omega)) ⟨⟨o, n, ho, hcl, hd, hdat⟩, ?_, ?_⟩ ⟨?_, ?_⟩ ?_ ?_ fun h' tk dd hkp => ?_
  · rw [e1, ln]
    simp
  · intro j k v hj
    rw [List.getElem?_map] at hj
    cases ht : L[j]? with
    | none => rw [ht] at hj; cases hj
    | some t =>
      rw [ht] at hj
      cases hj
      obtain ⟨p, _, tp, _⟩ := R.at j t ht
      have eT : (L.getD j (0, 0, .none)).1 = t.1 := by rw [List.getD_eq_getElem?_getD, ht]; rfl
      refine ⟨?_, .inl ?_⟩
      · rw [e1]
        simp [ht]
      · show s.heap.IsTuple (L.getD j (0, 0, .none)).1 _
        rw [eT]
        exact tp
  · rw [ln, trip_len hL]
  · intro i key v hr
    have hr : (L.map fun t => (Value.ref t.2.1, t.2.2))[i]? = some (key, v) := hr
    rw [List.getElem?_map] at hr
    cases ht : L[i]? with
    | none => rw [ht] at hr; cases hr
    | some t =>
      rw [ht] at hr
      cases hr
      obtain ⟨p, hp', _⟩ := R.at i t ht
      exact ⟨_, _, trip_at ht hp', rfl⟩
  · exact fun h' hk' x hx => stay h' (fun b o e => hk' b o (Nat.ne_of_lt (Heap.lt_size e)) (fun z => nomatch z) e) x hx
  · rw [ln, sizeLine_eq]
    omega
  · have hm : (s.heap.objs.size == sysModules) = false := beq_eq_false_iff_ne.mpr (Nat.ne_of_gt I.big)
    have hlen : (storedAllH ([] : List (NestedKey × Addr × Value)) (trip L ps)).length ≤ sizeLine := by
      have := storedAllH_length (trip L ps) ([] : List (NestedKey × Addr × Value))
      rw [trip_len hL] at this
      rw [sizeLine_eq]
      simp only [List.length_nil] at this
      omega
    exact ⟨.ref s.heap.objs.size, upd H s.heap.objs.size (DctO X.w s.heap.objs.size (storedAllH [] (trip L ps))), I.laid (t' := tk) (fun b o e => hkp b o (fun z => nomatch z) e) (Nat.le_refl _) (dct_ok dd hlen hm), rfl, q _ _ (I.hok.fresh (Nat.le_refl _)) (R.stored .nil)⟩
theorem un70 {k : Nat} {A : Around} (r : Room k A) : A.units + 70 < cLine := by have := r.un; omega
end
section
variable {w : World} {K : PySem.W.Frag} {mg : Str → Option Value} {G0 H0 G H : Hp} {ε : Ev} {σ : L2.St}
theorem EnvOk.setDctN {i : Nat} {p : Addr} {xs : List (NestedKey × Addr × Value)} {kvs : List (D × D)} (e : EnvOk w K mg G0 H0 ε σ G H) (hH : H p = none) (r : DctR K G xs kvs) : EnvOk w K mg G0 H0 (ε.set i (.dct kvs)) (σ.set i (some (.ref p))) G (upd H p (DctO w p xs)) := by
  have e1 := e.setDct (i := i) hH
  by_cases hi : i < ε.length
  · have h1 : (ε.set i (Sl.dct []))[i]? = some (.dct []) := List.getElem?_set_self hi
    obtain ⟨a, ys, g1, g2, g3, g4, _⟩ := e1.dct h1
    have g0 : (σ.set i (some (V.ref p)))[i]? = some (some (.ref p)) := List.getElem?_set_self (by rw [← e.len]; exact hi)
    rw [g0] at g1
    cases g1
    have e2 := e1.changeD h1 g0 g2 g3 g4 r
    rw [List.set_set, upd_upd] at e2
    exact e2
  · have z : ∀ x : Sl, ε.set i x = ε := fun x => List.set_eq_of_length_le (by omega)
    have z2 : ∀ x : Option V, σ.set i x = σ := fun x => List.set_eq_of_length_le (by rw [← e.len]; omega)
    rw [z, z2]
    exact e.on (Ext.open_ e.gh hH)
end
section
variable {X : Cx} {E : XK} {e : Expr} {f : DE} {p p2 pos pos2 : Pos}
theorem argsS {ε : Ev} {w : World} {K : PySem.W.Frag} {mg : Str → Option Value} {G0 H0 G H : Hp} {Dn : Ends} {k : D → Fl} {S : List D → List V → Hp → Hp → Prop} {P : List V → Hp → Prop} (q : PostS w K mg E G0 H0 G Dn (bindS (f ε) k)) (x0 : Ext G0 H0 G H)
    (F : ∀ d vs G' H', Ext G H G' H' → S [d] vs G' H' → PostS w K mg E G0 H0 G' Dn (k d) → P vs H') : Post mg E G H (dArgs [f] ε) S P := by
  unfold dArgs dArgs
  cases h : f ε with
  | ok d =>
    rw [h] at q
    exact fun b G2 H2 x2 r => F d b G2 H2 x2 r (PostS.up (fl := k d) q x2.gg)
  | rs c =>
    rw [h] at q
    exact fun G2 H2 x2 => q G2 H2 (x0.trans x2) x2.gg
  | no =>
    rw [h] at q
    exact q
theorem s_dctL (hc : X.calm = true) (hu : X.A.units + 70 < cLine) (i : Nat) {x : Str} {pos' : Pos} (hg : Gl X "dict") (hm : X.mg "dict" = none) (hN : X.N.Nodup) (ha : PAw X E [e] (dArgs [f])) (hi : X.N[i]? = some x := by rfl) (hx : Loc X.env.scope x := by first | exact Or.inl rfl | exact Or.inr rfl)
    (he : starEach [e] X.env = (false, eval e X.env) :: starEach [] X.env := by rfl) (hs : swapsWith (.Call (.Name "dict" p) [e] [] pos2) (some (.Name x pos')) pos.line X.env = pure false := by rfl)
    (hf : X.fn x = true ∨ X.env.scope.names.lookup x = some .local := by first | exact .inl rfl | exact .inr rfl) : PSd X E (.Assign [.Name x pos'] (.Call (.Name "dict" p) [e] [] pos2) pos) (sDctL i f) :=
  PS.weak (ps_set hN hi hx (pe_callTy (call_dictN hc hu) hg hm (by decide +kernel) ha (by decide) (by decide) he) hs hf) fun Dn σ H ⟨G0, H0, ε, G, ev, q⟩ => by
    refine ⟨G0, H0, ε, G, ev, argsS q ev.ext fun d vs G1 H1 x1 r q1 => ?_⟩
    obtain ⟨v, rfl, w⟩ := vw1 r
    unfold bindK at q1
    split at q1
    · rename_i ds
      obtain ⟨a, vs, rfl, s1, r1⟩ := w.lst x1.gh
      split at q1
      · rename_i ps hp
        split at q1
        · rename_i hk
          refine ⟨G1, a, vs, ds, ps, rfl, x1.gh, s1, r1, hp, fun p hpm => List.all_eq_true.mp hk.1 p hpm, hk.2, fun b ys hb dr => ?_⟩
          exact q1 _ G1 _ ((ev.on x1).setDctN hb dr) (Ex.refl _)
        · exact q1.elim
      · exact q1.elim
    · exact q1.elim
/-! ### len(set(pairs of ints)), all unlike -/
def oLenSet : D → Option D
  | .lst ds => (match prsOf ds with
    | some l => if l.Nodup ∧ l.length < 64 then some (.int l.length) else none
    | none => none)
  | _ => none
theorem oLenSet_lst (ds : List D) : oLenSet (.lst ds) = (match prsOf ds with
    | some l => if l.Nodup ∧ l.length < 64 then some (.int l.length) else none
    | none => none) := rfl
def prL (x : Int × Int) : List Int := [x.1, x.2]
def rLenT (P : Program) (w : World) : List V → Hp → VK → Prop := fun vs H Q => ∃ (a : Addr) (L : List (Addr × List Int)), vs = [V.ref a] ∧ H a = some (SetTO P w a L) ∧ ((L.map (·.2)).Nodup → L.length < 64 → Q (.int L.length) H)
theorem call_lenT : CallR X (.builtin "len") (rLenT X.prog X.w) := by
  intro pins s σ H vs us Q I r h
  obtain ⟨a, L, rfl, hH, q⟩ := h
  rw [Vals.ref1 r]
  obtain ⟨⟨es, ep, t, ⟨o, ho, hex, hd⟩, hr, ht, hn, hp, hl, hroom, hf⟩, _, _⟩ := I.hok a _ hH
  have hsz : es.size = L.length := by
    have := congrArg List.length hr
    rw [Array.length_toList] at this
    rw [this]
    simp [rowsOf]
  have hfit : t.fits es.size = true := by
    unfold SetTable.fits SetTable.fill
    have h1 := ht.sz
    have h2 := ht.dm
    rw [List.length_map] at h1
    rw [h1, h2, hsz]
    simp
    omega
  refine call_len_set ho hex hd hfit (by omega) ?_
  rw [hsz]
  exact ⟨.int L.length, H, I.tok _, ⟨_, rfl⟩, q hn hf⟩
theorem rp_prs {K : PySem.W.Frag} {G H : Hp} (e : Ex G H) : ∀ (l : List (Int × Int)) (xs : List V), RpAll K G xs (l.map prD2) → ∃ ks : List (Addr × List Int), xs = ks.map (fun p => V.ref p.1) ∧ ks.map (·.2) = l.map prL ∧ ∀ p ∈ ks, SqT K H p.1 (p.2.map V.int)
  | [], xs, h => by
    cases h
    exact ⟨[], rfl, rfl, fun p hp => by cases hp⟩
  | x :: l, xs, h => by
    cases h with
    | cons h1 h2 =>
      obtain ⟨ks, a1, a2, a3⟩ := rp_prs e l _ h2
      cases h1 with
      | tup hs ha =>
        rename_i t vs
        cases ha with
        | cons b1 b2 =>
          cases b2 with
          | cons b3 b4 =>
            cases b4
            cases b1
            cases b3
            refine ⟨(t, prL x) :: ks, by rw [a1]; rfl, by rw [List.map_cons, List.map_cons, a2], fun p hp => ?_⟩
            rcases List.mem_cons.mp hp with rfl | hp
            · exact ex_t e hs
            · exact a3 p hp
theorem nodup_same {α : Type} [DecidableEq α] : ∀ {l m : List α}, l.Nodup → m.Nodup → (∀ x, x ∈ l ↔ x ∈ m) → l.length = m.length := fun {l m} h1 h2 h => by
  have p : l.Perm m := (List.perm_ext_iff_of_nodup h1 h2).mpr fun x => h x
  exact p.length_eq
theorem pd_lenSet (hc : X.calm = true) (hu : X.A.units + 70 < cLine) (hg : Gl X "len") (hm : X.mg "len" = none) (hg2 : Gl X "set") (hm2 : X.mg "set" = none) (ha : PAw X E [e] (dArgs [f])) (he : starEach [e] X.env = (false, eval e X.env) :: starEach [] X.env := by rfl)
    (he2 : starEach [.Call (.Name "set" p2) [e] [] pos2] X.env = (false, eval (.Call (.Name "set" p2) [e] [] pos2) X.env) :: starEach [] X.env := by rfl) :
    PD X E (.Call (.Name "len" p) [.Call (.Name "set" p2) [e] [] pos2] [] pos) (d1 oLenSet f) :=
  PE.weak (pe_callB call_lenT hg hm PySem.boot_len (pa_cons (pe_callTy (cr_setOfT hc (by omega)) hg2 hm2 (by decide +kernel) ha (by decide) (by decide) he) pa_nil he2) (by decide) (by decide) he2) fun σ H Q ⟨G0, H0, ε, G, ev, q⟩ => by
    refine ⟨G0, H0, ε, G, ev, args1 q fun d vs G1 H1 x1 r q1 => ?_⟩
    obtain ⟨v, rfl, w⟩ := vw1 r
    obtain ⟨d', hd, q2⟩ := q1.of
    unfold oLenSet at hd
    split at hd
    · rename_i ds
      obtain ⟨a, vs, rfl, s1, r1⟩ := w.lst x1.gh
      split at hd
      · rename_i l hb
        split at hd
        · rename_i hn
          cases hd
          rw [prsOf_eq hb] at r1
          obtain ⟨ks, rfl, k1, k2⟩ := rp_prs x1.gh l vs r1
          have kl : ks.length = l.length := by have := congrArg List.length k1; simpa using this
          refine ⟨a, ks, rfl, s1, k2, by omega, fun b L hb hL1 hL2 => ?_⟩
          refine ⟨b, L, rfl, upd_same, fun nd _ => ?_⟩
          have hinj : ∀ x y : Int × Int, prL x = prL y → x = y := fun x y e => by
            rcases x with ⟨a, b⟩
            rcases y with ⟨c, d⟩
            unfold prL at e
            simp at e
            rw [e.1, e.2]
          have nk : (ks.map (·.2)).Nodup := by
            rw [k1]
            exact List.Pairwise.map _ (fun x y hxy e => hxy (hinj x y e)) hn.1
          have len : (L.map (·.2)).length = (ks.map (·.2)).length := nodup_same nd nk fun z => by
            constructor
            · intro hz
              obtain ⟨p, hp, rfl⟩ := List.mem_map.mp hz
              exact List.mem_map.mpr ⟨p, hL1 p hp, rfl⟩
            · intro hz
              obtain ⟨p, hp, rfl⟩ := List.mem_map.mp hz
              exact hL2 p hp
          rw [List.length_map, List.length_map, kl] at len
          rw [len]
          exact q2 _ G1 _ (Ext.open_ x1.gh hb) (.int _)
        · cases hd
      · cases hd
    · cases hd
end
end PL

set_option Elab.async false
set_option linter.all false
set_option maxRecDepth 100000
set_option maxHeartbeats 4000000
namespace W
open PySem PySem.Spec PyProof.Rows L2 PL
theorem bk_ok {N : List Str} {sc scope : Scope} {own : List (Str × Nat)} (h : blkC N sc scope own = true) : BlkOk N sc scope own := blkOk_by h
/-! the text -/
def topS (i : Nat) : Stmt := PySem.Challenge.pw_rowsong_k80_whole_made.main.body.getD i (.Pass ⟨0, 0, 0, 0⟩)
abbrev s_is_whole : Stmt := topS 13
theorem sc_is_whole : FnScope ["thing"] ["thing"] (defScope s_is_whole) := ⟨rfl, rfl, rfl, by decide +kernel, rfl, by decide +kernel, by decide +kernel⟩
abbrev s_is_between : Stmt := topS 14
theorem sc_is_between : FnScope ["thing", "low", "high"] ["thing", "low", "high"] (defScope s_is_between) := ⟨rfl, rfl, rfl, by decide +kernel, rfl, by decide +kernel, by decide +kernel⟩
abbrev s_is_sound : Stmt := topS 15
theorem sc_is_sound : FnScope ["thing"] ["thing"] (defScope s_is_sound) := ⟨rfl, rfl, rfl, by decide +kernel, rfl, by decide +kernel, by decide +kernel⟩
abbrev s_is_deed : Stmt := topS 16
theorem sc_is_deed : FnScope ["thing", "places"] ["thing", "places"] (defScope s_is_deed) := ⟨rfl, rfl, rfl, by decide +kernel, rfl, by decide +kernel, by decide +kernel⟩
abbrev s_is_box : Stmt := topS 17
theorem sc_is_box : FnScope ["thing", "places"] ["thing", "places"] (defScope s_is_box) := ⟨rfl, rfl, rfl, by decide +kernel, rfl, by decide +kernel, by decide +kernel⟩
abbrev s_is_row : Stmt := topS 18
theorem sc_is_row : FnScope ["thing", "places", "box"] ["thing", "places"] (defScope s_is_row) := ⟨rfl, rfl, rfl, by decide +kernel, rfl, by decide +kernel, by decide +kernel⟩
abbrev s_is_pattern : Stmt := topS 19
theorem sc_is_pattern : FnScope ["thing", "places", "row"] ["thing", "places"] (defScope s_is_pattern) := ⟨rfl, rfl, rfl, by decide +kernel, rfl, by decide +kernel, by decide +kernel⟩
abbrev s_is_song : Stmt := topS 20
theorem sc_is_song : FnScope ["thing", "pattern", "number", "many", "row"] ["thing"] (defScope s_is_song) := ⟨rfl, rfl, rfl, by decide +kernel, rfl, by decide +kernel, by decide +kernel⟩
abbrev s_voices_of : Stmt := topS 21
theorem sc_voices_of : FnScope ["song"] ["song"] (defScope s_voices_of) := ⟨rfl, rfl, rfl, by decide +kernel, rfl, by decide +kernel, by decide +kernel⟩
abbrev s_pattern_at : Stmt := topS 22
theorem sc_pattern_at : FnScope ["song", "place"] ["song", "place"] (defScope s_pattern_at) := ⟨rfl, rfl, rfl, by decide +kernel, rfl, by decide +kernel, by decide +kernel⟩
abbrev s_number_by : Stmt := topS 23
theorem sc_number_by : FnScope ["row", "word", "found", "sound", "deed"] ["row", "word"] (defScope s_number_by) := ⟨rfl, rfl, rfl, by decide +kernel, rfl, by decide +kernel, by decide +kernel⟩
abbrev s_slide_for : Stmt := topS 25
theorem sc_slide_for : FnScope ["part", "by", "at"] ["part"] (defScope s_slide_for) := ⟨rfl, rfl, rfl, by decide +kernel, rfl, by decide +kernel, by decide +kernel⟩
abbrev s_boxes_for : Stmt := topS 26
theorem sc_boxes_for : FnScope ["heights", "at", "many", "speed", "made", "voice", "part", "k", "by", "sound"] ["heights", "at", "many", "speed"] (defScope s_boxes_for) := ⟨rfl, rfl, rfl, by decide +kernel, rfl, by decide +kernel, by decide +kernel⟩
abbrev s_fewest_rows : Stmt := topS 27
theorem sc_fewest_rows : FnScope ["heights", "at", "speed", "book", "best", "many", "row", "rest"] ["heights", "at", "speed", "book"] (defScope s_fewest_rows) := ⟨rfl, rfl, rfl, by decide +kernel, rfl, by decide +kernel, by decide +kernel⟩
abbrev s_song_of : Stmt := topS 28
theorem sc_song_of : FnScope ["heights", "book", "speed", "at", "many", "rows", "patterns"] ["heights"] (defScope s_song_of) := ⟨rfl, rfl, rfl, by decide +kernel, rfl, by decide +kernel, by decide +kernel⟩
abbrev s_first_state : Stmt := topS 30
theorem sc_first_state : FnScope ["song"] ["song"] (defScope s_first_state) := ⟨rfl, rfl, rfl, by decide +kernel, rfl, by decide +kernel, by decide +kernel⟩
abbrev s_struck : Stmt := topS 31
theorem sc_struck : FnScope ["height", "box"] ["height", "box"] (defScope s_struck) := ⟨rfl, rfl, rfl, by decide +kernel, rfl, by decide +kernel, by decide +kernel⟩
abbrev s_slid : Stmt := topS 32
theorem sc_slid : FnScope ["height", "box"] ["height", "box"] (defScope s_slid) := ⟨rfl, rfl, rfl, by decide +kernel, rfl, by decide +kernel, by decide +kernel⟩
abbrev s_place_behind : Stmt := topS 33
theorem sc_place_behind : FnScope ["song", "place", "row", "boxes", "jump", "skip", "goal"] ["song", "place", "row"] (defScope s_place_behind) := ⟨rfl, rfl, rfl, by decide +kernel, rfl, by decide +kernel, by decide +kernel⟩
abbrev s_state_on : Stmt := topS 34
theorem sc_state_on : FnScope ["song", "state", "place", "row", "times", "moment", "speed", "heights", "again"] ["song", "state"] (defScope s_state_on) := ⟨rfl, rfl, rfl, by decide +kernel, rfl, by decide +kernel, by decide +kernel⟩
abbrev s_next_state : Stmt := topS 35
theorem sc_next_state : FnScope ["song", "state", "place", "row", "times", "moment", "speed", "heights", "boxes", "height", "box", "new"] ["song", "state"] (defScope s_next_state) := ⟨rfl, rfl, rfl, by decide +kernel, rfl, by decide +kernel, by decide +kernel⟩
abbrev s_heard_from : Stmt := topS 36
theorem sc_heard_from : FnScope ["song", "state", "many", "made", "moment"] ["song", "state", "many"] (defScope s_heard_from) := ⟨rfl, rfl, rfl, by decide +kernel, rfl, by decide +kernel, by decide +kernel⟩
abbrev s_heard : Stmt := topS 37
theorem sc_heard : FnScope ["song", "many"] ["song", "many"] (defScope s_heard) := ⟨rfl, rfl, rfl, by decide +kernel, rfl, by decide +kernel, by decide +kernel⟩
abbrev s_rows_played : Stmt := topS 38
theorem sc_rows_played : FnScope ["song", "many", "made", "state"] ["song", "many"] (defScope s_rows_played) := ⟨rfl, rfl, rfl, by decide +kernel, rfl, by decide +kernel, by decide +kernel⟩
abbrev s_row_starts : Stmt := topS 40
theorem sc_row_starts : FnScope ["song", "many", "made", "state", "moment"] ["song", "many"] (defScope s_row_starts) := ⟨rfl, rfl, rfl, by decide +kernel, rfl, by decide +kernel, by decide +kernel⟩
abbrev s_L_cell : Stmt := topS 42
theorem sc_L_cell : FnScope ["script", "k"] ["script", "k"] (defScope s_L_cell) := ⟨rfl, rfl, rfl, by decide +kernel, rfl, by decide +kernel, by decide +kernel⟩
abbrev s_L_pick : Stmt := topS 43
theorem sc_L_pick : FnScope ["script", "k", "many", "drawn"] ["script", "k", "many"] (defScope s_L_pick) := ⟨rfl, rfl, rfl, by decide +kernel, rfl, by decide +kernel, by decide +kernel⟩
abbrev s_L_box : Stmt := topS 44
theorem sc_L_box : FnScope ["script", "at", "places", "drawn", "sound", "way", "word", "least"] ["script", "at", "places"] (defScope s_L_box) := ⟨rfl, rfl, rfl, by decide +kernel, rfl, by decide +kernel, by decide +kernel⟩
abbrev s_L_song : Stmt := topS 45
theorem sc_L_song : FnScope ["script", "at", "most", "places", "many", "voices", "patterns", "j", "rows", "k", "base", "v", "order"] ["script", "at", "most"] (defScope s_L_song) := ⟨rfl, rfl, rfl, by decide +kernel, rfl, by decide +kernel, by decide +kernel⟩
abbrev s_L_slides : Stmt := topS 46
theorem sc_L_slides : FnScope ["part", "steps", "k"] ["part"] (defScope s_L_slides) := ⟨rfl, rfl, rfl, by decide +kernel, rfl, by decide +kernel, by decide +kernel⟩
abbrev s_L_fewest : Stmt := topS 47
theorem sc_L_fewest : FnScope ["heights", "size", "book", "speed", "at", "some", "many", "parts", "row", "voice", "slides", "part"] ["heights"] (defScope s_L_fewest) := ⟨rfl, rfl, rfl, by decide +kernel, rfl, by decide +kernel, by decide +kernel⟩
abbrev s_L_heights : Stmt := topS 48
theorem sc_L_heights : FnScope ["script", "at", "voices", "row", "made", "moment", "voice", "way"] ["script", "at"] (defScope s_L_heights) := ⟨rfl, rfl, rfl, by decide +kernel, rfl, by decide +kernel, by decide +kernel⟩
abbrev s_law : Stmt := topS 49
theorem sc_law : FnScope ["script", "heights", "way", "starts", "voice", "moment", "one", "song", "rows", "pattern", "row", "box", "sizes"] ["script"] (defScope s_law) := ⟨rfl, rfl, rfl, by decide +kernel, rfl, by decide +kernel, by decide +kernel⟩
/-! what it denotes -/
/-- 0 thing -/
def B_is_whole : DS :=
    (sRet (dAnd (d1 (oIsi "int") (dVar 0)) (dNot (d1 (oIsi "bool") (dVar 0)))))
def M_is_whole : List D → Out D := runD 1 B_is_whole
/-- 0 thing, 1 low, 2 high -/
def B_is_between : DS :=
    (sRet (dAnd (dCall M_is_whole (dArgs [(dVar 0)])) (dCh oLe oLe (dVar 1) (dVar 0) (dVar 2))))
def M_is_between : List D → Out D := runD 3 B_is_between
/-- 0 thing -/
def B_is_sound : DS :=
    (sRet (dOr (d2 oIs (dVar 0) (dC .non)) (dOr (dAnd (d1 (oIsi "str") (dVar 0)) (d2 oEq (dVar 0) (dC (.str "off")))) (dCall M_is_between (dArgs [(dVar 0), (dC (.int 0)), (d2 oSub (dC (.int 12)) (dC (.int 1)))])))))
def M_is_sound : List D → Out D := runD 1 B_is_sound
/-- 0 thing, 1 places -/
def B_is_deed : DS :=
    (sSeq (sIf (dTestB (d2 oIs (dVar 0) (dC .non)))
    (sRet (dC (.bl true)))
    sNil)
    (sSeq (sIf (dOrT (dNotT (dTest (d1 (oIsi "tuple") (dVar 0)))) (dOrT (dTestB (d2 oNe (d1 oLen (dVar 0)) (dC (.int 2)))) (dOrT (dNotT (dTest (d1 (oIsi "str") (d2 oIx (dVar 0) (dC (.int 0)))))) (dTestB (d1 (oTabIn [("speed", 1), ("slide", (-6)), ("jump", 0), ("skip", 0), ("again", 1)] not) (d2 oIx (dVar 0) (dC (.int 0))))))))
    (sRet (dC (.bl false)))
    sNil)
    (sSeq (sIf (dNotT (dTest (dCall M_is_between (dArgs [(d2 oIx (dVar 0) (dC (.int 1))), (d1 (oTabIx [("speed", 1), ("slide", (-6)), ("jump", 0), ("skip", 0), ("again", 1)]) (d2 oIx (dVar 0) (dC (.int 0)))), (d1 (oTabIx [("speed", 4), ("slide", 6), ("jump", 5), ("skip", 5), ("again", 3)]) (d2 oIx (dVar 0) (dC (.int 0))))]))))
    (sRet (dC (.bl false)))
    sNil)
    (sRet (dOr (d2 oNe (d2 oIx (dVar 0) (dC (.int 0))) (dC (.str "jump"))) (d2 oLt (d2 oIx (dVar 0) (dC (.int 1))) (dVar 1)))))))
def M_is_deed : List D → Out D := runD 2 B_is_deed
/-- 0 thing, 1 places -/
def B_is_box : DS :=
    (sRet (dAnd (d1 (oIsi "tuple") (dVar 0)) (dAnd (d2 oEq (d1 oLen (dVar 0)) (dC (.int 2))) (dAnd (dCall M_is_sound (dArgs [(d2 oIx (dVar 0) (dC (.int 0)))])) (dCall M_is_deed (dArgs [(d2 oIx (dVar 0) (dC (.int 1))), (dVar 1)]))))))
def M_is_box : List D → Out D := runD 2 B_is_box
/-- 0 thing, 1 places, 2 box -/
abbrev E_is_row_1 : DE :=
    (dCall M_is_box (dArgs [(dVar 2), (dVar 1)]))
def B_is_row : DS :=
    (sSeq (sIf (dOrT (dNotT (dTest (d1 (oIsi "tuple") (dVar 0)))) (dNotT (dTestB (dCh oLe oLe (dC (.int 1)) (d1 oLen (dVar 0)) (dC (.int 3))))))
    (sRet (dC (.bl false)))
    sNil)
    (sRet (d1 oAll (dLst (lComp [2] (iSq (dVar 0)) (tgN 2) dYes E_is_row_1)))))
def M_is_row : List D → Out D := runD 3 B_is_row
/-- 0 thing, 1 places, 2 row -/
abbrev E_is_pattern_1 : DE :=
    (dCall M_is_row (dArgs [(dVar 2), (dVar 1)]))
def B_is_pattern : DS :=
    (sSeq (sIf (dOrT (dNotT (dTest (d1 (oIsi "tuple") (dVar 0)))) (dNotT (dTestB (dCh oLe oLe (dC (.int 1)) (d1 oLen (dVar 0)) (dC (.int 6))))))
    (sRet (dC (.bl false)))
    sNil)
    (sRet (d1 oAll (dLst (lComp [2] (iSq (dVar 0)) (tgN 2) dYes E_is_pattern_1)))))
def M_is_pattern : List D → Out D := runD 3 B_is_pattern
/-- 0 thing, 1 pattern, 2 number, 3 many, 4 row -/
abbrev E_is_song_1 : DE :=
    (dCall M_is_pattern (dArgs [(dVar 1), (d1 oLen (d2 oIx (dVar 0) (dC (.int 1))))]))
abbrev E_is_song_2 : DE :=
    (dCall M_is_between (dArgs [(dVar 2), (dC (.int 0)), (d2 oSub (d1 oLen (d2 oIx (dVar 0) (dC (.int 2)))) (dC (.int 1)))]))
abbrev E_is_song_3 : DE :=
    (d2 oEq (d1 oLen (dVar 4)) (dVar 3))
abbrev E_is_song_4 : DE :=
    (d1 oAll (dLst (lComp [4] (iSq (dVar 1)) (tgN 4) dYes E_is_song_3)))
def B_is_song : DS :=
    (sSeq (sIf (dOrT (dNotT (dTest (d1 (oIsi "tuple") (dVar 0)))) (dOrT (dTestB (d2 oNe (d1 oLen (dVar 0)) (dC (.int 3)))) (dNotT (dTest (dCall M_is_between (dArgs [(d2 oIx (dVar 0) (dC (.int 0))), (dC (.int 1)), (dC (.int 4))]))))))
    (sRet (dC (.bl false)))
    sNil)
    (sSeq (sIf (dOrT (dNotT (dTest (d1 (oIsi "tuple") (d2 oIx (dVar 0) (dC (.int 1)))))) (dNotT (dTestB (dCh oLe oLe (dC (.int 1)) (d1 oLen (d2 oIx (dVar 0) (dC (.int 1)))) (dC (.int 6))))))
    (sRet (dC (.bl false)))
    sNil)
    (sSeq (sIf (dOrT (dNotT (dTest (d1 (oIsi "tuple") (d2 oIx (dVar 0) (dC (.int 2)))))) (dNotT (dTestB (dCh oLe oLe (dC (.int 1)) (d1 oLen (d2 oIx (dVar 0) (dC (.int 2)))) (dC (.int 6))))))
    (sRet (dC (.bl false)))
    sNil)
    (sSeq (sIf (dNotT (dTest (d1 oAll (dLst (lComp [1] (iSq (d2 oIx (dVar 0) (dC (.int 2)))) (tgN 1) dYes E_is_song_1)))))
    (sRet (dC (.bl false)))
    sNil)
    (sSeq (sIf (dNotT (dTest (d1 oAll (dLst (lComp [2] (iSq (d2 oIx (dVar 0) (dC (.int 1)))) (tgN 2) dYes E_is_song_2)))))
    (sRet (dC (.bl false)))
    sNil)
    (sSeq (sSet 3 (d1 oLen (d2 oIx (d2 oIx (d2 oIx (dVar 0) (dC (.int 2))) (dC (.int 0))) (dC (.int 0)))))
    (sRet (d1 oAll (dLst (lComp [1] (iSq (d2 oIx (dVar 0) (dC (.int 2)))) (tgN 1) dYes E_is_song_4))))))))))
def M_is_song : List D → Out D := runD 5 B_is_song
/-- 0 song -/
def B_voices_of : DS :=
    (sRet (d1 oLen (d2 oIx (d2 oIx (d2 oIx (dVar 0) (dC (.int 2))) (dC (.int 0))) (dC (.int 0)))))
def M_voices_of : List D → Out D := runD 1 B_voices_of
/-- 0 song, 1 place -/
def B_pattern_at : DS :=
    (sRet (d2 oIx (d2 oIx (dVar 0) (dC (.int 2))) (d2 oIx (d2 oIx (dVar 0) (dC (.int 1))) (dVar 1))))
def M_pattern_at : List D → Out D := runD 2 B_pattern_at
/-- 0 row, 1 word, 2 found, 3 sound, 4 deed -/
abbrev B_number_by_1 : DS :=
    (sIf (dAndT (dTestB (d2 oIsNot (dVar 4) (dC .non))) (dTestB (d2 oEq (d2 oIx (dVar 4) (dC (.int 0))) (dVar 1))))
    (sSet 2 (d2 oIx (dVar 4) (dC (.int 1))))
    sNil)
def B_number_by : DS :=
    (sSeq (sSet 2 (dC .non))
    (sSeq (sFor (iSq (dVar 0)) (tgT [(tgN 3), (tgN 4)])
    B_number_by_1)
    (sRet (dVar 2))))
def M_number_by : List D → Out D := runD 5 B_number_by
/-- 0 part, 1 by, 2 at -/
abbrev E_slide_for_1 : DE :=
    (d2 oEq (d2 oIx (dVar 0) (dVar 2)) (d2 oMod (d2 oAdd (d2 oIx (dVar 0) (dC (.int 0))) (d2 oMul (dVar 1) (dVar 2))) (dC (.int 12))))
def B_slide_for : DS :=
    (sSeq (sIf (dTestB (d2 oIn (dC .non) (dVar 0)))
    (sRet (dIf (dTestB (d2 oEq (dVar 0) (d2 oMul (dLst (lLst [(dC .non)])) (d1 oLen (dVar 0))))) (dC (.int 0)) (dC .non)))
    sNil)
    (sSeq (sIf (dTestB (d2 oEq (d1 oLen (dVar 0)) (dC (.int 1))))
    (sRet (dC (.int 0)))
    sNil)
    (sSeq (sSet 1 (d2 oMod (d2 oSub (d2 oIx (dVar 0) (dC (.int 1))) (d2 oIx (dVar 0) (dC (.int 0)))) (dC (.int 12))))
    (sSeq (sIf (dTestB (d2 oGt (dVar 1) (dC (.int 6))))
    (sSet 1 (d2 oSub (dVar 1) (dC (.int 12))))
    sNil)
    (sSeq (sIf (dTest (d1 oAll (dLst (lComp [2] (iR1 (d1 oLen (dVar 0))) (tgN 2) dYes E_slide_for_1))))
    (sRet (dVar 1))
    sNil)
    (sRet (dC .non)))))))
def M_slide_for : List D → Out D := runD 3 B_slide_for
/-- 0 heights, 1 at, 2 many, 3 speed, 4 made, 5 voice, 6 part, 7 k, 8 by, 9 sound -/
abbrev E_boxes_for_1 : DE :=
    (d2 oIx (d2 oIx (dVar 0) (d2 oAdd (dVar 1) (dVar 7))) (dVar 5))
abbrev B_boxes_for_1 : DS :=
    (sSeq (sSet 6 (dLst (lComp [7] (iR1 (dVar 2)) (tgN 7) dYes E_boxes_for_1)))
    (sSeq (sSet 8 (dCall M_slide_for (dArgs [(dVar 6)])))
    (sSeq (sIf (dTestB (d2 oIs (dVar 8) (dC .non)))
    (sRet (dC .non))
    sNil)
    (sSeq (sSet 9 (dIf (dTestB (d2 oIs (d2 oIx (dVar 6) (dC (.int 0))) (dC .non))) (dC (.str "off")) (d2 oIx (dVar 6) (dC (.int 0)))))
    (sApp 4 (dTup [(dVar 9), (dIf (dTestB (d2 oEq (dVar 8) (dC (.int 0)))) (dC .non) (dTup [(dC (.str "slide")), (dVar 8)]))]))))))
abbrev B_boxes_for_2 : DS :=
    (sIf (dTestB (d2 oIs (d2 oIx (d2 oIx (vVar 4) (dVar 5)) (dC (.int 1))) (dC .non)))
    (sSeq (sSub 4 (dVar 5) (dTup [(d2 oIx (d2 oIx (vVar 4) (dVar 5)) (dC (.int 0))), (dTup [(dC (.str "speed")), (dVar 2)])]))
    (sRet (d1 oTuple (vVar 4))))
    sNil)
def B_boxes_for : DS :=
    (sSeq (sOwn 4 (lLst []))
    (sSeq (sFor (iR1 (d1 oLen (d2 oIx (dVar 0) (dVar 1)))) (tgN 5)
    B_boxes_for_1)
    (sSeq (sIf (dTestB (d2 oEq (dVar 2) (dVar 3)))
    (sRet (d1 oTuple (vVar 4)))
    sNil)
    (sSeq (sFor (iR1 (d1 oLen (vVar 4))) (tgN 5)
    B_boxes_for_2)
    (sRet (dC .non))))))
def M_boxes_for : List D → Out D := runD 10 B_boxes_for
/-- 0 heights, 1 at, 2 speed, 3 book, 4 best, 5 many, 6 row, 7 rest -/
abbrev B_fewest_rows_1 : DS :=
    (sSeq (sSet 6 (dCall M_boxes_for (dArgs [(dVar 0), (dVar 1), (dVar 5), (dVar 2)])))
    (sSeq (sSet 7 (dVGet 3 (dTup [(d2 oAdd (dVar 1) (dVar 5)), (dVar 5)])))
    (sIf (dAndT (dTestB (d2 oIsNot (dVar 6) (dC .non))) (dOrT (dTestB (d2 oEq (dVar 4) (dLst (lLst [])))) (dTestB (d2 oLt (d2 oAdd (d1 oLen (dVar 7)) (dC (.int 1))) (d1 oLen (dVar 4))))))
    (sSet 4 (d2 oAdd (dLst (lLst [(dVar 6)])) (dVar 7)))
    sNil)))
def B_fewest_rows : DS :=
    (sSeq (sSet 4 (dLst (lLst [])))
    (sSeq (sFor (iR2 (dC (.int 1)) (d2 oAdd (d2 oMin2 (dC (.int 4)) (d2 oSub (d1 oLen (dVar 0)) (dVar 1))) (dC (.int 1)))) (tgN 5)
    B_fewest_rows_1)
    (sRet (dVar 4))))
def M_fewest_rows : List D → List (D × D) → Out D := runV 8 B_fewest_rows
/-- 0 heights, 1 book, 2 speed, 3 at, 4 many, 5 rows, 6 patterns -/
abbrev B_song_of_1 : DS :=
    (sDSet 1 (dTup [(d1 oLen (dVar 0)), (dVar 2)]) (dLst (lLst [])))
abbrev B_song_of_2 : DS :=
    (sDSet 1 (dTup [(dVar 3), (dVar 2)]) (dCallV M_fewest_rows (aAll [(dVar 0), (dVar 3), (dVar 2)] 1)))
abbrev B_song_of_3 : DS :=
    (sFor (iR2 (dC (.int 1)) (d2 oAdd (dC (.int 4)) (dC (.int 1)))) (tgN 2)
    B_song_of_2)
abbrev E_song_of_1 : DE :=
    (dTup [(d1 oLen (dDGet 1 (dTup [(dC (.int 0)), (dVar 2)]))), (dVar 2)])
abbrev E_song_of_2 : DE :=
    (d1 oTuple (dSl (dVar 5) (some (dVar 3)) (some (d2 oAdd (dVar 3) (dC (.int 6))))))
def B_song_of : DS :=
    (sSeq (sDct 1)
    (sSeq (sFor (iR2 (dC (.int 1)) (d2 oAdd (dC (.int 4)) (dC (.int 1)))) (tgN 2)
    B_song_of_1)
    (sSeq (sFor (iRd (d2 oSub (d1 oLen (dVar 0)) (dC (.int 1))) (d1 oNeg (dC (.int 1))) (d1 oNeg (dC (.int 1)))) (tgN 3)
    B_song_of_3)
    (sSeq (sAsg (d1 oMinP (dLst (lComp [2] (iR2 (dC (.int 1)) (d2 oAdd (dC (.int 4)) (dC (.int 1)))) (tgN 2) dYes E_song_of_1))) (tgT [(tgN 4), (tgN 2)]))
    (sSeq (sIf (dTestB (d2 oGt (dVar 4) (d2 oMul (dC (.int 6)) (dC (.int 6)))))
    (sRs "TooLong")
    sNil)
    (sSeq (sSet 5 (dDGet 1 (dTup [(dC (.int 0)), (dVar 2)])))
    (sSeq (sSet 6 (dLst (lComp [3] (iR3 (dC (.int 0)) (dVar 4) (dC (.int 6))) (tgN 3) dYes E_song_of_2)))
    (sRet (dTup [(dVar 2), (d1 oTuple (dLst (lRg1 (d1 oLen (dVar 6))))), (d1 oTuple (dVar 6))])))))))))
def M_song_of : List D → Out D := runX 7 B_song_of
/-- 0 song -/
def B_first_state : DS :=
    (sRet (dTup [(dC (.int 0)), (dC (.int 0)), (dC (.int 0)), (dC (.int 0)), (d2 oIx (dVar 0) (dC (.int 0))), (d2 oMul (dTup [(dC .non)]) (dCall M_voices_of (dArgs [(dVar 0)])))]))
def M_first_state : List D → Out D := runD 1 B_first_state
/-- 0 height, 1 box -/
def B_struck : DS :=
    (sSeq (sIf (dTestB (d2 oIs (d2 oIx (dVar 1) (dC (.int 0))) (dC .non)))
    (sRet (dVar 0))
    sNil)
    (sSeq (sIf (dTestB (d2 oEq (d2 oIx (dVar 1) (dC (.int 0))) (dC (.str "off"))))
    (sRet (dC .non))
    sNil)
    (sRet (d2 oIx (dVar 1) (dC (.int 0))))))
def M_struck : List D → Out D := runD 2 B_struck
/-- 0 height, 1 box -/
def B_slid : DS :=
    (sSeq (sIf (dOrT (dTestB (d2 oIs (dVar 0) (dC .non))) (dOrT (dTestB (d2 oIs (d2 oIx (dVar 1) (dC (.int 1))) (dC .non))) (dTestB (d2 oNe (d2 oIx (d2 oIx (dVar 1) (dC (.int 1))) (dC (.int 0))) (dC (.str "slide"))))))
    (sRet (dVar 0))
    sNil)
    (sRet (d2 oMod (d2 oAdd (dVar 0) (d2 oIx (d2 oIx (dVar 1) (dC (.int 1))) (dC (.int 1)))) (dC (.int 12)))))
def M_slid : List D → Out D := runD 2 B_slid
/-- 0 song, 1 place, 2 row, 3 boxes, 4 jump, 5 skip, 6 goal -/
def B_place_behind : DS :=
    (sSeq (sSet 3 (d2 oIx (dCall M_pattern_at (dArgs [(dVar 0), (dVar 1)])) (dVar 2)))
    (sSeq (sSet 4 (dCall M_number_by (dArgs [(dVar 3), (dC (.str "jump"))])))
    (sSeq (sSet 5 (dCall M_number_by (dArgs [(dVar 3), (dC (.str "skip"))])))
    (sSeq (sIf (dAndT (dTestB (d2 oIs (dVar 4) (dC .non))) (dAndT (dTestB (d2 oIs (dVar 5) (dC .non))) (dTestB (d2 oLt (d2 oAdd (dVar 2) (dC (.int 1))) (d1 oLen (dCall M_pattern_at (dArgs [(dVar 0), (dVar 1)])))))))
    (sRet (dTup [(dVar 1), (d2 oAdd (dVar 2) (dC (.int 1)))]))
    sNil)
    (sSeq (sSet 6 (d2 oMod (d2 oAdd (dVar 1) (dC (.int 1))) (d1 oLen (d2 oIx (dVar 0) (dC (.int 1))))))
    (sSeq (sIf (dTestB (d2 oIsNot (dVar 4) (dC .non)))
    (sSet 6 (dVar 4))
    sNil)
    (sSeq (sIf (dTestB (d2 oIs (dVar 5) (dC .non)))
    (sRet (dTup [(dVar 6), (dC (.int 0))]))
    sNil)
    (sRet (dTup [(dVar 6), (d2 oMin2 (dVar 5) (d2 oSub (d1 oLen (dCall M_pattern_at (dArgs [(dVar 0), (dVar 6)]))) (dC (.int 1))))])))))))))
def M_place_behind : List D → Out D := runD 7 B_place_behind
/-- 0 song, 1 state, 2 place, 3 row, 4 times, 5 moment, 6 speed, 7 heights, 8 again -/
def B_state_on : DS :=
    (sSeq (sAsg (dVar 1) (tgT [(tgN 2), (tgN 3), (tgN 4), (tgN 5), (tgN 6), (tgN 7)]))
    (sSeq (sSet 8 (dCall M_number_by (dArgs [(d2 oIx (dCall M_pattern_at (dArgs [(dVar 0), (dVar 2)])) (dVar 3)), (dC (.str "again"))])))
    (sSeq (sIf (dAndT (dTestB (d2 oIsNot (dVar 8) (dC .non))) (dTestB (d2 oLt (dVar 4) (dVar 8))))
    (sRet (dTup [(dVar 2), (dVar 3), (d2 oAdd (dVar 4) (dC (.int 1))), (dC (.int 0)), (dVar 6), (dVar 7)]))
    sNil)
    (sSeq (sAsg (dCall M_place_behind (dArgs [(dVar 0), (dVar 2), (dVar 3)])) (tgT [(tgN 2), (tgN 3)]))
    (sRet (dTup [(dVar 2), (dVar 3), (dC (.int 0)), (dC (.int 0)), (dVar 6), (dVar 7)]))))))
def M_state_on : List D → Out D := runD 9 B_state_on
/-- 0 song, 1 state, 2 place, 3 row, 4 times, 5 moment, 6 speed, 7 heights, 8 boxes, 9 height, 10 box, 11 new -/
abbrev E_next_state_1 : DE :=
    (dCall M_struck (dArgs [(dVar 9), (dVar 10)]))
abbrev E_next_state_2 : DE :=
    (dCall M_slid (dArgs [(dVar 9), (dVar 10)]))
def B_next_state : DS :=
    (sSeq (sAsg (dVar 1) (tgT [(tgN 2), (tgN 3), (tgN 4), (tgN 5), (tgN 6), (tgN 7)]))
    (sSeq (sSet 8 (d2 oIx (dCall M_pattern_at (dArgs [(dVar 0), (dVar 2)])) (dVar 3)))
    (sSeq (sIf (dTestB (d2 oEq (dVar 5) (dC (.int 0))))
    (sSeq (sSet 7 (d1 oTuple (dLst (lComp [9, 10] (iZp (dVar 7) (dVar 8)) (tgT [(tgN 9), (tgN 10)]) dYes E_next_state_1))))
    (sSeq (sSet 11 (dCall M_number_by (dArgs [(dVar 8), (dC (.str "speed"))])))
    (sIf (dTestB (d2 oIsNot (dVar 11) (dC .non)))
    (sSet 6 (dVar 11))
    sNil)))
    (sSet 7 (d1 oTuple (dLst (lComp [9, 10] (iZp (dVar 7) (dVar 8)) (tgT [(tgN 9), (tgN 10)]) dYes E_next_state_2)))))
    (sSeq (sSet 1 (dTup [(dVar 2), (dVar 3), (dVar 4), (d2 oAdd (dVar 5) (dC (.int 1))), (dVar 6), (dVar 7)]))
    (sSeq (sIf (dTestB (d2 oEq (d2 oAdd (dVar 5) (dC (.int 1))) (dVar 6)))
    (sRet (dCall M_state_on (dArgs [(dVar 0), (dVar 1)])))
    sNil)
    (sRet (dVar 1)))))))
def M_next_state : List D → Out D := runD 12 B_next_state
/-- 0 song, 1 state, 2 many, 3 made, 4 moment -/
abbrev B_heard_from_1 : DS :=
    (sSeq (sSet 1 (dCall M_next_state (dArgs [(dVar 0), (dVar 1)])))
    (sApp 3 (d2 oIx (dVar 1) (dC (.int 5)))))
def B_heard_from : DS :=
    (sSeq (sOwn 3 (lLst []))
    (sSeq (sFor (iR1 (dVar 2)) (tgN 4)
    B_heard_from_1)
    (sFrz 3 (sRet (dVar 3)))))
def M_heard_from : List D → Out D := runD 5 B_heard_from
/-- 0 song, 1 many -/
def B_heard : DS :=
    (sRet (dCall M_heard_from (dArgs [(dVar 0), (dCall M_first_state (dArgs [(dVar 0)])), (dVar 1)])))
def M_heard : List D → Out D := runD 2 B_heard
/-- 0 song, 1 many, 2 made, 3 state -/
abbrev B_rows_played_1 : DS :=
    (sSeq (sIf (dTestB (d2 oEq (d2 oIx (dVar 3) (dC (.int 3))) (dC (.int 0))))
    (sApp 2 (dSl (dVar 3) none (some (dC (.int 2)))))
    sNil)
    (sSet 3 (dCall M_next_state (dArgs [(dVar 0), (dVar 3)]))))
def B_rows_played : DS :=
    (sSeq (sOwn 2 (lLst []))
    (sSeq (sSet 3 (dCall M_first_state (dArgs [(dVar 0)])))
    (sSeq (sWhile 100000 (dTestB (d2 oLt (d1 oLen (vVar 2)) (dVar 1)))
    B_rows_played_1)
    (sFrz 2 (sRet (dVar 2))))))
def M_rows_played : List D → Out D := runD 4 B_rows_played
/-- 0 song, 1 many, 2 made, 3 state, 4 moment -/
abbrev B_row_starts_1 : DS :=
    (sSeq (sIf (dTestB (d2 oEq (d2 oIx (dVar 3) (dC (.int 3))) (dC (.int 0))))
    (sApp 2 (dVar 4))
    sNil)
    (sSeq (sSet 3 (dCall M_next_state (dArgs [(dVar 0), (dVar 3)])))
    (sSet 4 (d2 oAdd (dVar 4) (dC (.int 1))))))
def B_row_starts : DS :=
    (sSeq (sOwn 2 (lLst []))
    (sSeq (sSet 3 (dCall M_first_state (dArgs [(dVar 0)])))
    (sSeq (sSet 4 (dC (.int 0)))
    (sSeq (sWhile 100000 (dTestB (d2 oLt (d1 oLen (vVar 2)) (dVar 1)))
    B_row_starts_1)
    (sFrz 2 (sRet (dVar 2)))))))
def M_row_starts : List D → Out D := runD 5 B_row_starts
/-- 0 script, 1 k -/
def B_L_cell : DS :=
    (sSeq (sIf (dTestB (d2 oLt (dVar 1) (d1 oLen (dVar 0))))
    (sRet (d2 oIx (dVar 0) (dVar 1)))
    sNil)
    (sSeq (sIf (dTestB (d2 oEq (dVar 0) (dLst (lLst []))))
    (sRet (dC (.int 0)))
    sNil)
    (sRet (d2 oAdd (d2 oMul (d2 oIx (dVar 0) (d2 oMod (dVar 1) (d1 oLen (dVar 0)))) (dC (.int 31))) (dVar 1)))))
def M_L_cell : List D → Out D := runD 2 B_L_cell
/-- 0 script, 1 k, 2 many, 3 drawn -/
def B_L_pick : DS :=
    (sSeq (sSet 3 (d2 oMod (d2 oMul (d2 oAdd (dCall M_L_cell (dArgs [(dVar 0), (dVar 1)])) (d2 oMul (dC (.int 6151)) (d2 oAdd (dVar 1) (dC (.int 1))))) (dC (.int 40692))) (dC (.int 2147483399))))
    (sRet (d2 oMod (d2 oMod (d2 oAdd (d2 oMul (dVar 3) (dVar 3)) (d2 oFdiv (dVar 3) (dC (.int 31)))) (dC (.int 2147483629))) (dVar 2))))
def M_L_pick : List D → Out D := runD 4 B_L_pick
/-- 0 script, 1 at, 2 places, 3 drawn, 4 sound, 5 way, 6 word, 7 least -/
def B_L_box : DS :=
    (sSeq (sSet 3 (dCall M_L_pick (dArgs [(dVar 0), (dVar 1), (dC (.int 6))])))
    (sSeq (sSet 4 (dC .non))
    (sSeq (sIf (dTestB (d2 oGt (dVar 3) (dC (.int 2))))
    (sSet 4 (dIf (dTestB (d2 oEq (dVar 3) (dC (.int 3)))) (dC (.str "off")) (dCall M_L_pick (dArgs [(dVar 0), (d2 oAdd (dVar 1) (dC (.int 1))), (dC (.int 12))]))))
    sNil)
    (sSeq (sSet 5 (dCall M_L_pick (dArgs [(dVar 0), (d2 oAdd (dVar 1) (dC (.int 2))), (dC (.int 12))])))
    (sSeq (sIf (dTestB (d2 oGt (dVar 5) (dC (.int 5))))
    (sRet (dTup [(dVar 4), (dC .non)]))
    sNil)
    (sSeq (sSet 6 (d2 oIx (dLst (lLst [(dC (.str "speed")), (dC (.str "slide")), (dC (.str "slide")), (dC (.str "jump")), (dC (.str "skip")), (dC (.str "again"))])) (dVar 5)))
    (sSeq (sSet 7 (d2 oIx (dLst (lLst [(dC (.int 1)), (d1 oNeg (dC (.int 6))), (d1 oNeg (dC (.int 6))), (dC (.int 0)), (dC (.int 0)), (dC (.int 1))])) (dVar 5)))
    (sRet (dTup [(dVar 4), (dTup [(dVar 6), (d2 oAdd (dVar 7) (dCall M_L_pick (dArgs [(dVar 0), (d2 oAdd (dVar 1) (dC (.int 3))), (d2 oIx (dLst (lLst [(dC (.int 3)), (dC (.int 13)), (dC (.int 13)), (dVar 2), (dC (.int 6)), (dC (.int 2))])) (dVar 5))])))])])))))))))
def M_L_box : List D → Out D := runD 8 B_L_box
/-- 0 script, 1 at, 2 most, 3 places, 4 many, 5 voices, 6 patterns, 7 j, 8 rows, 9 k, 10 base, 11 v, 12 order -/
abbrev E_L_song_1 : DE :=
    (dCall M_L_box (dArgs [(dVar 0), (d2 oAdd (dVar 10) (d2 oMul (dC (.int 4)) (dVar 11))), (dVar 3)]))
abbrev B_L_song_1 : DS :=
    (sSeq (sSet 10 (d2 oAdd (d2 oAdd (d2 oAdd (dVar 1) (dC (.int 20))) (d2 oMul (dC (.int 50)) (dVar 7))) (d2 oMul (dC (.int 12)) (dVar 9))))
    (sApp 8 (d1 oTuple (dLst (lComp [11] (iR1 (dVar 5)) (tgN 11) dYes E_L_song_1)))))
abbrev B_L_song_2 : DS :=
    (sSeq (sOwn 8 (lLst []))
    (sSeq (sFor (iR1 (d2 oAdd (dC (.int 1)) (dCall M_L_pick (dArgs [(dVar 0), (d2 oAdd (d2 oAdd (dVar 1) (dC (.int 4))) (dVar 7)), (dVar 2)])))) (tgN 9)
    B_L_song_1)
    (sApp 6 (d1 oTuple (vVar 8)))))
abbrev E_L_song_2 : DE :=
    (dCall M_L_pick (dArgs [(dVar 0), (d2 oAdd (d2 oAdd (dVar 1) (dC (.int 8))) (dVar 9)), (dVar 4)]))
def B_L_song : DS :=
    (sSeq (sSet 3 (d2 oAdd (dC (.int 1)) (dCall M_L_pick (dArgs [(dVar 0), (dVar 1), (dVar 2)]))))
    (sSeq (sSet 4 (d2 oAdd (dC (.int 1)) (dCall M_L_pick (dArgs [(dVar 0), (d2 oAdd (dVar 1) (dC (.int 1))), (dC (.int 3))]))))
    (sSeq (sSet 5 (d2 oIx (dLst (lLst [(dC (.int 1)), (dC (.int 1)), (dC (.int 2)), (dC (.int 3))])) (dCall M_L_pick (dArgs [(dVar 0), (d2 oAdd (dVar 1) (dC (.int 2))), (dC (.int 4))]))))
    (sSeq (sOwn 6 (lLst []))
    (sSeq (sFor (iR1 (dVar 4)) (tgN 7)
    B_L_song_2)
    (sSeq (sSet 12 (d1 oTuple (dLst (lComp [9] (iR1 (dVar 3)) (tgN 9) dYes E_L_song_2))))
    (sRet (dTup [(d2 oAdd (dC (.int 1)) (dCall M_L_pick (dArgs [(dVar 0), (d2 oAdd (dVar 1) (dC (.int 3))), (dC (.int 4))]))), (dVar 12), (d1 oTuple (vVar 6))]))))))))
def M_L_song : List D → Out D := runD 13 B_L_song
/-- 0 part, 1 steps, 2 k -/
abbrev B_L_slides_1 : DS :=
    (sSeq (sIf (dTestB (d2 oNe (d2 oIs (d2 oIx (dVar 0) (dVar 2)) (dC .non)) (d2 oIs (d2 oIx (dVar 0) (d2 oSub (dVar 2) (dC (.int 1)))) (dC .non))))
    (sRet (dC .non))
    sNil)
    (sApp 1 (dIf (dTestB (d2 oIs (d2 oIx (dVar 0) (dVar 2)) (dC .non))) (dC (.int 0)) (d2 oMod (d2 oSub (d2 oIx (dVar 0) (dVar 2)) (d2 oIx (dVar 0) (d2 oSub (dVar 2) (dC (.int 1))))) (dC (.int 12))))))
def B_L_slides : DS :=
    (sSeq (sOwn 1 (lLst []))
    (sSeq (sFor (iR2 (dC (.int 1)) (d1 oLen (dVar 0))) (tgN 2)
    B_L_slides_1)
    (sSeq (sIf (dOrT (dTestB (d2 oEq (vVar 1) (dLst (lLst [])))) (dTestB (d2 oEq (vVar 1) (d2 oMul (dLst (lLst [(dC (.int 0))])) (d1 oLen (vVar 1))))))
    (sRet (dC (.int 0)))
    sNil)
    (sRet (dIf (dTestB (d2 oEq (vVar 1) (d2 oMul (dLst (lLst [(d2 oIx (vVar 1) (dC (.int 0)))])) (d1 oLen (vVar 1))))) (dC (.int 1)) (dC .non))))))
def M_L_slides : List D → Out D := runD 3 B_L_slides
/-- 0 heights, 1 size, 2 book, 3 speed, 4 at, 5 some, 6 many, 7 parts, 8 row, 9 voice, 10 slides, 11 part -/
abbrev E_L_fewest_1 : DE :=
    (dTup [(dTup [(dVar 1), (dVar 3)]), (dC (.int 0))])
abbrev E_L_fewest_2 : DE :=
    (d2 oIx (dVar 8) (dVar 9))
abbrev E_L_fewest_3 : DE :=
    (dLst (lComp [8] (iSq (dSl (dVar 0) (some (dVar 4)) (some (d2 oAdd (dVar 4) (dVar 6))))) (tgN 8) dYes E_L_fewest_2))
abbrev E_L_fewest_4 : DE :=
    (dCall M_L_slides (dArgs [(dVar 11)]))
abbrev B_L_fewest_1 : DS :=
    (sSeq (sSet 7 (dLst (lComp [9] (iR1 (d1 oLen (d2 oIx (dVar 0) (dC (.int 0))))) (tgN 9) dYes E_L_fewest_3)))
    (sSeq (sSet 10 (dLst (lComp [11] (iSq (dVar 7)) (tgN 11) dYes E_L_fewest_4)))
    (sIf (dAndT (dTestB (d2 oNotIn (dC .non) (dVar 10))) (dOrT (dTestB (d2 oEq (dVar 6) (dVar 3))) (dTestB (d2 oIn (dC (.int 0)) (dVar 10)))))
    (sApp 5 (d2 oAdd (dC (.int 1)) (dDGet 2 (dTup [(d2 oAdd (dVar 4) (dVar 6)), (dVar 6)]))))
    sNil)))
abbrev B_L_fewest_2 : DS :=
    (sSeq (sOwn 5 (lLst []))
    (sSeq (sFor (iR2 (dC (.int 1)) (d2 oAdd (d2 oMin2 (dC (.int 4)) (d2 oSub (dVar 1) (dVar 4))) (dC (.int 1)))) (tgN 6)
    B_L_fewest_1)
    (sDSet 2 (dTup [(dVar 4), (dVar 3)]) (d1 oMinL (vVar 5)))))
abbrev B_L_fewest_3 : DS :=
    (sFor (iR2 (dC (.int 1)) (dC (.int 5))) (tgN 3)
    B_L_fewest_2)
abbrev E_L_fewest_5 : DE :=
    (dDGet 2 (dTup [(dC (.int 0)), (dVar 3)]))
def B_L_fewest : DS :=
    (sSeq (sSet 1 (d1 oLen (dVar 0)))
    (sSeq (sDctL 2 (dLst (lComp [3] (iR2 (dC (.int 1)) (dC (.int 5))) (tgN 3) dYes E_L_fewest_1)))
    (sSeq (sFor (iRd (d2 oSub (dVar 1) (dC (.int 1))) (d1 oNeg (dC (.int 1))) (d1 oNeg (dC (.int 1)))) (tgN 4)
    B_L_fewest_3)
    (sRet (d1 oMinL (dLst (lComp [3] (iR2 (dC (.int 1)) (dC (.int 5))) (tgN 3) dYes E_L_fewest_5)))))))
def M_L_fewest : List D → Out D := runD 12 B_L_fewest
/-- 0 script, 1 at, 2 voices, 3 row, 4 made, 5 moment, 6 voice, 7 way -/
abbrev B_L_heights_1 : DS :=
    (sSeq (sSet 7 (dCall M_L_pick (dArgs [(dVar 0), (d2 oAdd (d2 oAdd (d2 oAdd (dVar 1) (dC (.int 2))) (d2 oMul (dC (.int 4)) (dVar 5))) (dVar 6)), (dC (.int 7))])))
    (sIf (dTestB (d2 oGt (dVar 7) (dC (.int 4))))
    (sSub 3 (dVar 6) (d2 oIx (dLst (lLst [(dC .non), (dCall M_L_pick (dArgs [(dVar 0), (d2 oAdd (d2 oAdd (d2 oAdd (dVar 1) (dC (.int 80))) (d2 oMul (dC (.int 4)) (dVar 5))) (dVar 6)), (dC (.int 12))]))])) (d2 oSub (dVar 7) (dC (.int 5)))))
    (sIf (dAndT (dTestB (d2 oGt (dVar 7) (dC (.int 1)))) (dTestB (d2 oIsNot (d2 oIx (vVar 3) (dVar 6)) (dC .non))))
    (sSub 3 (dVar 6) (d2 oMod (d2 oAdd (d2 oAdd (d2 oIx (vVar 3) (dVar 6)) (dVar 6)) (dC (.int 2))) (dC (.int 12))))
    sNil)))
abbrev B_L_heights_2 : DS :=
    (sSeq (sFor (iR1 (dVar 2)) (tgN 6)
    B_L_heights_1)
    (sApp 4 (d1 oTuple (vVar 3))))
def B_L_heights : DS :=
    (sSeq (sSet 2 (d2 oAdd (dC (.int 1)) (dCall M_L_pick (dArgs [(dVar 0), (dVar 1), (dC (.int 3))]))))
    (sSeq (sOwn 3 (lMul (dLst (lLst [(dC .non)])) (dVar 2)))
    (sSeq (sOwn 4 (lLst []))
    (sSeq (sFor (iR1 (d2 oAdd (dC (.int 1)) (dCall M_L_pick (dArgs [(dVar 0), (d2 oAdd (dVar 1) (dC (.int 1))), (dC (.int 16))])))) (tgN 5)
    B_L_heights_2)
    (sFrz 4 (sRet (dVar 4)))))))
def M_L_heights : List D → Out D := runD 8 B_L_heights
/-- 0 script, 1 heights, 2 way, 3 starts, 4 voice, 5 moment, 6 one, 7 song, 8 rows, 9 pattern, 10 row, 11 box, 12 sizes -/
abbrev E_law_1 : DE :=
    (dCall M_L_pick (dArgs [(dVar 0), (d2 oAdd (dC (.int 290)) (dVar 4)), (dC (.int 12))]))
abbrev E_law_2 : DE :=
    (d2 oMod (d2 oAdd (dVar 6) (d2 oMul (d2 oAdd (dVar 4) (dC (.int 2))) (dVar 5))) (dC (.int 12)))
abbrev B_law_1 : DS :=
    (sApp 1 (d1 oTuple (dLst (lComp [4, 6] (iEn (dVar 3)) (tgT [(tgN 4), (tgN 6)]) dYes E_law_2))))
abbrev B_law_2 : DS :=
    (sExt 8 (dLst (lList (dVar 9))))
abbrev C_law_1 : Ev → Out Bool :=
    (dAndT (dTestB (d2 oIsNot (d2 oIx (dVar 11) (dC (.int 1))) (dC .non))) (dTestB (d2 oIn (d2 oIx (d2 oIx (dVar 11) (dC (.int 1))) (dC (.int 0))) (dTup [(dC (.str "jump")), (dC (.str "skip")), (dC (.str "again"))]))))
abbrev E_law_3 : DE :=
    (dVar 11)
abbrev B_law_3 : DS :=
    (sIf (dTestB (d2 oNe (dLst (lComp [11] (iSq (dVar 10)) (tgN 11) C_law_1 E_law_3)) (dLst (lLst []))))
    (sRet (dC (.bl false)))
    sNil)
abbrev E_law_4 : DE :=
    (d1 oLen (dVar 9))
def B_law : DS :=
    (sSeq (sSet 1 (dCall M_L_heights (dArgs [(dVar 0), (dC (.int 300))])))
    (sSeq (sSet 2 (dCall M_L_pick (dArgs [(dVar 0), (dC (.int 299)), (dC (.int 5))])))
    (sSeq (sIf (dTestB (d2 oLt (dVar 2) (dC (.int 2))))
    (sSet 1 (dCall M_heard (dArgs [(dCall M_L_song (dArgs [(dVar 0), (dC (.int 0)), (dC (.int 4))])), (d2 oAdd (dC (.int 1)) (dCall M_L_pick (dArgs [(dVar 0), (dC (.int 298)), (dC (.int 16))])))])))
    (sIf (dTestB (d2 oEq (dVar 2) (dC (.int 2))))
    (sSeq (sSet 3 (dLst (lComp [4] (iR1 (d2 oAdd (dC (.int 1)) (dCall M_L_pick (dArgs [(dVar 0), (dC (.int 297)), (dC (.int 3))])))) (tgN 4) dYes E_law_1)))
    (sSeq (sOwn 1 (lLst []))
    (sFor (iR1 (d2 oAdd (dC (.int 2)) (dCall M_L_pick (dArgs [(dVar 0), (dC (.int 296)), (dC (.int 7))])))) (tgN 5)
    B_law_1)))
    sNil))
    (sSeq (sSet 7 (dCallX M_song_of (dArgs [(dLst (lList (vVar 1)))])))
    (sSeq (sIf (dOrT (dTestB (d2 oIsNot (dCall M_is_song (dArgs [(dVar 7)])) (dC (.bl true)))) (dTestB (d2 oNe (dCall M_heard (dArgs [(dVar 7), (d1 oLen (vVar 1))])) (vVar 1))))
    (sRet (dC (.bl false)))
    sNil)
    (sSeq (sOwn 8 (lLst []))
    (sSeq (sFor (iSq (d2 oIx (dVar 7) (dC (.int 2)))) (tgN 9)
    B_law_2)
    (sSeq (sFrz 8 (sFor (iSq (dVar 8)) (tgN 10)
    B_law_3))
    (sSeq (sSet 12 (dLst (lComp [9] (iSq (d2 oIx (dVar 7) (dC (.int 2)))) (tgN 9) dYes E_law_4)))
    (sSeq (sIf (dOrT (dTestB (d2 oNe (dSl (dVar 12) none (some (d1 oNeg (dC (.int 1))))) (d2 oMul (dLst (lLst [(dC (.int 6))])) (d2 oSub (d1 oLen (dVar 12)) (dC (.int 1)))))) (dTestB (d2 oNe (d2 oIx (dVar 7) (dC (.int 1))) (d1 oTuple (dLst (lRg1 (d1 oLen (dVar 12))))))))
    (sRet (dC (.bl false)))
    sNil)
    (sSeq (sIf (dTestB (d2 oNe (d2 oIx (dCall M_row_starts (dArgs [(dVar 7), (d2 oAdd (d1 oLen (vVar 8)) (dC (.int 1)))])) (d1 oNeg (dC (.int 1)))) (d1 oLen (vVar 1))))
    (sRet (dC (.bl false)))
    sNil)
    (sSeq (sIf (dTestB (d2 oNe (d1 oLenSet (dCall M_rows_played (dArgs [(dVar 7), (d1 oLen (vVar 8))]))) (d1 oLen (vVar 8))))
    (sRet (dC (.bl false)))
    sNil)
    (sFrz 1 (sRet (d2 oEq (d1 oLen (vVar 8)) (dCall M_L_fewest (dArgs [(dVar 1)])))))))))))))))))
def M_law : List D → Out D := runD 13 B_law
/-! what the top leaves -/
structure Top (w : World) (K : PySem.W.Frag) (mg : Str → Option Value) where
  f_is_whole : Addr
  fd_is_whole : FuncData
  F_is_whole : Fun K "is_whole" "is_whole" s_is_whole f_is_whole fd_is_whole
  b_is_whole : Binds K fd_is_whole ["thing"] []
  g_is_whole : mg "is_whole" = some (.ref f_is_whole)
  f_is_between : Addr
  fd_is_between : FuncData
  F_is_between : Fun K "is_between" "is_between" s_is_between f_is_between fd_is_between
  b_is_between : Binds K fd_is_between ["thing", "low", "high"] []
  g_is_between : mg "is_between" = some (.ref f_is_between)
  f_is_sound : Addr
  fd_is_sound : FuncData
  F_is_sound : Fun K "is_sound" "is_sound" s_is_sound f_is_sound fd_is_sound
  b_is_sound : Binds K fd_is_sound ["thing"] []
  g_is_sound : mg "is_sound" = some (.ref f_is_sound)
  f_is_deed : Addr
  fd_is_deed : FuncData
  F_is_deed : Fun K "is_deed" "is_deed" s_is_deed f_is_deed fd_is_deed
  b_is_deed : Binds K fd_is_deed ["thing", "places"] []
  g_is_deed : mg "is_deed" = some (.ref f_is_deed)
  f_is_box : Addr
  fd_is_box : FuncData
  F_is_box : Fun K "is_box" "is_box" s_is_box f_is_box fd_is_box
  b_is_box : Binds K fd_is_box ["thing", "places"] []
  g_is_box : mg "is_box" = some (.ref f_is_box)
  f_is_row : Addr
  fd_is_row : FuncData
  F_is_row : Fun K "is_row" "is_row" s_is_row f_is_row fd_is_row
  b_is_row : Binds K fd_is_row ["thing", "places"] []
  g_is_row : mg "is_row" = some (.ref f_is_row)
  f_is_pattern : Addr
  fd_is_pattern : FuncData
  F_is_pattern : Fun K "is_pattern" "is_pattern" s_is_pattern f_is_pattern fd_is_pattern
  b_is_pattern : Binds K fd_is_pattern ["thing", "places"] []
  g_is_pattern : mg "is_pattern" = some (.ref f_is_pattern)
  f_is_song : Addr
  fd_is_song : FuncData
  F_is_song : Fun K "is_song" "is_song" s_is_song f_is_song fd_is_song
  b_is_song : Binds K fd_is_song ["thing"] []
  g_is_song : mg "is_song" = some (.ref f_is_song)
  f_voices_of : Addr
  fd_voices_of : FuncData
  F_voices_of : Fun K "voices_of" "voices_of" s_voices_of f_voices_of fd_voices_of
  b_voices_of : Binds K fd_voices_of ["song"] []
  g_voices_of : mg "voices_of" = some (.ref f_voices_of)
  f_pattern_at : Addr
  fd_pattern_at : FuncData
  F_pattern_at : Fun K "pattern_at" "pattern_at" s_pattern_at f_pattern_at fd_pattern_at
  b_pattern_at : Binds K fd_pattern_at ["song", "place"] []
  g_pattern_at : mg "pattern_at" = some (.ref f_pattern_at)
  f_number_by : Addr
  fd_number_by : FuncData
  F_number_by : Fun K "number_by" "number_by" s_number_by f_number_by fd_number_by
  b_number_by : Binds K fd_number_by ["row", "word"] []
  g_number_by : mg "number_by" = some (.ref f_number_by)
  f_slide_for : Addr
  fd_slide_for : FuncData
  F_slide_for : Fun K "slide_for" "slide_for" s_slide_for f_slide_for fd_slide_for
  b_slide_for : Binds K fd_slide_for ["part"] []
  g_slide_for : mg "slide_for" = some (.ref f_slide_for)
  f_boxes_for : Addr
  fd_boxes_for : FuncData
  F_boxes_for : Fun K "boxes_for" "boxes_for" s_boxes_for f_boxes_for fd_boxes_for
  b_boxes_for : Binds K fd_boxes_for ["heights", "at", "many", "speed"] []
  g_boxes_for : mg "boxes_for" = some (.ref f_boxes_for)
  f_fewest_rows : Addr
  fd_fewest_rows : FuncData
  F_fewest_rows : Fun K "fewest_rows" "fewest_rows" s_fewest_rows f_fewest_rows fd_fewest_rows
  b_fewest_rows : Binds K fd_fewest_rows ["heights", "at", "speed", "book"] []
  g_fewest_rows : mg "fewest_rows" = some (.ref f_fewest_rows)
  f_song_of : Addr
  fd_song_of : FuncData
  F_song_of : Fun K "song_of" "song_of" s_song_of f_song_of fd_song_of
  b_song_of : Binds K fd_song_of ["heights"] []
  g_song_of : mg "song_of" = some (.ref f_song_of)
  f_first_state : Addr
  fd_first_state : FuncData
  F_first_state : Fun K "first_state" "first_state" s_first_state f_first_state fd_first_state
  b_first_state : Binds K fd_first_state ["song"] []
  g_first_state : mg "first_state" = some (.ref f_first_state)
  f_struck : Addr
  fd_struck : FuncData
  F_struck : Fun K "struck" "struck" s_struck f_struck fd_struck
  b_struck : Binds K fd_struck ["height", "box"] []
  g_struck : mg "struck" = some (.ref f_struck)
  f_slid : Addr
  fd_slid : FuncData
  F_slid : Fun K "slid" "slid" s_slid f_slid fd_slid
  b_slid : Binds K fd_slid ["height", "box"] []
  g_slid : mg "slid" = some (.ref f_slid)
  f_place_behind : Addr
  fd_place_behind : FuncData
  F_place_behind : Fun K "place_behind" "place_behind" s_place_behind f_place_behind fd_place_behind
  b_place_behind : Binds K fd_place_behind ["song", "place", "row"] []
  g_place_behind : mg "place_behind" = some (.ref f_place_behind)
  f_state_on : Addr
  fd_state_on : FuncData
  F_state_on : Fun K "state_on" "state_on" s_state_on f_state_on fd_state_on
  b_state_on : Binds K fd_state_on ["song", "state"] []
  g_state_on : mg "state_on" = some (.ref f_state_on)
  f_next_state : Addr
  fd_next_state : FuncData
  F_next_state : Fun K "next_state" "next_state" s_next_state f_next_state fd_next_state
  b_next_state : Binds K fd_next_state ["song", "state"] []
  g_next_state : mg "next_state" = some (.ref f_next_state)
  f_heard_from : Addr
  fd_heard_from : FuncData
  F_heard_from : Fun K "heard_from" "heard_from" s_heard_from f_heard_from fd_heard_from
  b_heard_from : Binds K fd_heard_from ["song", "state", "many"] []
  g_heard_from : mg "heard_from" = some (.ref f_heard_from)
  f_heard : Addr
  fd_heard : FuncData
  F_heard : Fun K "heard" "heard" s_heard f_heard fd_heard
  b_heard : Binds K fd_heard ["song", "many"] []
  g_heard : mg "heard" = some (.ref f_heard)
  f_rows_played : Addr
  fd_rows_played : FuncData
  F_rows_played : Fun K "rows_played" "rows_played" s_rows_played f_rows_played fd_rows_played
  b_rows_played : Binds K fd_rows_played ["song", "many"] []
  g_rows_played : mg "rows_played" = some (.ref f_rows_played)
  f_row_starts : Addr
  fd_row_starts : FuncData
  F_row_starts : Fun K "row_starts" "row_starts" s_row_starts f_row_starts fd_row_starts
  b_row_starts : Binds K fd_row_starts ["song", "many"] []
  g_row_starts : mg "row_starts" = some (.ref f_row_starts)
  f_L_cell : Addr
  fd_L_cell : FuncData
  F_L_cell : Fun K "_law_cell" "_law_cell" s_L_cell f_L_cell fd_L_cell
  b_L_cell : Binds K fd_L_cell ["script", "k"] []
  g_L_cell : mg "_law_cell" = some (.ref f_L_cell)
  f_L_pick : Addr
  fd_L_pick : FuncData
  F_L_pick : Fun K "_law_pick" "_law_pick" s_L_pick f_L_pick fd_L_pick
  b_L_pick : Binds K fd_L_pick ["script", "k", "many"] []
  g_L_pick : mg "_law_pick" = some (.ref f_L_pick)
  f_L_box : Addr
  fd_L_box : FuncData
  F_L_box : Fun K "_law_box" "_law_box" s_L_box f_L_box fd_L_box
  b_L_box : Binds K fd_L_box ["script", "at", "places"] []
  g_L_box : mg "_law_box" = some (.ref f_L_box)
  f_L_song : Addr
  fd_L_song : FuncData
  F_L_song : Fun K "_law_song" "_law_song" s_L_song f_L_song fd_L_song
  b_L_song : Binds K fd_L_song ["script", "at", "most"] []
  g_L_song : mg "_law_song" = some (.ref f_L_song)
  f_L_slides : Addr
  fd_L_slides : FuncData
  F_L_slides : Fun K "_law_slides" "_law_slides" s_L_slides f_L_slides fd_L_slides
  b_L_slides : Binds K fd_L_slides ["part"] []
  g_L_slides : mg "_law_slides" = some (.ref f_L_slides)
  f_L_fewest : Addr
  fd_L_fewest : FuncData
  F_L_fewest : Fun K "_law_fewest" "_law_fewest" s_L_fewest f_L_fewest fd_L_fewest
  b_L_fewest : Binds K fd_L_fewest ["heights"] []
  g_L_fewest : mg "_law_fewest" = some (.ref f_L_fewest)
  f_L_heights : Addr
  fd_L_heights : FuncData
  F_L_heights : Fun K "_law_heights" "_law_heights" s_L_heights f_L_heights fd_L_heights
  b_L_heights : Binds K fd_L_heights ["script", "at"] []
  g_L_heights : mg "_law_heights" = some (.ref f_L_heights)
  f_law : Addr
  fd_law : FuncData
  F_law : Fun K "law" "law" s_law f_law fd_law
  b_law : Binds K fd_law ["script"] []
  g_law : mg "law" = some (.ref f_law)
  n_all : mg "all" = none
  n_bool : mg "bool" = none
  n_dict : mg "dict" = none
  n_enumerate : mg "enumerate" = none
  n_int : mg "int" = none
  n_isinstance : mg "isinstance" = none
  n_len : mg "len" = none
  n_list : mg "list" = none
  n_min : mg "min" = none
  n_range : mg "range" = none
  n_set : mg "set" = none
  n_str : mg "str" = none
  n_tuple : mg "tuple" = none
  n_zip : mg "zip" = none
  c_FASTEST : ∃ t, mg "FASTEST" = some (.int 1 t)
  c_GREATEST : Tab w K mg "GREATEST" [("speed", 4), ("slide", 6), ("jump", 5), ("skip", 5), ("again", 3)]
  c_HEIGHTS : ∃ t, mg "HEIGHTS" = some (.int 12 t)
  c_LEAST : Tab w K mg "LEAST" [("speed", 1), ("slide", (-6)), ("jump", 0), ("skip", 0), ("again", 1)]
  c_MOST_PATTERNS : ∃ t, mg "MOST_PATTERNS" = some (.int 6 t)
  c_MOST_PLACES : ∃ t, mg "MOST_PLACES" = some (.int 6 t)
  c_MOST_ROWS : ∃ t, mg "MOST_ROWS" = some (.int 6 t)
  c_MOST_VOICES : ∃ t, mg "MOST_VOICES" = some (.int 3 t)
  c_SLOWEST : ∃ t, mg "SLOWEST" = some (.int 4 t)
  C_TooLong : Addr
  x_TooLong : XCl K mg "TooLong" C_TooLong
section
variable {P : Program} {w : World} {K : PySem.W.Frag} {mg : Str → Option Value} {base : Heap}
theorem ok_is_whole (T : Top w K mg) : FnOk P w K mg base CX0 1 T.f_is_whole T.fd_is_whole ["thing"] (spD K mg 1 M_is_whole) :=
  def_M (fb := B_is_whole) T.F_is_whole sc_is_whole rfl rfl (fun cdv A outer s H E hr =>
      (ss_one (s_ret (pd_and (pd_isi (T := "int") (by rfl) T.n_isinstance (by rfl) T.n_int (by decide +kernel) (pw_of (pd_var 0))) (pd_one (pd_not (pw_of (pd_isi (T := "bool") (by rfl) T.n_isinstance (by rfl) T.n_bool (by decide +kernel) (pw_of (pd_var 0))))))))))
theorem ok_is_between (T : Top w K mg) : FnOk P w K mg base CX0 2 T.f_is_between T.fd_is_between ["thing", "low", "high"] (spD K mg 3 M_is_between) :=
  def_M (fb := B_is_between) T.F_is_between sc_is_between rfl rfl (fun cdv A outer s H E hr =>
      (ss_one (s_ret (pd_and (pd_call (ok_is_whole T) hr (by rfl) T.g_is_whole T.F_is_whole.kp T.b_is_whole (pa_c (pd_var 0) pa_n)) (pd_one (pd_ch opd_le opd_le (pw_of (pd_var 1)) (pw_of (pd_var 0)) (pw_of (pd_var 2))))))))
theorem ok_is_sound (T : Top w K mg) : FnOk P w K mg base CX0 3 T.f_is_sound T.fd_is_sound ["thing"] (spD K mg 1 M_is_sound) :=
  def_M (fb := B_is_sound) T.F_is_sound sc_is_sound rfl rfl (fun cdv A outer s H E hr =>
      (ss_one (s_ret (pd_or (pd_cmp opd_is (pw_of (pd_var 0)) (pw_of pd_non) (nomark _)) (pd_or (pd_and (pd_isi (T := "str") (by rfl) T.n_isinstance (by rfl) T.n_str (by decide +kernel) (pw_of (pd_var 0))) (pd_one (pd_cmp (opd_eq hr.units) (pw_of (pd_var 0)) (pw_of pd_str) (nomark _)))) (pd_one (pd_call (ok_is_between T) hr (by rfl) T.g_is_between T.F_is_between.kp T.b_is_between (pa_c (pd_var 0) (pa_c pd_int (pa_c (pd_op opd_sub (pw_of (pd_gint (by rfl) T.c_HEIGHTS)) (pw_of pd_int)) pa_n))))))))))
theorem ok_is_deed (T : Top w K mg) : FnOk P w K mg base CX0 3 T.f_is_deed T.fd_is_deed ["thing", "places"] (spD K mg 2 M_is_deed) :=
  def_M (fb := B_is_deed) T.F_is_deed sc_is_deed rfl rfl (fun cdv A outer s H E hr =>
      (ss_cons (s_if (pt_cmp opd_is (pw_of (pd_var 0)) (pw_of pd_non) (nomark _))
      (ss_one (s_ret pd_bl))
      ss_nil)
      (ss_cons (s_if (pt_w (pw_o (pt_no (pt_of (pw_of (pd_isi (T := "tuple") (by rfl) T.n_isinstance (by rfl) T.n_tuple (by decide +kernel) (pw_of (pd_var 0)))))) (pw_o (pt_cmp (opd_ne hr.units) (pw_of (pd_len (by rfl) T.n_len (pv_c (pw_of (pd_var 0)) pv_n))) (pw_of pd_int) (nomark _)) (pw_o (pt_no (pt_of (pw_of (pd_isi (T := "str") (by rfl) T.n_isinstance (by rfl) T.n_str (by decide +kernel) (pw_of (pd_ix (pw_of (pd_var 0)) (pw_of pd_int))))))) (pw_o1 (pt_tnin T.c_LEAST (by rfl) (pw_of (pd_ix (pw_of (pd_var 0)) (pw_of pd_int)))))))))
      (ss_one (s_ret pd_bl))
      ss_nil)
      (ss_cons (s_if (pt_no (pt_of (pw_of (pd_call (ok_is_between T) hr (by rfl) T.g_is_between T.F_is_between.kp T.b_is_between (pa_c (pd_ix (pw_of (pd_var 0)) (pw_of pd_int)) (pa_c (pd_tix T.c_LEAST (by rfl) (pw_of (pd_ix (pw_of (pd_var 0)) (pw_of pd_int)))) (pa_c (pd_tix T.c_GREATEST (by rfl) (pw_of (pd_ix (pw_of (pd_var 0)) (pw_of pd_int)))) pa_n)))))))
      (ss_one (s_ret pd_bl))
      ss_nil)
      (ss_one (s_ret (pd_or (pd_cmp (opd_ne hr.units) (pw_of (pd_ix (pw_of (pd_var 0)) (pw_of pd_int))) (pw_of pd_str) (nomark _)) (pd_one (pd_cmp opd_lt (pw_of (pd_ix (pw_of (pd_var 0)) (pw_of pd_int))) (pw_of (pd_var 1)) (nomark _))))))))))
theorem ok_is_box (T : Top w K mg) : FnOk P w K mg base CX0 4 T.f_is_box T.fd_is_box ["thing", "places"] (spD K mg 2 M_is_box) :=
  def_M (fb := B_is_box) T.F_is_box sc_is_box rfl rfl (fun cdv A outer s H E hr =>
      (ss_one (s_ret (pd_and (pd_isi (T := "tuple") (by rfl) T.n_isinstance (by rfl) T.n_tuple (by decide +kernel) (pw_of (pd_var 0))) (pd_and (pd_cmp (opd_eq hr.units) (pw_of (pd_len (by rfl) T.n_len (pv_c (pw_of (pd_var 0)) pv_n))) (pw_of pd_int) (nomark _)) (pd_and (pd_call (ok_is_sound T) hr (by rfl) T.g_is_sound T.F_is_sound.kp T.b_is_sound (pa_c (pd_ix (pw_of (pd_var 0)) (pw_of pd_int)) pa_n)) (pd_one (pd_call (ok_is_deed T) hr (by rfl) T.g_is_deed T.F_is_deed.kp T.b_is_deed (pa_c (pd_ix (pw_of (pd_var 0)) (pw_of pd_int)) (pa_c (pd_var 1) pa_n))))))))))
theorem ok_is_row (T : Top w K mg) : FnOk P w K mg base CX0 5 T.f_is_row T.fd_is_row ["thing", "places"] (spD K mg 2 M_is_row) :=
  def_M (fb := B_is_row) T.F_is_row sc_is_row rfl rfl (fun cdv A outer s H E hr =>
      (ss_cons (s_if (pt_w (pw_o (pt_no (pt_of (pw_of (pd_isi (T := "tuple") (by rfl) T.n_isinstance (by rfl) T.n_tuple (by decide +kernel) (pw_of (pd_var 0)))))) (pw_o1 (pt_no (pt_ch opd_le opd_le (pw_of pd_int) (pw_of (pd_len (by rfl) T.n_len (pv_c (pw_of (pd_var 0)) pv_n))) (pw_of (pd_gint (by rfl) T.c_MOST_VOICES)))))))
      (ss_one (s_ret pd_bl))
      ss_nil)
      (ss_one (s_ret (pd_all rfl (by rfl) T.n_all (pv_c (pw_of (pd_of (pf_lc (own := [("box", 2)]) rfl sc_is_row.nd (pi_sq (pd_var 0)) (bk_ok rfl) (fun _ _ _ _ _ => (g_name 2 sc_is_row.nd)) (fun _ _ _ _ _ => pts_y) (fun _ _ _ _ _ => (pd_call (ok_is_box T) hr (by rfl) T.g_is_box T.F_is_box.kp T.b_is_box (pa_c (pd_var 2) (pa_c (pd_var 1) pa_n))))))) pv_n))))))
theorem ok_is_pattern (T : Top w K mg) : FnOk P w K mg base CX0 6 T.f_is_pattern T.fd_is_pattern ["thing", "places"] (spD K mg 2 M_is_pattern) :=
  def_M (fb := B_is_pattern) T.F_is_pattern sc_is_pattern rfl rfl (fun cdv A outer s H E hr =>
      (ss_cons (s_if (pt_w (pw_o (pt_no (pt_of (pw_of (pd_isi (T := "tuple") (by rfl) T.n_isinstance (by rfl) T.n_tuple (by decide +kernel) (pw_of (pd_var 0)))))) (pw_o1 (pt_no (pt_ch opd_le opd_le (pw_of pd_int) (pw_of (pd_len (by rfl) T.n_len (pv_c (pw_of (pd_var 0)) pv_n))) (pw_of (pd_gint (by rfl) T.c_MOST_ROWS)))))))
      (ss_one (s_ret pd_bl))
      ss_nil)
      (ss_one (s_ret (pd_all rfl (by rfl) T.n_all (pv_c (pw_of (pd_of (pf_lc (own := [("row", 2)]) rfl sc_is_pattern.nd (pi_sq (pd_var 0)) (bk_ok rfl) (fun _ _ _ _ _ => (g_name 2 sc_is_pattern.nd)) (fun _ _ _ _ _ => pts_y) (fun _ _ _ _ _ => (pd_call (ok_is_row T) hr (by rfl) T.g_is_row T.F_is_row.kp T.b_is_row (pa_c (pd_var 2) (pa_c (pd_var 1) pa_n))))))) pv_n))))))
theorem ok_is_song (T : Top w K mg) : FnOk P w K mg base CX0 7 T.f_is_song T.fd_is_song ["thing"] (spD K mg 1 M_is_song) :=
  def_M (fb := B_is_song) T.F_is_song sc_is_song rfl rfl (fun cdv A outer s H E hr =>
      (ss_cons (s_if (pt_w (pw_o (pt_no (pt_of (pw_of (pd_isi (T := "tuple") (by rfl) T.n_isinstance (by rfl) T.n_tuple (by decide +kernel) (pw_of (pd_var 0)))))) (pw_o (pt_cmp (opd_ne hr.units) (pw_of (pd_len (by rfl) T.n_len (pv_c (pw_of (pd_var 0)) pv_n))) (pw_of pd_int) (nomark _)) (pw_o1 (pt_no (pt_of (pw_of (pd_call (ok_is_between T) (hr.mono (by decide)) (by rfl) T.g_is_between T.F_is_between.kp T.b_is_between (pa_c (pd_ix (pw_of (pd_var 0)) (pw_of pd_int)) (pa_c (pd_gint (by rfl) T.c_FASTEST) (pa_c (pd_gint (by rfl) T.c_SLOWEST) pa_n)))))))))))
      (ss_one (s_ret pd_bl))
      ss_nil)
      (ss_cons (s_if (pt_w (pw_o (pt_no (pt_of (pw_of (pd_isi (T := "tuple") (by rfl) T.n_isinstance (by rfl) T.n_tuple (by decide +kernel) (pw_of (pd_ix (pw_of (pd_var 0)) (pw_of pd_int))))))) (pw_o1 (pt_no (pt_ch opd_le opd_le (pw_of pd_int) (pw_of (pd_len (by rfl) T.n_len (pv_c (pw_of (pd_ix (pw_of (pd_var 0)) (pw_of pd_int))) pv_n))) (pw_of (pd_gint (by rfl) T.c_MOST_PLACES)))))))
      (ss_one (s_ret pd_bl))
      ss_nil)
      (ss_cons (s_if (pt_w (pw_o (pt_no (pt_of (pw_of (pd_isi (T := "tuple") (by rfl) T.n_isinstance (by rfl) T.n_tuple (by decide +kernel) (pw_of (pd_ix (pw_of (pd_var 0)) (pw_of pd_int))))))) (pw_o1 (pt_no (pt_ch opd_le opd_le (pw_of pd_int) (pw_of (pd_len (by rfl) T.n_len (pv_c (pw_of (pd_ix (pw_of (pd_var 0)) (pw_of pd_int))) pv_n))) (pw_of (pd_gint (by rfl) T.c_MOST_PATTERNS)))))))
      (ss_one (s_ret pd_bl))
      ss_nil)
      (ss_cons (s_if (pt_no (pt_of (pw_of (pd_all rfl (by rfl) T.n_all (pv_c (pw_of (pd_of (pf_lc (own := [("pattern", 1)]) rfl sc_is_song.nd (pi_sq (pd_ix (pw_of (pd_var 0)) (pw_of pd_int))) (bk_ok rfl) (fun _ _ _ _ _ => (g_name 1 sc_is_song.nd)) (fun _ _ _ _ _ => pts_y) (fun _ _ _ _ _ => (pd_call (ok_is_pattern T) hr (by rfl) T.g_is_pattern T.F_is_pattern.kp T.b_is_pattern (pa_c (pd_var 1) (pa_c (pd_len (by rfl) T.n_len (pv_c (pw_of (pd_ix (pw_of (pd_var 0)) (pw_of pd_int))) pv_n)) pa_n))))))) pv_n)))))
      (ss_one (s_ret pd_bl))
      ss_nil)
      (ss_cons (s_if (pt_no (pt_of (pw_of (pd_all rfl (by rfl) T.n_all (pv_c (pw_of (pd_of (pf_lc (own := [("number", 2)]) rfl sc_is_song.nd (pi_sq (pd_ix (pw_of (pd_var 0)) (pw_of pd_int))) (bk_ok rfl) (fun _ _ _ _ _ => (g_name 2 sc_is_song.nd)) (fun _ _ _ _ _ => pts_y) (fun _ _ _ _ _ => (pd_call (ok_is_between T) (hr.mono (by decide)) (by rfl) T.g_is_between T.F_is_between.kp T.b_is_between (pa_c (pd_var 2) (pa_c pd_int (pa_c (pd_op opd_sub (pw_of (pd_len (by rfl) T.n_len (pv_c (pw_of (pd_ix (pw_of (pd_var 0)) (pw_of pd_int))) pv_n))) (pw_of pd_int)) pa_n)))))))) pv_n)))))
      (ss_one (s_ret pd_bl))
      ss_nil)
      (ss_cons (s_set 3 sc_is_song.nd (pd_len (by rfl) T.n_len (pv_c (pw_of (pd_ix (pw_of (pd_ix (pw_of (pd_ix (pw_of (pd_var 0)) (pw_of pd_int))) (pw_of pd_int))) (pw_of pd_int))) pv_n)))
      (ss_one (s_ret (pd_all rfl (by rfl) T.n_all (pv_c (pw_of (pd_of (pf_lc (own := [("pattern", 1)]) rfl sc_is_song.nd (pi_sq (pd_ix (pw_of (pd_var 0)) (pw_of pd_int))) (bk_ok rfl) (fun _ _ _ _ _ => (g_name 1 sc_is_song.nd)) (fun _ _ _ _ _ => pts_y) (fun _ _ _ _ _ => (pd_all rfl (by rfl) T.n_all (pv_c (pw_of (pd_of (pf_lc (own := [("row", 4)]) rfl sc_is_song.nd (pi_sq (pd_var 1)) (bk_ok rfl) (fun _ _ _ _ _ => (g_name 4 sc_is_song.nd)) (fun _ _ _ _ _ => pts_y) (fun _ _ _ _ _ => (pd_cmp (opd_eq hr.units) (pw_of (pd_len (by rfl) T.n_len (pv_c (pw_of (pd_var 4)) pv_n))) (pw_of (pd_var 3)) (nomark _)))))) pv_n)))))) pv_n)))))))))))
theorem ok_voices_of (T : Top w K mg) : FnOk P w K mg base CX0 1 T.f_voices_of T.fd_voices_of ["song"] (spD K mg 1 M_voices_of) :=
  def_M (fb := B_voices_of) T.F_voices_of sc_voices_of rfl rfl (fun cdv A outer s H E hr =>
      (ss_one (s_ret (pd_len (by rfl) T.n_len (pv_c (pw_of (pd_ix (pw_of (pd_ix (pw_of (pd_ix (pw_of (pd_var 0)) (pw_of pd_int))) (pw_of pd_int))) (pw_of pd_int))) pv_n)))))
theorem ok_pattern_at (T : Top w K mg) : FnOk P w K mg base CX0 1 T.f_pattern_at T.fd_pattern_at ["song", "place"] (spD K mg 2 M_pattern_at) :=
  def_M (fb := B_pattern_at) T.F_pattern_at sc_pattern_at rfl rfl (fun cdv A outer s H E hr =>
      (ss_one (s_ret (pd_ix (pw_of (pd_ix (pw_of (pd_var 0)) (pw_of pd_int))) (pw_of (pd_ix (pw_of (pd_ix (pw_of (pd_var 0)) (pw_of pd_int))) (pw_of (pd_var 1))))))))
theorem ok_number_by (T : Top w K mg) : FnOk P w K mg base CX0 1 T.f_number_by T.fd_number_by ["row", "word"] (spD K mg 2 M_number_by) :=
  def_M (fb := B_number_by) T.F_number_by sc_number_by rfl rfl (fun cdv A outer s H E hr =>
      (ss_cons (s_set 2 sc_number_by.nd pd_non)
      (ss_cons (s_for PassesOwn.never rfl (pi_sq (pd_var 0)) (g_tup rfl (g_cons (g_name 3 sc_number_by.nd) (g_cons (g_name 4 sc_number_by.nd) g_nil)))
      (ss_one (s_if (pt_w (pw_a (pt_cmp opd_isNot (pw_of (pd_var 4)) (pw_of pd_non) (nomark _)) (pw_a1 (pt_cmp (opd_eq hr.units) (pw_of (pd_ix (pw_of (pd_var 4)) (pw_of pd_int))) (pw_of (pd_var 1)) (nomark _)))))
      (ss_one (s_set 2 sc_number_by.nd (pd_ix (pw_of (pd_var 4)) (pw_of pd_int))))
      ss_nil)))
      (ss_one (s_ret (pd_var 2))))))
theorem ok_slide_for (T : Top w K mg) : FnOk P w K mg base CX0 1 T.f_slide_for T.fd_slide_for ["part"] (spD K mg 1 M_slide_for) :=
  def_M (fb := B_slide_for) T.F_slide_for sc_slide_for rfl rfl (fun cdv A outer s H E hr =>
      (ss_cons (s_if (pt_cmp (opd_in (un65 hr)) (pw_of pd_non) (pw_of (pd_var 0)) rfl)
      (ss_one (s_ret (pd_if (pt_cmp (opd_eq hr.units) (pw_of (pd_var 0)) (pw_of (pd_op opd_mul (pw_of (pd_of (pf_lst (pa_c pd_non pa_n)))) (pw_of (pd_len (by rfl) T.n_len (pv_c (pw_of (pd_var 0)) pv_n))))) (nomark _)) pd_int pd_non)))
      ss_nil)
      (ss_cons (s_if (pt_cmp (opd_eq hr.units) (pw_of (pd_len (by rfl) T.n_len (pv_c (pw_of (pd_var 0)) pv_n))) (pw_of pd_int) (nomark _))
      (ss_one (s_ret pd_int))
      ss_nil)
      (ss_cons (s_set 1 sc_slide_for.nd (pd_op opd_mod (pw_of (pd_op opd_sub (pw_of (pd_ix (pw_of (pd_var 0)) (pw_of pd_int))) (pw_of (pd_ix (pw_of (pd_var 0)) (pw_of pd_int))))) (pw_of (pd_gint (by rfl) T.c_HEIGHTS))))
      (ss_cons (s_if (pt_cmp opd_gt (pw_of (pd_var 1)) (pw_of pd_int) (nomark _))
      (ss_one (s_set 1 sc_slide_for.nd (pd_op opd_sub (pw_of (pd_var 1)) (pw_of (pd_gint (by rfl) T.c_HEIGHTS)))))
      ss_nil)
      (ss_cons (s_if (pt_of (pw_of (pd_all rfl (by rfl) T.n_all (pv_c (pw_of (pd_of (pf_lc (own := [("at", 2)]) rfl sc_slide_for.nd (pi_r1 (by rfl) T.n_range (pv_c (pw_of (pd_len (by rfl) T.n_len (pv_c (pw_of (pd_var 0)) pv_n))) pv_n)) (bk_ok rfl) (fun _ _ _ _ _ => (g_name 2 sc_slide_for.nd)) (fun _ _ _ _ _ => pts_y) (fun _ _ _ _ _ => (pd_cmp (opd_eq hr.units) (pw_of (pd_ix (pw_of (pd_var 0)) (pw_of (pd_var 2)))) (pw_of (pd_op opd_mod (pw_of (pd_op opd_add (pw_of (pd_ix (pw_of (pd_var 0)) (pw_of pd_int))) (pw_of (pd_op opd_mul (pw_of (pd_var 1)) (pw_of (pd_var 2)))))) (pw_of (pd_gint (by rfl) T.c_HEIGHTS)))) (nomark _)))))) pv_n))))
      (ss_one (s_ret (pd_var 1)))
      ss_nil)
      (ss_one (s_ret pd_non))))))))
theorem ok_boxes_for (T : Top w K mg) : FnOk P w K mg base CX0 2 T.f_boxes_for T.fd_boxes_for ["heights", "at", "many", "speed"] (spD K mg 4 M_boxes_for) :=
  def_M (fb := B_boxes_for) T.F_boxes_for sc_boxes_for rfl rfl (fun cdv A outer s H E hr =>
      (ss_cons (s_own 4 sc_boxes_for.nd (pf_lst pa_n))
      (ss_cons (s_for PassesOwn.never rfl (pi_r1 (by rfl) T.n_range (pv_c (pw_of (pd_len (by rfl) T.n_len (pv_c (pw_of (pd_ix (pw_of (pd_var 0)) (pw_of (pd_var 1)))) pv_n))) pv_n)) (g_name 5 sc_boxes_for.nd)
      (ss_cons (s_setLc 6 (own := [("k", 7)]) rfl sc_boxes_for.nd (pi_r1 (by rfl) T.n_range (pv_c (pw_of (pd_var 2)) pv_n)) (bk_ok rfl) (fun _ _ _ _ _ => (g_name 7 sc_boxes_for.nd)) (fun _ _ _ _ _ => pts_y) (fun _ _ _ _ _ => (pd_ix (pw_of (pd_ix (pw_of (pd_var 0)) (pw_of (pd_op opd_add (pw_of (pd_var 1)) (pw_of (pd_var 7)))))) (pw_of (pd_var 5)))) (sw_true rfl rfl rfl (by decide +kernel)))
      (ss_cons (s_set 8 sc_boxes_for.nd (pd_call (ok_slide_for T) hr (by rfl) T.g_slide_for T.F_slide_for.kp T.b_slide_for (pa_c (pd_var 6) pa_n)))
      (ss_cons (s_if (pt_cmp opd_is (pw_of (pd_var 8)) (pw_of pd_non) (nomark _))
      (ss_one (s_ret pd_non))
      ss_nil)
      (ss_cons (s_set 9 sc_boxes_for.nd (pd_if (pt_cmp opd_is (pw_of (pd_ix (pw_of (pd_var 6)) (pw_of pd_int))) (pw_of pd_non) (nomark _)) pd_str (pd_ix (pw_of (pd_var 6)) (pw_of pd_int))))
      (ss_one (s_app 4 (pd_tup (pa_c (pd_var 9) (pa_c (pd_if (pt_cmp (opd_eq hr.units) (pw_of (pd_var 8)) (pw_of pd_int) (nomark _)) pd_non (pd_tup (pa_c pd_str (pa_c (pd_var 8) pa_n)))) pa_n))))))))))
      (ss_cons (s_if (pt_cmp (opd_eq hr.units) (pw_of (pd_var 2)) (pw_of (pd_var 3)) (nomark _))
      (ss_one (s_ret (pd_tuple (by rfl) T.n_tuple (pv_c (pw_var 4) pv_n))))
      ss_nil)
      (ss_cons (s_for PassesOwn.never rfl (pi_r1 (by rfl) T.n_range (pv_c (pw_of (pd_len (by rfl) T.n_len (pv_c (pw_var 4) pv_n))) pv_n)) (g_name 5 sc_boxes_for.nd)
      (ss_one (s_if (pt_cmp opd_is (pw_of (pd_ix (pw_of (pd_ix (pw_var 4) (pw_of (pd_var 5)))) (pw_of pd_int))) (pw_of pd_non) (nomark _))
      (ss_cons (s_sub 4 (pw_of (pd_var 5)) (pd_tup (pa_c (pd_ix (pw_of (pd_ix (pw_var 4) (pw_of (pd_var 5)))) (pw_of pd_int)) (pa_c (pd_tup (pa_c pd_str (pa_c (pd_var 2) pa_n))) pa_n))))
      (ss_one (s_ret (pd_tuple (by rfl) T.n_tuple (pv_c (pw_var 4) pv_n)))))
      ss_nil)))
      (ss_one (s_ret pd_non)))))))
theorem ok_fewest_rows (T : Top w K mg) : FnOk P w K mg base CX0 3 T.f_fewest_rows T.fd_fewest_rows ["heights", "at", "speed", "book"] (spDV w K mg 3 M_fewest_rows) :=
  def_MV (fb := B_fewest_rows) T.F_fewest_rows sc_fewest_rows rfl rfl (by decide) (fun cdv A outer s H E hr =>
      (ss_cons (s_set 4 sc_fewest_rows.nd (pd_of (pf_lst pa_n)))
      (ss_cons (s_for PassesOwn.never rfl (pi_r2 (by rfl) T.n_range (pv_c (pw_of pd_int) (pv_c (pw_of (pd_op opd_add (pw_of (pd_min2 rfl (by rfl) T.n_min (pv_c (pw_of (pd_gint (by rfl) T.c_SLOWEST)) (pv_c (pw_of (pd_op opd_sub (pw_of (pd_len (by rfl) T.n_len (pv_c (pw_of (pd_var 0)) pv_n))) (pw_of (pd_var 1)))) pv_n)))) (pw_of pd_int))) pv_n))) (g_name 5 sc_fewest_rows.nd)
      (ss_cons (s_set 6 sc_fewest_rows.nd (pd_call (ok_boxes_for T) hr (by rfl) T.g_boxes_for T.F_boxes_for.kp T.b_boxes_for (pa_c (pd_var 0) (pa_c (pd_var 1) (pa_c (pd_var 5) (pa_c (pd_var 2) pa_n))))))
      (ss_cons (s_set 7 sc_fewest_rows.nd (pd_getV (un65 hr) 3 (pd_tup (pa_c (pd_op opd_add (pw_of (pd_var 1)) (pw_of (pd_var 5))) (pa_c (pd_var 5) pa_n)))))
      (ss_one (s_if (pt_w (pw_a (pt_cmp opd_isNot (pw_of (pd_var 6)) (pw_of pd_non) (nomark _)) (pw_a1 (pt_w (pw_o (pt_cmp (opd_eq hr.units) (pw_of (pd_var 4)) (pw_of (pd_of (pf_lst pa_n))) (nomark _)) (pw_o1 (pt_cmp opd_lt (pw_of (pd_op opd_add (pw_of (pd_len (by rfl) T.n_len (pv_c (pw_of (pd_var 7)) pv_n))) (pw_of pd_int))) (pw_of (pd_len (by rfl) T.n_len (pv_c (pw_of (pd_var 4)) pv_n))) (nomark _))))))))
      (ss_one (s_set 4 sc_fewest_rows.nd (pd_op opd_add (pw_of (pd_of (pf_lst (pa_c (pd_var 6) pa_n)))) (pw_of (pd_var 7)))))
      ss_nil)))))
      (ss_one (s_ret (pd_var 4))))))
theorem ok_song_of (T : Top w K mg) : FnOk P w K mg base (L2.CX P w) 4 T.f_song_of T.fd_song_of ["heights"] (spD K mg 1 M_song_of) :=
  def_MX (fb := B_song_of) T.F_song_of sc_song_of rfl rfl (fun cdv A outer s H E hr tk hp =>
      (ss_cons (s_dct 1 sc_song_of.nd)
      (ss_cons (s_for hp rfl (pi_r2 (by rfl) T.n_range (pv_c (pw_of pd_int) (pv_c (pw_of (pd_op opd_add (pw_of (pd_gint (by rfl) T.c_SLOWEST)) (pw_of pd_int))) pv_n))) (g_name 2 sc_song_of.nd)
      (ss_one (s_dset (un65 hr) 1 (pd_tup (pa_c (pd_len (by rfl) T.n_len (pv_c (pw_of (pd_var 0)) pv_n)) (pa_c (pd_var 2) pa_n))) (pd_of (pf_lst pa_n)))))
      (ss_cons (s_for hp rfl (pi_rd (by rfl) T.n_range (pv_c (pw_of (pd_op opd_sub (pw_of (pd_len (by rfl) T.n_len (pv_c (pw_of (pd_var 0)) pv_n))) (pw_of pd_int))) (pv_c (pw_of (pd_neg (pw_of pd_int))) (pv_c (pw_of (pd_neg (pw_of pd_int))) pv_n)))) (g_name 3 sc_song_of.nd)
      (ss_one (s_for hp rfl (pi_r2 (by rfl) T.n_range (pv_c (pw_of pd_int) (pv_c (pw_of (pd_op opd_add (pw_of (pd_gint (by rfl) T.c_SLOWEST)) (pw_of pd_int))) pv_n))) (g_name 2 sc_song_of.nd)
      (ss_one (s_dset (un65 hr) 1 (pd_tup (pa_c (pd_var 3) (pa_c (pd_var 2) pa_n))) (pd_callV (ok_fewest_rows T) hr (by rfl) T.g_fewest_rows T.F_fewest_rows.kp T.b_fewest_rows (paV_c (pd_var 0) (paV_c (pd_var 3) (paV_c (pd_var 2) (paV_n 1))))))))))
      (ss_cons (s_asg (pd_minP rfl (un65 hr) (by rfl) T.n_min (pv_c (pw_of (pd_of (pf_lc (own := [("speed", 2)]) rfl sc_song_of.nd (pi_r2 (by rfl) T.n_range (pv_c (pw_of pd_int) (pv_c (pw_of (pd_op opd_add (pw_of (pd_gint (by rfl) T.c_SLOWEST)) (pw_of pd_int))) pv_n))) (bk_ok rfl) (fun _ _ _ _ _ => (g_name 2 sc_song_of.nd)) (fun _ _ _ _ _ => pts_y) (fun _ _ _ _ _ => (pd_tup (pa_c (pd_len (by rfl) T.n_len (pv_c (pw_of (pd_getD (un65 hr) 1 (pd_tup (pa_c pd_int (pa_c (pd_var 2) pa_n))))) pv_n)) (pa_c (pd_var 2) pa_n))))))) pv_n)) (g_tup rfl (g_cons (g_name 4 sc_song_of.nd) (g_cons (g_name 2 sc_song_of.nd) g_nil))))
      (ss_cons (s_if (pt_cmp opd_gt (pw_of (pd_var 4)) (pw_of (pd_op opd_mul (pw_of (pd_gint (by rfl) T.c_MOST_PATTERNS)) (pw_of (pd_gint (by rfl) T.c_MOST_ROWS)))) (nomark _))
      (ss_one (s_raise rfl tk T.x_TooLong (by rfl)))
      ss_nil)
      (ss_cons (s_set 5 sc_song_of.nd (pd_getD (un65 hr) 1 (pd_tup (pa_c pd_int (pa_c (pd_var 2) pa_n)))))
      (ss_cons (s_setLc 6 (own := [("at", 3)]) rfl sc_song_of.nd (pi_r3 (by rfl) T.n_range (pv_c (pw_of pd_int) (pv_c (pw_of (pd_var 4)) (pv_c (pw_of (pd_gint (by rfl) T.c_MOST_ROWS)) pv_n)))) (bk_ok rfl) (fun _ _ _ _ _ => (g_name 3 sc_song_of.nd)) (fun _ _ _ _ _ => pts_y) (fun _ _ _ _ _ => (pd_tuple (by rfl) T.n_tuple (pv_c (pw_of (pd_sl (pw_of (pd_var 5)) (pp_s (pw_of (pd_var 3))) (pp_s (pw_of (pd_op opd_add (pw_of (pd_var 3)) (pw_of (pd_gint (by rfl) T.c_MOST_ROWS))))))) pv_n))) (sw_true rfl rfl rfl (by decide +kernel)))
      (ss_one (s_ret (pd_tup (pa_c (pd_var 2) (pa_c (pd_tuple (by rfl) T.n_tuple (pv_c (pw_of (pd_of (pf_listR1 rfl (by rfl) T.n_list (by rfl) T.n_range (pw_of (pd_len (by rfl) T.n_len (pv_c (pw_of (pd_var 6)) pv_n)))))) pv_n)) (pa_c (pd_tuple (by rfl) T.n_tuple (pv_c (pw_of (pd_var 6)) pv_n)) pa_n))))))))))))))
theorem ok_first_state (T : Top w K mg) : FnOk P w K mg base CX0 2 T.f_first_state T.fd_first_state ["song"] (spD K mg 1 M_first_state) :=
  def_M (fb := B_first_state) T.F_first_state sc_first_state rfl rfl (fun cdv A outer s H E hr =>
      (ss_one (s_ret (pd_tup (pa_c pd_int (pa_c pd_int (pa_c pd_int (pa_c pd_int (pa_c (pd_ix (pw_of (pd_var 0)) (pw_of pd_int)) (pa_c (pd_op opd_mul (pw_of (pd_tup (pa_c pd_non pa_n))) (pw_of (pd_call (ok_voices_of T) hr (by rfl) T.g_voices_of T.F_voices_of.kp T.b_voices_of (pa_c (pd_var 0) pa_n)))) pa_n))))))))))
theorem ok_struck (T : Top w K mg) : FnOk P w K mg base CX0 1 T.f_struck T.fd_struck ["height", "box"] (spD K mg 2 M_struck) :=
  def_M (fb := B_struck) T.F_struck sc_struck rfl rfl (fun cdv A outer s H E hr =>
      (ss_cons (s_if (pt_cmp opd_is (pw_of (pd_ix (pw_of (pd_var 1)) (pw_of pd_int))) (pw_of pd_non) (nomark _))
      (ss_one (s_ret (pd_var 0)))
      ss_nil)
      (ss_cons (s_if (pt_cmp (opd_eq hr.units) (pw_of (pd_ix (pw_of (pd_var 1)) (pw_of pd_int))) (pw_of pd_str) (nomark _))
      (ss_one (s_ret pd_non))
      ss_nil)
      (ss_one (s_ret (pd_ix (pw_of (pd_var 1)) (pw_of pd_int)))))))
theorem ok_slid (T : Top w K mg) : FnOk P w K mg base CX0 1 T.f_slid T.fd_slid ["height", "box"] (spD K mg 2 M_slid) :=
  def_M (fb := B_slid) T.F_slid sc_slid rfl rfl (fun cdv A outer s H E hr =>
      (ss_cons (s_if (pt_w (pw_o (pt_cmp opd_is (pw_of (pd_var 0)) (pw_of pd_non) (nomark _)) (pw_o (pt_cmp opd_is (pw_of (pd_ix (pw_of (pd_var 1)) (pw_of pd_int))) (pw_of pd_non) (nomark _)) (pw_o1 (pt_cmp (opd_ne hr.units) (pw_of (pd_ix (pw_of (pd_ix (pw_of (pd_var 1)) (pw_of pd_int))) (pw_of pd_int))) (pw_of pd_str) (nomark _))))))
      (ss_one (s_ret (pd_var 0)))
      ss_nil)
      (ss_one (s_ret (pd_op opd_mod (pw_of (pd_op opd_add (pw_of (pd_var 0)) (pw_of (pd_ix (pw_of (pd_ix (pw_of (pd_var 1)) (pw_of pd_int))) (pw_of pd_int))))) (pw_of (pd_gint (by rfl) T.c_HEIGHTS)))))))
theorem ok_place_behind (T : Top w K mg) : FnOk P w K mg base CX0 2 T.f_place_behind T.fd_place_behind ["song", "place", "row"] (spD K mg 3 M_place_behind) :=
  def_M (fb := B_place_behind) T.F_place_behind sc_place_behind rfl rfl (fun cdv A outer s H E hr =>
      (ss_cons (s_set 3 sc_place_behind.nd (pd_ix (pw_of (pd_call (ok_pattern_at T) hr (by rfl) T.g_pattern_at T.F_pattern_at.kp T.b_pattern_at (pa_c (pd_var 0) (pa_c (pd_var 1) pa_n)))) (pw_of (pd_var 2))))
      (ss_cons (s_set 4 sc_place_behind.nd (pd_call (ok_number_by T) hr (by rfl) T.g_number_by T.F_number_by.kp T.b_number_by (pa_c (pd_var 3) (pa_c pd_str pa_n))))
      (ss_cons (s_set 5 sc_place_behind.nd (pd_call (ok_number_by T) hr (by rfl) T.g_number_by T.F_number_by.kp T.b_number_by (pa_c (pd_var 3) (pa_c pd_str pa_n))))
      (ss_cons (s_if (pt_w (pw_a (pt_cmp opd_is (pw_of (pd_var 4)) (pw_of pd_non) (nomark _)) (pw_a (pt_cmp opd_is (pw_of (pd_var 5)) (pw_of pd_non) (nomark _)) (pw_a1 (pt_cmp opd_lt (pw_of (pd_op opd_add (pw_of (pd_var 2)) (pw_of pd_int))) (pw_of (pd_len (by rfl) T.n_len (pv_c (pw_of (pd_call (ok_pattern_at T) hr (by rfl) T.g_pattern_at T.F_pattern_at.kp T.b_pattern_at (pa_c (pd_var 0) (pa_c (pd_var 1) pa_n)))) pv_n))) (nomark _))))))
      (ss_one (s_ret (pd_tup (pa_c (pd_var 1) (pa_c (pd_op opd_add (pw_of (pd_var 2)) (pw_of pd_int)) pa_n)))))
      ss_nil)
      (ss_cons (s_set 6 sc_place_behind.nd (pd_op opd_mod (pw_of (pd_op opd_add (pw_of (pd_var 1)) (pw_of pd_int))) (pw_of (pd_len (by rfl) T.n_len (pv_c (pw_of (pd_ix (pw_of (pd_var 0)) (pw_of pd_int))) pv_n)))))
      (ss_cons (s_if (pt_cmp opd_isNot (pw_of (pd_var 4)) (pw_of pd_non) (nomark _))
      (ss_one (s_set 6 sc_place_behind.nd (pd_var 4)))
      ss_nil)
      (ss_cons (s_if (pt_cmp opd_is (pw_of (pd_var 5)) (pw_of pd_non) (nomark _))
      (ss_one (s_ret (pd_tup (pa_c (pd_var 6) (pa_c pd_int pa_n)))))
      ss_nil)
      (ss_one (s_ret (pd_tup (pa_c (pd_var 6) (pa_c (pd_min2 rfl (by rfl) T.n_min (pv_c (pw_of (pd_var 5)) (pv_c (pw_of (pd_op opd_sub (pw_of (pd_len (by rfl) T.n_len (pv_c (pw_of (pd_call (ok_pattern_at T) hr (by rfl) T.g_pattern_at T.F_pattern_at.kp T.b_pattern_at (pa_c (pd_var 0) (pa_c (pd_var 6) pa_n)))) pv_n))) (pw_of pd_int))) pv_n))) pa_n)))))))))))))
theorem ok_state_on (T : Top w K mg) : FnOk P w K mg base CX0 3 T.f_state_on T.fd_state_on ["song", "state"] (spD K mg 2 M_state_on) :=
  def_M (fb := B_state_on) T.F_state_on sc_state_on rfl rfl (fun cdv A outer s H E hr =>
      (ss_cons (s_asg (pd_var 1) (g_tup rfl (g_cons (g_name 2 sc_state_on.nd) (g_cons (g_name 3 sc_state_on.nd) (g_cons (g_name 4 sc_state_on.nd) (g_cons (g_name 5 sc_state_on.nd) (g_cons (g_name 6 sc_state_on.nd) (g_cons (g_name 7 sc_state_on.nd) g_nil))))))))
      (ss_cons (s_set 8 sc_state_on.nd (pd_call (ok_number_by T) (hr.mono (by decide)) (by rfl) T.g_number_by T.F_number_by.kp T.b_number_by (pa_c (pd_ix (pw_of (pd_call (ok_pattern_at T) (hr.mono (by decide)) (by rfl) T.g_pattern_at T.F_pattern_at.kp T.b_pattern_at (pa_c (pd_var 0) (pa_c (pd_var 2) pa_n)))) (pw_of (pd_var 3))) (pa_c pd_str pa_n))))
      (ss_cons (s_if (pt_w (pw_a (pt_cmp opd_isNot (pw_of (pd_var 8)) (pw_of pd_non) (nomark _)) (pw_a1 (pt_cmp opd_lt (pw_of (pd_var 4)) (pw_of (pd_var 8)) (nomark _)))))
      (ss_one (s_ret (pd_tup (pa_c (pd_var 2) (pa_c (pd_var 3) (pa_c (pd_op opd_add (pw_of (pd_var 4)) (pw_of pd_int)) (pa_c pd_int (pa_c (pd_var 6) (pa_c (pd_var 7) pa_n)))))))))
      ss_nil)
      (ss_cons (s_asg (pd_call (ok_place_behind T) hr (by rfl) T.g_place_behind T.F_place_behind.kp T.b_place_behind (pa_c (pd_var 0) (pa_c (pd_var 2) (pa_c (pd_var 3) pa_n)))) (g_tup rfl (g_cons (g_name 2 sc_state_on.nd) (g_cons (g_name 3 sc_state_on.nd) g_nil))))
      (ss_one (s_ret (pd_tup (pa_c (pd_var 2) (pa_c (pd_var 3) (pa_c pd_int (pa_c pd_int (pa_c (pd_var 6) (pa_c (pd_var 7) pa_n))))))))))))))
theorem ok_next_state (T : Top w K mg) : FnOk P w K mg base CX0 4 T.f_next_state T.fd_next_state ["song", "state"] (spD K mg 2 M_next_state) :=
  def_M (fb := B_next_state) T.F_next_state sc_next_state rfl rfl (fun cdv A outer s H E hr =>
      (ss_cons (s_asg (pd_var 1) (g_tup rfl (g_cons (g_name 2 sc_next_state.nd) (g_cons (g_name 3 sc_next_state.nd) (g_cons (g_name 4 sc_next_state.nd) (g_cons (g_name 5 sc_next_state.nd) (g_cons (g_name 6 sc_next_state.nd) (g_cons (g_name 7 sc_next_state.nd) g_nil))))))))
      (ss_cons (s_set 8 sc_next_state.nd (pd_ix (pw_of (pd_call (ok_pattern_at T) (hr.mono (by decide)) (by rfl) T.g_pattern_at T.F_pattern_at.kp T.b_pattern_at (pa_c (pd_var 0) (pa_c (pd_var 2) pa_n)))) (pw_of (pd_var 3))))
      (ss_cons (s_if (pt_cmp (opd_eq hr.units) (pw_of (pd_var 5)) (pw_of pd_int) (nomark _))
      (ss_cons (s_set 7 sc_next_state.nd (pd_tuple (by rfl) T.n_tuple (pv_c (pw_of (pd_of (pf_lc (own := [("height", 9), ("box", 10)]) rfl sc_next_state.nd (pi_zp (by rfl) T.n_zip (pa_c (pd_var 7) (pa_c (pd_var 8) pa_n))) (bk_ok rfl) (fun _ _ _ _ _ => (g_tup rfl (g_cons (g_name 9 sc_next_state.nd) (g_cons (g_name 10 sc_next_state.nd) g_nil)))) (fun _ _ _ _ _ => pts_y) (fun _ _ _ _ _ => (pd_call (ok_struck T) (hr.mono (by decide)) (by rfl) T.g_struck T.F_struck.kp T.b_struck (pa_c (pd_var 9) (pa_c (pd_var 10) pa_n))))))) pv_n)))
      (ss_cons (s_set 11 sc_next_state.nd (pd_call (ok_number_by T) (hr.mono (by decide)) (by rfl) T.g_number_by T.F_number_by.kp T.b_number_by (pa_c (pd_var 8) (pa_c pd_str pa_n))))
      (ss_one (s_if (pt_cmp opd_isNot (pw_of (pd_var 11)) (pw_of pd_non) (nomark _))
      (ss_one (s_set 6 sc_next_state.nd (pd_var 11)))
      ss_nil))))
      (ss_one (s_set 7 sc_next_state.nd (pd_tuple (by rfl) T.n_tuple (pv_c (pw_of (pd_of (pf_lc (own := [("height", 9), ("box", 10)]) rfl sc_next_state.nd (pi_zp (by rfl) T.n_zip (pa_c (pd_var 7) (pa_c (pd_var 8) pa_n))) (bk_ok rfl) (fun _ _ _ _ _ => (g_tup rfl (g_cons (g_name 9 sc_next_state.nd) (g_cons (g_name 10 sc_next_state.nd) g_nil)))) (fun _ _ _ _ _ => pts_y) (fun _ _ _ _ _ => (pd_call (ok_slid T) (hr.mono (by decide)) (by rfl) T.g_slid T.F_slid.kp T.b_slid (pa_c (pd_var 9) (pa_c (pd_var 10) pa_n))))))) pv_n)))))
      (ss_cons (s_set 1 sc_next_state.nd (pd_tup (pa_c (pd_var 2) (pa_c (pd_var 3) (pa_c (pd_var 4) (pa_c (pd_op opd_add (pw_of (pd_var 5)) (pw_of pd_int)) (pa_c (pd_var 6) (pa_c (pd_var 7) pa_n))))))))
      (ss_cons (s_if (pt_cmp (opd_eq hr.units) (pw_of (pd_op opd_add (pw_of (pd_var 5)) (pw_of pd_int))) (pw_of (pd_var 6)) (nomark _))
      (ss_one (s_ret (pd_call (ok_state_on T) hr (by rfl) T.g_state_on T.F_state_on.kp T.b_state_on (pa_c (pd_var 0) (pa_c (pd_var 1) pa_n)))))
      ss_nil)
      (ss_one (s_ret (pd_var 1)))))))))
theorem ok_heard_from (T : Top w K mg) : FnOk P w K mg base CX0 5 T.f_heard_from T.fd_heard_from ["song", "state", "many"] (spD K mg 3 M_heard_from) :=
  def_M (fb := B_heard_from) T.F_heard_from sc_heard_from rfl rfl (fun cdv A outer s H E hr =>
      (ss_cons (s_own 3 sc_heard_from.nd (pf_lst pa_n))
      (ss_cons (s_for PassesOwn.never rfl (pi_r1 (by rfl) T.n_range (pv_c (pw_of (pd_var 2)) pv_n)) (g_name 4 sc_heard_from.nd)
      (ss_cons (s_set 1 sc_heard_from.nd (pd_call (ok_next_state T) hr (by rfl) T.g_next_state T.F_next_state.kp T.b_next_state (pa_c (pd_var 0) (pa_c (pd_var 1) pa_n))))
      (ss_one (s_app 3 (pd_ix (pw_of (pd_var 1)) (pw_of pd_int))))))
      (ss_one (s_frz 3 (s_ret (pd_var 3)))))))
theorem ok_heard (T : Top w K mg) : FnOk P w K mg base CX0 6 T.f_heard T.fd_heard ["song", "many"] (spD K mg 2 M_heard) :=
  def_M (fb := B_heard) T.F_heard sc_heard rfl rfl (fun cdv A outer s H E hr =>
      (ss_one (s_ret (pd_call (ok_heard_from T) hr (by rfl) T.g_heard_from T.F_heard_from.kp T.b_heard_from (pa_c (pd_var 0) (pa_c (pd_call (ok_first_state T) (hr.mono (by decide)) (by rfl) T.g_first_state T.F_first_state.kp T.b_first_state (pa_c (pd_var 0) pa_n)) (pa_c (pd_var 1) pa_n)))))))
theorem ok_rows_played (T : Top w K mg) : FnOk P w K mg base CX0 5 T.f_rows_played T.fd_rows_played ["song", "many"] (spD K mg 2 M_rows_played) :=
  def_M (fb := B_rows_played) T.F_rows_played sc_rows_played rfl rfl (fun cdv A outer s H E hr =>
      (ss_cons (s_own 2 sc_rows_played.nd (pf_lst pa_n))
      (ss_cons (s_set 3 sc_rows_played.nd (pd_call (ok_first_state T) (hr.mono (by decide)) (by rfl) T.g_first_state T.F_first_state.kp T.b_first_state (pa_c (pd_var 0) pa_n)))
      (ss_cons (s_while 100000 PassesOwn.never (pt_cmp opd_lt (pw_of (pd_len (by rfl) T.n_len (pv_c (pw_var 2) pv_n))) (pw_of (pd_var 1)) (nomark _))
      (ss_cons (s_if (pt_cmp (opd_eq hr.units) (pw_of (pd_ix (pw_of (pd_var 3)) (pw_of pd_int))) (pw_of pd_int) (nomark _))
      (ss_one (s_app 2 (pd_sl (pw_of (pd_var 3)) pp_n (pp_s (pw_of pd_int)))))
      ss_nil)
      (ss_one (s_set 3 sc_rows_played.nd (pd_call (ok_next_state T) hr (by rfl) T.g_next_state T.F_next_state.kp T.b_next_state (pa_c (pd_var 0) (pa_c (pd_var 3) pa_n)))))))
      (ss_one (s_frz 2 (s_ret (pd_var 2))))))))
theorem ok_row_starts (T : Top w K mg) : FnOk P w K mg base CX0 5 T.f_row_starts T.fd_row_starts ["song", "many"] (spD K mg 2 M_row_starts) :=
  def_M (fb := B_row_starts) T.F_row_starts sc_row_starts rfl rfl (fun cdv A outer s H E hr =>
      (ss_cons (s_own 2 sc_row_starts.nd (pf_lst pa_n))
      (ss_cons (s_set 3 sc_row_starts.nd (pd_call (ok_first_state T) (hr.mono (by decide)) (by rfl) T.g_first_state T.F_first_state.kp T.b_first_state (pa_c (pd_var 0) pa_n)))
      (ss_cons (s_set 4 sc_row_starts.nd pd_int)
      (ss_cons (s_while 100000 PassesOwn.never (pt_cmp opd_lt (pw_of (pd_len (by rfl) T.n_len (pv_c (pw_var 2) pv_n))) (pw_of (pd_var 1)) (nomark _))
      (ss_cons (s_if (pt_cmp (opd_eq hr.units) (pw_of (pd_ix (pw_of (pd_var 3)) (pw_of pd_int))) (pw_of pd_int) (nomark _))
      (ss_one (s_app 2 (pd_var 4)))
      ss_nil)
      (ss_cons (s_set 3 sc_row_starts.nd (pd_call (ok_next_state T) hr (by rfl) T.g_next_state T.F_next_state.kp T.b_next_state (pa_c (pd_var 0) (pa_c (pd_var 3) pa_n))))
      (ss_one (s_set 4 sc_row_starts.nd (pd_op opd_add (pw_of (pd_var 4)) (pw_of pd_int)))))))
      (ss_one (s_frz 2 (s_ret (pd_var 2)))))))))
theorem ok_L_cell (T : Top w K mg) : FnOk P w K mg base CX0 1 T.f_L_cell T.fd_L_cell ["script", "k"] (spD K mg 2 M_L_cell) :=
  def_M (fb := B_L_cell) T.F_L_cell sc_L_cell rfl rfl (fun cdv A outer s H E hr =>
      (ss_cons (s_if (pt_cmp opd_lt (pw_of (pd_var 1)) (pw_of (pd_len (by rfl) T.n_len (pv_c (pw_of (pd_var 0)) pv_n))) (nomark _))
      (ss_one (s_ret (pd_ix (pw_of (pd_var 0)) (pw_of (pd_var 1)))))
      ss_nil)
      (ss_cons (s_if (pt_cmp (opd_eq hr.units) (pw_of (pd_var 0)) (pw_of (pd_of (pf_lst pa_n))) (nomark _))
      (ss_one (s_ret pd_int))
      ss_nil)
      (ss_one (s_ret (pd_op opd_add (pw_of (pd_op opd_mul (pw_of (pd_ix (pw_of (pd_var 0)) (pw_of (pd_op opd_mod (pw_of (pd_var 1)) (pw_of (pd_len (by rfl) T.n_len (pv_c (pw_of (pd_var 0)) pv_n))))))) (pw_of pd_int))) (pw_of (pd_var 1))))))))
theorem ok_L_pick (T : Top w K mg) : FnOk P w K mg base CX0 2 T.f_L_pick T.fd_L_pick ["script", "k", "many"] (spD K mg 3 M_L_pick) :=
  def_M (fb := B_L_pick) T.F_L_pick sc_L_pick rfl rfl (fun cdv A outer s H E hr =>
      (ss_cons (s_set 3 sc_L_pick.nd (pd_op opd_mod (pw_of (pd_op opd_mul (pw_of (pd_op opd_add (pw_of (pd_call (ok_L_cell T) hr (by rfl) T.g_L_cell T.F_L_cell.kp T.b_L_cell (pa_c (pd_var 0) (pa_c (pd_var 1) pa_n)))) (pw_of (pd_op opd_mul (pw_of pd_int) (pw_of (pd_op opd_add (pw_of (pd_var 1)) (pw_of pd_int))))))) (pw_of pd_int))) (pw_of pd_int)))
      (ss_one (s_ret (pd_op opd_mod (pw_of (pd_op opd_mod (pw_of (pd_op opd_add (pw_of (pd_op opd_mul (pw_of (pd_var 3)) (pw_of (pd_var 3)))) (pw_of (pd_op opd_fdiv (pw_of (pd_var 3)) (pw_of pd_int))))) (pw_of pd_int))) (pw_of (pd_var 2)))))))
theorem ok_L_box (T : Top w K mg) : FnOk P w K mg base CX0 3 T.f_L_box T.fd_L_box ["script", "at", "places"] (spD K mg 3 M_L_box) :=
  def_M (fb := B_L_box) T.F_L_box sc_L_box rfl rfl (fun cdv A outer s H E hr =>
      (ss_cons (s_set 3 sc_L_box.nd (pd_call (ok_L_pick T) hr (by rfl) T.g_L_pick T.F_L_pick.kp T.b_L_pick (pa_c (pd_var 0) (pa_c (pd_var 1) (pa_c pd_int pa_n)))))
      (ss_cons (s_set 4 sc_L_box.nd pd_non)
      (ss_cons (s_if (pt_cmp opd_gt (pw_of (pd_var 3)) (pw_of pd_int) (nomark _))
      (ss_one (s_set 4 sc_L_box.nd (pd_if (pt_cmp (opd_eq hr.units) (pw_of (pd_var 3)) (pw_of pd_int) (nomark _)) pd_str (pd_call (ok_L_pick T) hr (by rfl) T.g_L_pick T.F_L_pick.kp T.b_L_pick (pa_c (pd_var 0) (pa_c (pd_op opd_add (pw_of (pd_var 1)) (pw_of pd_int)) (pa_c pd_int pa_n)))))))
      ss_nil)
      (ss_cons (s_set 5 sc_L_box.nd (pd_call (ok_L_pick T) hr (by rfl) T.g_L_pick T.F_L_pick.kp T.b_L_pick (pa_c (pd_var 0) (pa_c (pd_op opd_add (pw_of (pd_var 1)) (pw_of pd_int)) (pa_c pd_int pa_n)))))
      (ss_cons (s_if (pt_cmp opd_gt (pw_of (pd_var 5)) (pw_of pd_int) (nomark _))
      (ss_one (s_ret (pd_tup (pa_c (pd_var 4) (pa_c pd_non pa_n)))))
      ss_nil)
      (ss_cons (s_set 6 sc_L_box.nd (pd_ix (pw_of (pd_of (pf_lst (pa_c pd_str (pa_c pd_str (pa_c pd_str (pa_c pd_str (pa_c pd_str (pa_c pd_str pa_n))))))))) (pw_of (pd_var 5))))
      (ss_cons (s_set 7 sc_L_box.nd (pd_ix (pw_of (pd_of (pf_lst (pa_c pd_int (pa_c (pd_neg (pw_of pd_int)) (pa_c (pd_neg (pw_of pd_int)) (pa_c pd_int (pa_c pd_int (pa_c pd_int pa_n))))))))) (pw_of (pd_var 5))))
      (ss_one (s_ret (pd_tup (pa_c (pd_var 4) (pa_c (pd_tup (pa_c (pd_var 6) (pa_c (pd_op opd_add (pw_of (pd_var 7)) (pw_of (pd_call (ok_L_pick T) hr (by rfl) T.g_L_pick T.F_L_pick.kp T.b_L_pick (pa_c (pd_var 0) (pa_c (pd_op opd_add (pw_of (pd_var 1)) (pw_of pd_int)) (pa_c (pd_ix (pw_of (pd_of (pf_lst (pa_c pd_int (pa_c pd_int (pa_c pd_int (pa_c (pd_var 2) (pa_c pd_int (pa_c pd_int pa_n))))))))) (pw_of (pd_var 5))) pa_n)))))) pa_n))) pa_n)))))))))))))
theorem ok_L_song (T : Top w K mg) : FnOk P w K mg base CX0 4 T.f_L_song T.fd_L_song ["script", "at", "most"] (spD K mg 3 M_L_song) :=
  def_M (fb := B_L_song) T.F_L_song sc_L_song rfl rfl (fun cdv A outer s H E hr =>
      (ss_cons (s_set 3 sc_L_song.nd (pd_op opd_add (pw_of pd_int) (pw_of (pd_call (ok_L_pick T) (hr.mono (by decide)) (by rfl) T.g_L_pick T.F_L_pick.kp T.b_L_pick (pa_c (pd_var 0) (pa_c (pd_var 1) (pa_c (pd_var 2) pa_n)))))))
      (ss_cons (s_set 4 sc_L_song.nd (pd_op opd_add (pw_of pd_int) (pw_of (pd_call (ok_L_pick T) (hr.mono (by decide)) (by rfl) T.g_L_pick T.F_L_pick.kp T.b_L_pick (pa_c (pd_var 0) (pa_c (pd_op opd_add (pw_of (pd_var 1)) (pw_of pd_int)) (pa_c pd_int pa_n)))))))
      (ss_cons (s_set 5 sc_L_song.nd (pd_ix (pw_of (pd_of (pf_lst (pa_c pd_int (pa_c pd_int (pa_c pd_int (pa_c pd_int pa_n))))))) (pw_of (pd_call (ok_L_pick T) (hr.mono (by decide)) (by rfl) T.g_L_pick T.F_L_pick.kp T.b_L_pick (pa_c (pd_var 0) (pa_c (pd_op opd_add (pw_of (pd_var 1)) (pw_of pd_int)) (pa_c pd_int pa_n)))))))
      (ss_cons (s_own 6 sc_L_song.nd (pf_lst pa_n))
      (ss_cons (s_for PassesOwn.never rfl (pi_r1 (by rfl) T.n_range (pv_c (pw_of (pd_var 4)) pv_n)) (g_name 7 sc_L_song.nd)
      (ss_cons (s_own 8 sc_L_song.nd (pf_lst pa_n))
      (ss_cons (s_for PassesOwn.never rfl (pi_r1 (by rfl) T.n_range (pv_c (pw_of (pd_op opd_add (pw_of pd_int) (pw_of (pd_call (ok_L_pick T) (hr.mono (by decide)) (by rfl) T.g_L_pick T.F_L_pick.kp T.b_L_pick (pa_c (pd_var 0) (pa_c (pd_op opd_add (pw_of (pd_op opd_add (pw_of (pd_var 1)) (pw_of pd_int))) (pw_of (pd_var 7))) (pa_c (pd_var 2) pa_n))))))) pv_n)) (g_name 9 sc_L_song.nd)
      (ss_cons (s_set 10 sc_L_song.nd (pd_op opd_add (pw_of (pd_op opd_add (pw_of (pd_op opd_add (pw_of (pd_var 1)) (pw_of pd_int))) (pw_of (pd_op opd_mul (pw_of pd_int) (pw_of (pd_var 7)))))) (pw_of (pd_op opd_mul (pw_of pd_int) (pw_of (pd_var 9))))))
      (ss_one (s_app 8 (pd_tuple (by rfl) T.n_tuple (pv_c (pw_of (pd_of (pf_lc (own := [("v", 11)]) rfl sc_L_song.nd (pi_r1 (by rfl) T.n_range (pv_c (pw_of (pd_var 5)) pv_n)) (bk_ok rfl) (fun _ _ _ _ _ => (g_name 11 sc_L_song.nd)) (fun _ _ _ _ _ => pts_y) (fun _ _ _ _ _ => (pd_call (ok_L_box T) hr (by rfl) T.g_L_box T.F_L_box.kp T.b_L_box (pa_c (pd_var 0) (pa_c (pd_op opd_add (pw_of (pd_var 10)) (pw_of (pd_op opd_mul (pw_of pd_int) (pw_of (pd_var 11))))) (pa_c (pd_var 3) pa_n)))))))) pv_n))))))
      (ss_one (s_app 6 (pd_tuple (by rfl) T.n_tuple (pv_c (pw_var 8) pv_n)))))))
      (ss_cons (s_set 12 sc_L_song.nd (pd_tuple (by rfl) T.n_tuple (pv_c (pw_of (pd_of (pf_lc (own := [("k", 9)]) rfl sc_L_song.nd (pi_r1 (by rfl) T.n_range (pv_c (pw_of (pd_var 3)) pv_n)) (bk_ok rfl) (fun _ _ _ _ _ => (g_name 9 sc_L_song.nd)) (fun _ _ _ _ _ => pts_y) (fun _ _ _ _ _ => (pd_call (ok_L_pick T) (hr.mono (by decide)) (by rfl) T.g_L_pick T.F_L_pick.kp T.b_L_pick (pa_c (pd_var 0) (pa_c (pd_op opd_add (pw_of (pd_op opd_add (pw_of (pd_var 1)) (pw_of pd_int))) (pw_of (pd_var 9))) (pa_c (pd_var 4) pa_n)))))))) pv_n)))
      (ss_one (s_ret (pd_tup (pa_c (pd_op opd_add (pw_of pd_int) (pw_of (pd_call (ok_L_pick T) (hr.mono (by decide)) (by rfl) T.g_L_pick T.F_L_pick.kp T.b_L_pick (pa_c (pd_var 0) (pa_c (pd_op opd_add (pw_of (pd_var 1)) (pw_of pd_int)) (pa_c pd_int pa_n)))))) (pa_c (pd_var 12) (pa_c (pd_tuple (by rfl) T.n_tuple (pv_c (pw_var 6) pv_n)) pa_n)))))))))))))
theorem ok_L_slides (T : Top w K mg) : FnOk P w K mg base CX0 1 T.f_L_slides T.fd_L_slides ["part"] (spD K mg 1 M_L_slides) :=
  def_M (fb := B_L_slides) T.F_L_slides sc_L_slides rfl rfl (fun cdv A outer s H E hr =>
      (ss_cons (s_own 1 sc_L_slides.nd (pf_lst pa_n))
      (ss_cons (s_for PassesOwn.never rfl (pi_r2 (by rfl) T.n_range (pv_c (pw_of pd_int) (pv_c (pw_of (pd_len (by rfl) T.n_len (pv_c (pw_of (pd_var 0)) pv_n))) pv_n))) (g_name 2 sc_L_slides.nd)
      (ss_cons (s_if (pt_cmp (opd_ne hr.units) (pw_of (pd_cmp opd_is (pw_of (pd_ix (pw_of (pd_var 0)) (pw_of (pd_var 2)))) (pw_of pd_non) (nomark _))) (pw_of (pd_cmp opd_is (pw_of (pd_ix (pw_of (pd_var 0)) (pw_of (pd_op opd_sub (pw_of (pd_var 2)) (pw_of pd_int))))) (pw_of pd_non) (nomark _))) (nomark _))
      (ss_one (s_ret pd_non))
      ss_nil)
      (ss_one (s_app 1 (pd_if (pt_cmp opd_is (pw_of (pd_ix (pw_of (pd_var 0)) (pw_of (pd_var 2)))) (pw_of pd_non) (nomark _)) pd_int (pd_op opd_mod (pw_of (pd_op opd_sub (pw_of (pd_ix (pw_of (pd_var 0)) (pw_of (pd_var 2)))) (pw_of (pd_ix (pw_of (pd_var 0)) (pw_of (pd_op opd_sub (pw_of (pd_var 2)) (pw_of pd_int))))))) (pw_of pd_int)))))))
      (ss_cons (s_if (pt_w (pw_o (pt_cmp (opd_eq hr.units) (pw_var 1) (pw_of (pd_of (pf_lst pa_n))) (nomark _)) (pw_o1 (pt_cmp (opd_eq hr.units) (pw_var 1) (pw_of (pd_op opd_mul (pw_of (pd_of (pf_lst (pa_c pd_int pa_n)))) (pw_of (pd_len (by rfl) T.n_len (pv_c (pw_var 1) pv_n))))) (nomark _)))))
      (ss_one (s_ret pd_int))
      ss_nil)
      (ss_one (s_ret (pd_if (pt_cmp (opd_eq hr.units) (pw_var 1) (pw_of (pd_op opd_mul (pw_of (pd_of (pf_lst (pa_c (pd_ix (pw_var 1) (pw_of pd_int)) pa_n)))) (pw_of (pd_len (by rfl) T.n_len (pv_c (pw_var 1) pv_n))))) (nomark _)) pd_int pd_non)))))))
theorem ok_L_fewest (T : Top w K mg) : FnOk P w K mg base CX0 2 T.f_L_fewest T.fd_L_fewest ["heights"] (spD K mg 1 M_L_fewest) :=
  def_M (fb := B_L_fewest) T.F_L_fewest sc_L_fewest rfl rfl (fun cdv A outer s H E hr =>
      (ss_cons (s_set 1 sc_L_fewest.nd (pd_len (by rfl) T.n_len (pv_c (pw_of (pd_var 0)) pv_n)))
      (ss_cons (s_dctL rfl (un70 hr) 2 (by rfl) T.n_dict sc_L_fewest.nd (pv_c (pw_of (pd_of (pf_lc (own := [("speed", 3)]) rfl sc_L_fewest.nd (pi_r2 (by rfl) T.n_range (pv_c (pw_of pd_int) (pv_c (pw_of pd_int) pv_n))) (bk_ok rfl) (fun _ _ _ _ _ => (g_name 3 sc_L_fewest.nd)) (fun _ _ _ _ _ => pts_y) (fun _ _ _ _ _ => (pd_tup (pa_c (pd_tup (pa_c (pd_var 1) (pa_c (pd_var 3) pa_n))) (pa_c pd_int pa_n))))))) pv_n))
      (ss_cons (s_for PassesOwn.never rfl (pi_rd (by rfl) T.n_range (pv_c (pw_of (pd_op opd_sub (pw_of (pd_var 1)) (pw_of pd_int))) (pv_c (pw_of (pd_neg (pw_of pd_int))) (pv_c (pw_of (pd_neg (pw_of pd_int))) pv_n)))) (g_name 4 sc_L_fewest.nd)
      (ss_one (s_for PassesOwn.never rfl (pi_r2 (by rfl) T.n_range (pv_c (pw_of pd_int) (pv_c (pw_of pd_int) pv_n))) (g_name 3 sc_L_fewest.nd)
      (ss_cons (s_own 5 sc_L_fewest.nd (pf_lst pa_n))
      (ss_cons (s_for PassesOwn.never rfl (pi_r2 (by rfl) T.n_range (pv_c (pw_of pd_int) (pv_c (pw_of (pd_op opd_add (pw_of (pd_min2 rfl (by rfl) T.n_min (pv_c (pw_of pd_int) (pv_c (pw_of (pd_op opd_sub (pw_of (pd_var 1)) (pw_of (pd_var 4)))) pv_n)))) (pw_of pd_int))) pv_n))) (g_name 6 sc_L_fewest.nd)
      (ss_cons (s_setLc 7 (own := [("voice", 9)]) rfl sc_L_fewest.nd (pi_r1 (by rfl) T.n_range (pv_c (pw_of (pd_len (by rfl) T.n_len (pv_c (pw_of (pd_ix (pw_of (pd_var 0)) (pw_of pd_int))) pv_n))) pv_n)) (bk_ok rfl) (fun _ _ _ _ _ => (g_name 9 sc_L_fewest.nd)) (fun _ _ _ _ _ => pts_y) (fun _ _ _ _ _ => (pd_of (pf_lc (own := [("row", 8)]) rfl sc_L_fewest.nd (pi_sq (pd_sl (pw_of (pd_var 0)) (pp_s (pw_of (pd_var 4))) (pp_s (pw_of (pd_op opd_add (pw_of (pd_var 4)) (pw_of (pd_var 6))))))) (bk_ok rfl) (fun _ _ _ _ _ => (g_name 8 sc_L_fewest.nd)) (fun _ _ _ _ _ => pts_y) (fun _ _ _ _ _ => (pd_ix (pw_of (pd_var 8)) (pw_of (pd_var 9))))))) (sw_true rfl rfl rfl (by decide +kernel)))
      (ss_cons (s_setLc 10 (own := [("part", 11)]) rfl sc_L_fewest.nd (pi_sq (pd_var 7)) (bk_ok rfl) (fun _ _ _ _ _ => (g_name 11 sc_L_fewest.nd)) (fun _ _ _ _ _ => pts_y) (fun _ _ _ _ _ => (pd_call (ok_L_slides T) hr (by rfl) T.g_L_slides T.F_L_slides.kp T.b_L_slides (pa_c (pd_var 11) pa_n))) (sw_true rfl rfl rfl (by decide +kernel)))
      (ss_one (s_if (pt_w (pw_a (pt_cmp (opd_notIn (un65 hr)) (pw_of pd_non) (pw_of (pd_var 10)) rfl) (pw_a1 (pt_w (pw_o (pt_cmp (opd_eq hr.units) (pw_of (pd_var 6)) (pw_of (pd_var 3)) (nomark _)) (pw_o1 (pt_cmp (opd_in (un65 hr)) (pw_of pd_int) (pw_of (pd_var 10)) rfl)))))))
      (ss_one (s_app 5 (pd_op opd_add (pw_of pd_int) (pw_of (pd_getD (un65 hr) 2 (pd_tup (pa_c (pd_op opd_add (pw_of (pd_var 4)) (pw_of (pd_var 6))) (pa_c (pd_var 6) pa_n))))))))
      ss_nil)))))
      (ss_one (s_dset (un65 hr) 2 (pd_tup (pa_c (pd_var 4) (pa_c (pd_var 3) pa_n))) (pd_minL rfl (by rfl) T.n_min (pv_c (pw_var 5) pv_n)))))))))
      (ss_one (s_ret (pd_minL rfl (by rfl) T.n_min (pv_c (pw_of (pd_of (pf_lc (own := [("speed", 3)]) rfl sc_L_fewest.nd (pi_r2 (by rfl) T.n_range (pv_c (pw_of pd_int) (pv_c (pw_of pd_int) pv_n))) (bk_ok rfl) (fun _ _ _ _ _ => (g_name 3 sc_L_fewest.nd)) (fun _ _ _ _ _ => pts_y) (fun _ _ _ _ _ => (pd_getD (un65 hr) 2 (pd_tup (pa_c pd_int (pa_c (pd_var 3) pa_n)))))))) pv_n))))))))
theorem ok_L_heights (T : Top w K mg) : FnOk P w K mg base CX0 3 T.f_L_heights T.fd_L_heights ["script", "at"] (spD K mg 2 M_L_heights) :=
  def_M (fb := B_L_heights) T.F_L_heights sc_L_heights rfl rfl (fun cdv A outer s H E hr =>
      (ss_cons (s_set 2 sc_L_heights.nd (pd_op opd_add (pw_of pd_int) (pw_of (pd_call (ok_L_pick T) hr (by rfl) T.g_L_pick T.F_L_pick.kp T.b_L_pick (pa_c (pd_var 0) (pa_c (pd_var 1) (pa_c pd_int pa_n)))))))
      (ss_cons (s_own 3 sc_L_heights.nd (pf_mul (pw_of (pd_of (pf_lst (pa_c pd_non pa_n)))) (pw_of (pd_var 2))))
      (ss_cons (s_own 4 sc_L_heights.nd (pf_lst pa_n))
      (ss_cons (s_for PassesOwn.never rfl (pi_r1 (by rfl) T.n_range (pv_c (pw_of (pd_op opd_add (pw_of pd_int) (pw_of (pd_call (ok_L_pick T) hr (by rfl) T.g_L_pick T.F_L_pick.kp T.b_L_pick (pa_c (pd_var 0) (pa_c (pd_op opd_add (pw_of (pd_var 1)) (pw_of pd_int)) (pa_c pd_int pa_n))))))) pv_n)) (g_name 5 sc_L_heights.nd)
      (ss_cons (s_for PassesOwn.never rfl (pi_r1 (by rfl) T.n_range (pv_c (pw_of (pd_var 2)) pv_n)) (g_name 6 sc_L_heights.nd)
      (ss_cons (s_set 7 sc_L_heights.nd (pd_call (ok_L_pick T) hr (by rfl) T.g_L_pick T.F_L_pick.kp T.b_L_pick (pa_c (pd_var 0) (pa_c (pd_op opd_add (pw_of (pd_op opd_add (pw_of (pd_op opd_add (pw_of (pd_var 1)) (pw_of pd_int))) (pw_of (pd_op opd_mul (pw_of pd_int) (pw_of (pd_var 5)))))) (pw_of (pd_var 6))) (pa_c pd_int pa_n)))))
      (ss_one (s_if (pt_cmp opd_gt (pw_of (pd_var 7)) (pw_of pd_int) (nomark _))
      (ss_one (s_sub 3 (pw_of (pd_var 6)) (pd_ix (pw_of (pd_of (pf_lst (pa_c pd_non (pa_c (pd_call (ok_L_pick T) hr (by rfl) T.g_L_pick T.F_L_pick.kp T.b_L_pick (pa_c (pd_var 0) (pa_c (pd_op opd_add (pw_of (pd_op opd_add (pw_of (pd_op opd_add (pw_of (pd_var 1)) (pw_of pd_int))) (pw_of (pd_op opd_mul (pw_of pd_int) (pw_of (pd_var 5)))))) (pw_of (pd_var 6))) (pa_c pd_int pa_n)))) pa_n))))) (pw_of (pd_op opd_sub (pw_of (pd_var 7)) (pw_of pd_int))))))
      (ss_one (s_if (pt_w (pw_a (pt_cmp opd_gt (pw_of (pd_var 7)) (pw_of pd_int) (nomark _)) (pw_a1 (pt_cmp opd_isNot (pw_of (pd_ix (pw_var 3) (pw_of (pd_var 6)))) (pw_of pd_non) (nomark _)))))
      (ss_one (s_sub 3 (pw_of (pd_var 6)) (pd_op opd_mod (pw_of (pd_op opd_add (pw_of (pd_op opd_add (pw_of (pd_ix (pw_var 3) (pw_of (pd_var 6)))) (pw_of (pd_var 6)))) (pw_of pd_int))) (pw_of pd_int))))
      ss_nil))))))
      (ss_one (s_app 4 (pd_tuple (by rfl) T.n_tuple (pv_c (pw_var 3) pv_n))))))
      (ss_one (s_frz 4 (s_ret (pd_var 4)))))))))
theorem ok_law (T : Top w K mg) : FnOk P w K mg base CX0 8 T.f_law T.fd_law ["script"] (spD K mg 1 M_law) :=
  def_M (fb := B_law) T.F_law sc_law rfl rfl (fun cdv A outer s H E hr =>
      (ss_cons (s_set 1 sc_law.nd (pd_call (ok_L_heights T) (hr.mono (by decide)) (by rfl) T.g_L_heights T.F_L_heights.kp T.b_L_heights (pa_c (pd_var 0) (pa_c pd_int pa_n))))
      (ss_cons (s_set 2 sc_law.nd (pd_call (ok_L_pick T) (hr.mono (by decide)) (by rfl) T.g_L_pick T.F_L_pick.kp T.b_L_pick (pa_c (pd_var 0) (pa_c pd_int (pa_c pd_int pa_n)))))
      (ss_cons (s_if (pt_cmp opd_lt (pw_of (pd_var 2)) (pw_of pd_int) (nomark _))
      (ss_one (s_set 1 sc_law.nd (pd_call (ok_heard T) (hr.mono (by decide)) (by rfl) T.g_heard T.F_heard.kp T.b_heard (pa_c (pd_call (ok_L_song T) (hr.mono (by decide)) (by rfl) T.g_L_song T.F_L_song.kp T.b_L_song (pa_c (pd_var 0) (pa_c pd_int (pa_c pd_int pa_n)))) (pa_c (pd_op opd_add (pw_of pd_int) (pw_of (pd_call (ok_L_pick T) (hr.mono (by decide)) (by rfl) T.g_L_pick T.F_L_pick.kp T.b_L_pick (pa_c (pd_var 0) (pa_c pd_int (pa_c pd_int pa_n)))))) pa_n)))))
      (ss_one (s_if (pt_cmp (opd_eq hr.units) (pw_of (pd_var 2)) (pw_of pd_int) (nomark _))
      (ss_cons (s_setLc 3 (own := [("voice", 4)]) rfl sc_law.nd (pi_r1 (by rfl) T.n_range (pv_c (pw_of (pd_op opd_add (pw_of pd_int) (pw_of (pd_call (ok_L_pick T) (hr.mono (by decide)) (by rfl) T.g_L_pick T.F_L_pick.kp T.b_L_pick (pa_c (pd_var 0) (pa_c pd_int (pa_c pd_int pa_n))))))) pv_n)) (bk_ok rfl) (fun _ _ _ _ _ => (g_name 4 sc_law.nd)) (fun _ _ _ _ _ => pts_y) (fun _ _ _ _ _ => (pd_call (ok_L_pick T) (hr.mono (by decide)) (by rfl) T.g_L_pick T.F_L_pick.kp T.b_L_pick (pa_c (pd_var 0) (pa_c (pd_op opd_add (pw_of pd_int) (pw_of (pd_var 4))) (pa_c pd_int pa_n))))) (sw_true rfl rfl rfl (by decide +kernel)))
      (ss_cons (s_own 1 sc_law.nd (pf_lst pa_n))
      (ss_one (s_for PassesOwn.never rfl (pi_r1 (by rfl) T.n_range (pv_c (pw_of (pd_op opd_add (pw_of pd_int) (pw_of (pd_call (ok_L_pick T) (hr.mono (by decide)) (by rfl) T.g_L_pick T.F_L_pick.kp T.b_L_pick (pa_c (pd_var 0) (pa_c pd_int (pa_c pd_int pa_n))))))) pv_n)) (g_name 5 sc_law.nd)
      (ss_one (s_app 1 (pd_tuple (by rfl) T.n_tuple (pv_c (pw_of (pd_of (pf_lc (own := [("voice", 4), ("one", 6)]) rfl sc_law.nd (pi_en (by rfl) T.n_enumerate (pa_c (pd_var 3) pa_n)) (bk_ok rfl) (fun _ _ _ _ _ => (g_tup rfl (g_cons (g_name 4 sc_law.nd) (g_cons (g_name 6 sc_law.nd) g_nil)))) (fun _ _ _ _ _ => pts_y) (fun _ _ _ _ _ => (pd_op opd_mod (pw_of (pd_op opd_add (pw_of (pd_var 6)) (pw_of (pd_op opd_mul (pw_of (pd_op opd_add (pw_of (pd_var 4)) (pw_of pd_int))) (pw_of (pd_var 5)))))) (pw_of pd_int)))))) pv_n))))))))
      ss_nil)))
      (ss_cons (s_set 7 sc_law.nd (pd_callX tk0 (ok_song_of T) (hr.mono (by decide)) (by rfl) T.g_song_of T.F_song_of.kp T.b_song_of (pa_c (pd_of (pf_list (by rfl) T.n_list (pv_c (pw_var 1) pv_n))) pa_n)))
      (ss_cons (s_if (pt_w (pw_o (pt_cmp opd_isNot (pw_of (pd_call (ok_is_song T) hr (by rfl) T.g_is_song T.F_is_song.kp T.b_is_song (pa_c (pd_var 7) pa_n))) (pw_of pd_bl) (nomark _)) (pw_o1 (pt_cmp (opd_ne hr.units) (pw_of (pd_call (ok_heard T) (hr.mono (by decide)) (by rfl) T.g_heard T.F_heard.kp T.b_heard (pa_c (pd_var 7) (pa_c (pd_len (by rfl) T.n_len (pv_c (pw_var 1) pv_n)) pa_n)))) (pw_var 1) (nomark _)))))
      (ss_one (s_ret pd_bl))
      ss_nil)
      (ss_cons (s_own 8 sc_law.nd (pf_lst pa_n))
      (ss_cons (s_for PassesOwn.never rfl (pi_sq (pd_ix (pw_of (pd_var 7)) (pw_of pd_int))) (g_name 9 sc_law.nd)
      (ss_one (s_ext 8 (pw_of (pd_of (pf_list (by rfl) T.n_list (pv_c (pw_of (pd_var 9)) pv_n)))))))
      (ss_cons (s_frz 8 (s_for PassesOwn.never rfl (pi_sq (pd_var 8)) (g_name 10 sc_law.nd)
      (ss_one (s_if (pt_cmp (opd_ne hr.units) (pw_of (pd_of (pf_lc (own := [("box", 11)]) rfl sc_law.nd (pi_sq (pd_var 10)) (bk_ok rfl) (fun _ _ _ _ _ => (g_name 11 sc_law.nd)) (fun _ _ _ _ _ => (pts_o (pt_w (pw_a (pt_cmp opd_isNot (pw_of (pd_ix (pw_of (pd_var 11)) (pw_of pd_int))) (pw_of pd_non) (nomark _)) (pw_a1 (pt_cmp (opd_in (un65 hr)) (pw_of (pd_ix (pw_of (pd_ix (pw_of (pd_var 11)) (pw_of pd_int))) (pw_of pd_int))) (pw_of (pd_tup (pa_c pd_str (pa_c pd_str (pa_c pd_str pa_n))))) rfl)))))) (fun _ _ _ _ _ => (pd_var 11))))) (pw_of (pd_of (pf_lst pa_n))) (nomark _))
      (ss_one (s_ret pd_bl))
      ss_nil))))
      (ss_cons (s_setLc 12 (own := [("pattern", 9)]) rfl sc_law.nd (pi_sq (pd_ix (pw_of (pd_var 7)) (pw_of pd_int))) (bk_ok rfl) (fun _ _ _ _ _ => (g_name 9 sc_law.nd)) (fun _ _ _ _ _ => pts_y) (fun _ _ _ _ _ => (pd_len (by rfl) T.n_len (pv_c (pw_of (pd_var 9)) pv_n))) (sw_true rfl rfl rfl (by decide +kernel)))
      (ss_cons (s_if (pt_w (pw_o (pt_cmp (opd_ne hr.units) (pw_of (pd_sl (pw_of (pd_var 12)) pp_n (pp_s (pw_of (pd_neg (pw_of pd_int)))))) (pw_of (pd_op opd_mul (pw_of (pd_of (pf_lst (pa_c pd_int pa_n)))) (pw_of (pd_op opd_sub (pw_of (pd_len (by rfl) T.n_len (pv_c (pw_of (pd_var 12)) pv_n))) (pw_of pd_int))))) (nomark _)) (pw_o1 (pt_cmp (opd_ne hr.units) (pw_of (pd_ix (pw_of (pd_var 7)) (pw_of pd_int))) (pw_of (pd_tuple (by rfl) T.n_tuple (pv_c (pw_of (pd_of (pf_listR1 rfl (by rfl) T.n_list (by rfl) T.n_range (pw_of (pd_len (by rfl) T.n_len (pv_c (pw_of (pd_var 12)) pv_n)))))) pv_n))) (nomark _)))))
      (ss_one (s_ret pd_bl))
      ss_nil)
      (ss_cons (s_if (pt_cmp (opd_ne hr.units) (pw_of (pd_ix (pw_of (pd_call (ok_row_starts T) (hr.mono (by decide)) (by rfl) T.g_row_starts T.F_row_starts.kp T.b_row_starts (pa_c (pd_var 7) (pa_c (pd_op opd_add (pw_of (pd_len (by rfl) T.n_len (pv_c (pw_var 8) pv_n))) (pw_of pd_int)) pa_n)))) (pw_of (pd_neg (pw_of pd_int))))) (pw_of (pd_len (by rfl) T.n_len (pv_c (pw_var 1) pv_n))) (nomark _))
      (ss_one (s_ret pd_bl))
      ss_nil)
      (ss_cons (s_if (pt_cmp (opd_ne hr.units) (pw_of (pd_lenSet rfl (un70 hr) (by rfl) T.n_len (by rfl) T.n_set (pv_c (pw_of (pd_call (ok_rows_played T) (hr.mono (by decide)) (by rfl) T.g_rows_played T.F_rows_played.kp T.b_rows_played (pa_c (pd_var 7) (pa_c (pd_len (by rfl) T.n_len (pv_c (pw_var 8) pv_n)) pa_n)))) pv_n))) (pw_of (pd_len (by rfl) T.n_len (pv_c (pw_var 8) pv_n))) (nomark _))
      (ss_one (s_ret pd_bl))
      ss_nil)
      (ss_one (s_frz 1 (s_ret (pd_cmp (opd_eq hr.units) (pw_of (pd_len (by rfl) T.n_len (pv_c (pw_var 8) pv_n))) (pw_of (pd_call (ok_L_fewest T) (hr.mono (by decide)) (by rfl) T.g_L_fewest T.F_L_fewest.kp T.b_L_fewest (pa_c (pd_var 1) pa_n))) (nomark _))))))))))))))))))
end
/-! the end -/
def top_mk {w : World} {K : PySem.W.Frag} {h : Heap} {mg : Str → Option Value} (X : K.In h) (G : h.Ns mainGlobals mg)
    {f_is_whole : Addr}
    {f_is_between : Addr}
    {f_is_sound : Addr}
    {f_is_deed : Addr}
    {f_is_box : Addr}
    {f_is_row : Addr}
    {f_is_pattern : Addr}
    {f_is_song : Addr}
    {f_voices_of : Addr}
    {f_pattern_at : Addr}
    {f_number_by : Addr}
    {f_slide_for : Addr}
    {f_boxes_for : Addr}
    {f_fewest_rows : Addr}
    {f_song_of : Addr}
    {f_first_state : Addr}
    {f_struck : Addr}
    {f_slid : Addr}
    {f_place_behind : Addr}
    {f_state_on : Addr}
    {f_next_state : Addr}
    {f_heard_from : Addr}
    {f_heard : Addr}
    {f_rows_played : Addr}
    {f_row_starts : Addr}
    {f_L_cell : Addr}
    {f_L_pick : Addr}
    {f_L_box : Addr}
    {f_L_song : Addr}
    {f_L_slides : Addr}
    {f_L_fewest : Addr}
    {f_L_heights : Addr}
    {f_law : Addr}
    {oc_is_whole kV_is_whole dc_is_whole pm_is_whole cd_is_whole ct_is_whole : Value} {od_is_whole an_is_whole : Option Addr} {sl_is_whole : Array (Option Value)}
    {oc_is_between kV_is_between dc_is_between pm_is_between cd_is_between ct_is_between : Value} {od_is_between an_is_between : Option Addr} {sl_is_between : Array (Option Value)}
    {oc_is_sound kV_is_sound dc_is_sound pm_is_sound cd_is_sound ct_is_sound : Value} {od_is_sound an_is_sound : Option Addr} {sl_is_sound : Array (Option Value)}
    {oc_is_deed kV_is_deed dc_is_deed pm_is_deed cd_is_deed ct_is_deed : Value} {od_is_deed an_is_deed : Option Addr} {sl_is_deed : Array (Option Value)}
    {oc_is_box kV_is_box dc_is_box pm_is_box cd_is_box ct_is_box : Value} {od_is_box an_is_box : Option Addr} {sl_is_box : Array (Option Value)}
    {oc_is_row kV_is_row dc_is_row pm_is_row cd_is_row ct_is_row : Value} {od_is_row an_is_row : Option Addr} {sl_is_row : Array (Option Value)}
    {oc_is_pattern kV_is_pattern dc_is_pattern pm_is_pattern cd_is_pattern ct_is_pattern : Value} {od_is_pattern an_is_pattern : Option Addr} {sl_is_pattern : Array (Option Value)}
    {oc_is_song kV_is_song dc_is_song pm_is_song cd_is_song ct_is_song : Value} {od_is_song an_is_song : Option Addr} {sl_is_song : Array (Option Value)}
    {oc_voices_of kV_voices_of dc_voices_of pm_voices_of cd_voices_of ct_voices_of : Value} {od_voices_of an_voices_of : Option Addr} {sl_voices_of : Array (Option Value)}
    {oc_pattern_at kV_pattern_at dc_pattern_at pm_pattern_at cd_pattern_at ct_pattern_at : Value} {od_pattern_at an_pattern_at : Option Addr} {sl_pattern_at : Array (Option Value)}
    {oc_number_by kV_number_by dc_number_by pm_number_by cd_number_by ct_number_by : Value} {od_number_by an_number_by : Option Addr} {sl_number_by : Array (Option Value)}
    {oc_slide_for kV_slide_for dc_slide_for pm_slide_for cd_slide_for ct_slide_for : Value} {od_slide_for an_slide_for : Option Addr} {sl_slide_for : Array (Option Value)}
    {oc_boxes_for kV_boxes_for dc_boxes_for pm_boxes_for cd_boxes_for ct_boxes_for : Value} {od_boxes_for an_boxes_for : Option Addr} {sl_boxes_for : Array (Option Value)}
    {oc_fewest_rows kV_fewest_rows dc_fewest_rows pm_fewest_rows cd_fewest_rows ct_fewest_rows : Value} {od_fewest_rows an_fewest_rows : Option Addr} {sl_fewest_rows : Array (Option Value)}
    {oc_song_of kV_song_of dc_song_of pm_song_of cd_song_of ct_song_of : Value} {od_song_of an_song_of : Option Addr} {sl_song_of : Array (Option Value)}
    {oc_first_state kV_first_state dc_first_state pm_first_state cd_first_state ct_first_state : Value} {od_first_state an_first_state : Option Addr} {sl_first_state : Array (Option Value)}
    {oc_struck kV_struck dc_struck pm_struck cd_struck ct_struck : Value} {od_struck an_struck : Option Addr} {sl_struck : Array (Option Value)}
    {oc_slid kV_slid dc_slid pm_slid cd_slid ct_slid : Value} {od_slid an_slid : Option Addr} {sl_slid : Array (Option Value)}
    {oc_place_behind kV_place_behind dc_place_behind pm_place_behind cd_place_behind ct_place_behind : Value} {od_place_behind an_place_behind : Option Addr} {sl_place_behind : Array (Option Value)}
    {oc_state_on kV_state_on dc_state_on pm_state_on cd_state_on ct_state_on : Value} {od_state_on an_state_on : Option Addr} {sl_state_on : Array (Option Value)}
    {oc_next_state kV_next_state dc_next_state pm_next_state cd_next_state ct_next_state : Value} {od_next_state an_next_state : Option Addr} {sl_next_state : Array (Option Value)}
    {oc_heard_from kV_heard_from dc_heard_from pm_heard_from cd_heard_from ct_heard_from : Value} {od_heard_from an_heard_from : Option Addr} {sl_heard_from : Array (Option Value)}
    {oc_heard kV_heard dc_heard pm_heard cd_heard ct_heard : Value} {od_heard an_heard : Option Addr} {sl_heard : Array (Option Value)}
    {oc_rows_played kV_rows_played dc_rows_played pm_rows_played cd_rows_played ct_rows_played : Value} {od_rows_played an_rows_played : Option Addr} {sl_rows_played : Array (Option Value)}
    {oc_row_starts kV_row_starts dc_row_starts pm_row_starts cd_row_starts ct_row_starts : Value} {od_row_starts an_row_starts : Option Addr} {sl_row_starts : Array (Option Value)}
    {oc_L_cell kV_L_cell dc_L_cell pm_L_cell cd_L_cell ct_L_cell : Value} {od_L_cell an_L_cell : Option Addr} {sl_L_cell : Array (Option Value)}
    {oc_L_pick kV_L_pick dc_L_pick pm_L_pick cd_L_pick ct_L_pick : Value} {od_L_pick an_L_pick : Option Addr} {sl_L_pick : Array (Option Value)}
    {oc_L_box kV_L_box dc_L_box pm_L_box cd_L_box ct_L_box : Value} {od_L_box an_L_box : Option Addr} {sl_L_box : Array (Option Value)}
    {oc_L_song kV_L_song dc_L_song pm_L_song cd_L_song ct_L_song : Value} {od_L_song an_L_song : Option Addr} {sl_L_song : Array (Option Value)}
    {oc_L_slides kV_L_slides dc_L_slides pm_L_slides cd_L_slides ct_L_slides : Value} {od_L_slides an_L_slides : Option Addr} {sl_L_slides : Array (Option Value)}
    {oc_L_fewest kV_L_fewest dc_L_fewest pm_L_fewest cd_L_fewest ct_L_fewest : Value} {od_L_fewest an_L_fewest : Option Addr} {sl_L_fewest : Array (Option Value)}
    {oc_L_heights kV_L_heights dc_L_heights pm_L_heights cd_L_heights ct_L_heights : Value} {od_L_heights an_L_heights : Option Addr} {sl_L_heights : Array (Option Value)}
    {oc_law kV_law dc_law pm_law cd_law ct_law : Value} {od_law an_law : Option Addr} {sl_law : Array (Option Value)}
    (a_is_whole : PySem.W.nsIn K mainGlobals "is_whole" = some (some (.ref f_is_whole))) (l_is_whole : K.lookup f_is_whole = some ⟨oc_is_whole, od_is_whole, .func (PySem.W.fnOf "is_whole" "is_whole" (defArgs s_is_whole) (defBody s_is_whole) (defScope s_is_whole) .none kV_is_whole dc_is_whole pm_is_whole an_is_whole cd_is_whole ct_is_whole), sl_is_whole⟩) (k_is_whole : PySem.W.codeIn K cd_is_whole "is_whole" = true) (j_is_whole : PySem.W.keepIn K (.ref f_is_whole) = true)
    (a_is_between : PySem.W.nsIn K mainGlobals "is_between" = some (some (.ref f_is_between))) (l_is_between : K.lookup f_is_between = some ⟨oc_is_between, od_is_between, .func (PySem.W.fnOf "is_between" "is_between" (defArgs s_is_between) (defBody s_is_between) (defScope s_is_between) .none kV_is_between dc_is_between pm_is_between an_is_between cd_is_between ct_is_between), sl_is_between⟩) (k_is_between : PySem.W.codeIn K cd_is_between "is_between" = true) (j_is_between : PySem.W.keepIn K (.ref f_is_between) = true)
    (a_is_sound : PySem.W.nsIn K mainGlobals "is_sound" = some (some (.ref f_is_sound))) (l_is_sound : K.lookup f_is_sound = some ⟨oc_is_sound, od_is_sound, .func (PySem.W.fnOf "is_sound" "is_sound" (defArgs s_is_sound) (defBody s_is_sound) (defScope s_is_sound) .none kV_is_sound dc_is_sound pm_is_sound an_is_sound cd_is_sound ct_is_sound), sl_is_sound⟩) (k_is_sound : PySem.W.codeIn K cd_is_sound "is_sound" = true) (j_is_sound : PySem.W.keepIn K (.ref f_is_sound) = true)
    (a_is_deed : PySem.W.nsIn K mainGlobals "is_deed" = some (some (.ref f_is_deed))) (l_is_deed : K.lookup f_is_deed = some ⟨oc_is_deed, od_is_deed, .func (PySem.W.fnOf "is_deed" "is_deed" (defArgs s_is_deed) (defBody s_is_deed) (defScope s_is_deed) .none kV_is_deed dc_is_deed pm_is_deed an_is_deed cd_is_deed ct_is_deed), sl_is_deed⟩) (k_is_deed : PySem.W.codeIn K cd_is_deed "is_deed" = true) (j_is_deed : PySem.W.keepIn K (.ref f_is_deed) = true)
    (a_is_box : PySem.W.nsIn K mainGlobals "is_box" = some (some (.ref f_is_box))) (l_is_box : K.lookup f_is_box = some ⟨oc_is_box, od_is_box, .func (PySem.W.fnOf "is_box" "is_box" (defArgs s_is_box) (defBody s_is_box) (defScope s_is_box) .none kV_is_box dc_is_box pm_is_box an_is_box cd_is_box ct_is_box), sl_is_box⟩) (k_is_box : PySem.W.codeIn K cd_is_box "is_box" = true) (j_is_box : PySem.W.keepIn K (.ref f_is_box) = true)
    (a_is_row : PySem.W.nsIn K mainGlobals "is_row" = some (some (.ref f_is_row))) (l_is_row : K.lookup f_is_row = some ⟨oc_is_row, od_is_row, .func (PySem.W.fnOf "is_row" "is_row" (defArgs s_is_row) (defBody s_is_row) (defScope s_is_row) .none kV_is_row dc_is_row pm_is_row an_is_row cd_is_row ct_is_row), sl_is_row⟩) (k_is_row : PySem.W.codeIn K cd_is_row "is_row" = true) (j_is_row : PySem.W.keepIn K (.ref f_is_row) = true)
    (a_is_pattern : PySem.W.nsIn K mainGlobals "is_pattern" = some (some (.ref f_is_pattern))) (l_is_pattern : K.lookup f_is_pattern = some ⟨oc_is_pattern, od_is_pattern, .func (PySem.W.fnOf "is_pattern" "is_pattern" (defArgs s_is_pattern) (defBody s_is_pattern) (defScope s_is_pattern) .none kV_is_pattern dc_is_pattern pm_is_pattern an_is_pattern cd_is_pattern ct_is_pattern), sl_is_pattern⟩) (k_is_pattern : PySem.W.codeIn K cd_is_pattern "is_pattern" = true) (j_is_pattern : PySem.W.keepIn K (.ref f_is_pattern) = true)
    (a_is_song : PySem.W.nsIn K mainGlobals "is_song" = some (some (.ref f_is_song))) (l_is_song : K.lookup f_is_song = some ⟨oc_is_song, od_is_song, .func (PySem.W.fnOf "is_song" "is_song" (defArgs s_is_song) (defBody s_is_song) (defScope s_is_song) .none kV_is_song dc_is_song pm_is_song an_is_song cd_is_song ct_is_song), sl_is_song⟩) (k_is_song : PySem.W.codeIn K cd_is_song "is_song" = true) (j_is_song : PySem.W.keepIn K (.ref f_is_song) = true)
    (a_voices_of : PySem.W.nsIn K mainGlobals "voices_of" = some (some (.ref f_voices_of))) (l_voices_of : K.lookup f_voices_of = some ⟨oc_voices_of, od_voices_of, .func (PySem.W.fnOf "voices_of" "voices_of" (defArgs s_voices_of) (defBody s_voices_of) (defScope s_voices_of) .none kV_voices_of dc_voices_of pm_voices_of an_voices_of cd_voices_of ct_voices_of), sl_voices_of⟩) (k_voices_of : PySem.W.codeIn K cd_voices_of "voices_of" = true) (j_voices_of : PySem.W.keepIn K (.ref f_voices_of) = true)
    (a_pattern_at : PySem.W.nsIn K mainGlobals "pattern_at" = some (some (.ref f_pattern_at))) (l_pattern_at : K.lookup f_pattern_at = some ⟨oc_pattern_at, od_pattern_at, .func (PySem.W.fnOf "pattern_at" "pattern_at" (defArgs s_pattern_at) (defBody s_pattern_at) (defScope s_pattern_at) .none kV_pattern_at dc_pattern_at pm_pattern_at an_pattern_at cd_pattern_at ct_pattern_at), sl_pattern_at⟩) (k_pattern_at : PySem.W.codeIn K cd_pattern_at "pattern_at" = true) (j_pattern_at : PySem.W.keepIn K (.ref f_pattern_at) = true)
    (a_number_by : PySem.W.nsIn K mainGlobals "number_by" = some (some (.ref f_number_by))) (l_number_by : K.lookup f_number_by = some ⟨oc_number_by, od_number_by, .func (PySem.W.fnOf "number_by" "number_by" (defArgs s_number_by) (defBody s_number_by) (defScope s_number_by) .none kV_number_by dc_number_by pm_number_by an_number_by cd_number_by ct_number_by), sl_number_by⟩) (k_number_by : PySem.W.codeIn K cd_number_by "number_by" = true) (j_number_by : PySem.W.keepIn K (.ref f_number_by) = true)
    (a_slide_for : PySem.W.nsIn K mainGlobals "slide_for" = some (some (.ref f_slide_for))) (l_slide_for : K.lookup f_slide_for = some ⟨oc_slide_for, od_slide_for, .func (PySem.W.fnOf "slide_for" "slide_for" (defArgs s_slide_for) (defBody s_slide_for) (defScope s_slide_for) .none kV_slide_for dc_slide_for pm_slide_for an_slide_for cd_slide_for ct_slide_for), sl_slide_for⟩) (k_slide_for : PySem.W.codeIn K cd_slide_for "slide_for" = true) (j_slide_for : PySem.W.keepIn K (.ref f_slide_for) = true)
    (a_boxes_for : PySem.W.nsIn K mainGlobals "boxes_for" = some (some (.ref f_boxes_for))) (l_boxes_for : K.lookup f_boxes_for = some ⟨oc_boxes_for, od_boxes_for, .func (PySem.W.fnOf "boxes_for" "boxes_for" (defArgs s_boxes_for) (defBody s_boxes_for) (defScope s_boxes_for) .none kV_boxes_for dc_boxes_for pm_boxes_for an_boxes_for cd_boxes_for ct_boxes_for), sl_boxes_for⟩) (k_boxes_for : PySem.W.codeIn K cd_boxes_for "boxes_for" = true) (j_boxes_for : PySem.W.keepIn K (.ref f_boxes_for) = true)
    (a_fewest_rows : PySem.W.nsIn K mainGlobals "fewest_rows" = some (some (.ref f_fewest_rows))) (l_fewest_rows : K.lookup f_fewest_rows = some ⟨oc_fewest_rows, od_fewest_rows, .func (PySem.W.fnOf "fewest_rows" "fewest_rows" (defArgs s_fewest_rows) (defBody s_fewest_rows) (defScope s_fewest_rows) .none kV_fewest_rows dc_fewest_rows pm_fewest_rows an_fewest_rows cd_fewest_rows ct_fewest_rows), sl_fewest_rows⟩) (k_fewest_rows : PySem.W.codeIn K cd_fewest_rows "fewest_rows" = true) (j_fewest_rows : PySem.W.keepIn K (.ref f_fewest_rows) = true)
    (a_song_of : PySem.W.nsIn K mainGlobals "song_of" = some (some (.ref f_song_of))) (l_song_of : K.lookup f_song_of = some ⟨oc_song_of, od_song_of, .func (PySem.W.fnOf "song_of" "song_of" (defArgs s_song_of) (defBody s_song_of) (defScope s_song_of) .none kV_song_of dc_song_of pm_song_of an_song_of cd_song_of ct_song_of), sl_song_of⟩) (k_song_of : PySem.W.codeIn K cd_song_of "song_of" = true) (j_song_of : PySem.W.keepIn K (.ref f_song_of) = true)
    (a_first_state : PySem.W.nsIn K mainGlobals "first_state" = some (some (.ref f_first_state))) (l_first_state : K.lookup f_first_state = some ⟨oc_first_state, od_first_state, .func (PySem.W.fnOf "first_state" "first_state" (defArgs s_first_state) (defBody s_first_state) (defScope s_first_state) .none kV_first_state dc_first_state pm_first_state an_first_state cd_first_state ct_first_state), sl_first_state⟩) (k_first_state : PySem.W.codeIn K cd_first_state "first_state" = true) (j_first_state : PySem.W.keepIn K (.ref f_first_state) = true)
    (a_struck : PySem.W.nsIn K mainGlobals "struck" = some (some (.ref f_struck))) (l_struck : K.lookup f_struck = some ⟨oc_struck, od_struck, .func (PySem.W.fnOf "struck" "struck" (defArgs s_struck) (defBody s_struck) (defScope s_struck) .none kV_struck dc_struck pm_struck an_struck cd_struck ct_struck), sl_struck⟩) (k_struck : PySem.W.codeIn K cd_struck "struck" = true) (j_struck : PySem.W.keepIn K (.ref f_struck) = true)
    (a_slid : PySem.W.nsIn K mainGlobals "slid" = some (some (.ref f_slid))) (l_slid : K.lookup f_slid = some ⟨oc_slid, od_slid, .func (PySem.W.fnOf "slid" "slid" (defArgs s_slid) (defBody s_slid) (defScope s_slid) .none kV_slid dc_slid pm_slid an_slid cd_slid ct_slid), sl_slid⟩) (k_slid : PySem.W.codeIn K cd_slid "slid" = true) (j_slid : PySem.W.keepIn K (.ref f_slid) = true)
    (a_place_behind : PySem.W.nsIn K mainGlobals "place_behind" = some (some (.ref f_place_behind))) (l_place_behind : K.lookup f_place_behind = some ⟨oc_place_behind, od_place_behind, .func (PySem.W.fnOf "place_behind" "place_behind" (defArgs s_place_behind) (defBody s_place_behind) (defScope s_place_behind) .none kV_place_behind dc_place_behind pm_place_behind an_place_behind cd_place_behind ct_place_behind), sl_place_behind⟩) (k_place_behind : PySem.W.codeIn K cd_place_behind "place_behind" = true) (j_place_behind : PySem.W.keepIn K (.ref f_place_behind) = true)
    (a_state_on : PySem.W.nsIn K mainGlobals "state_on" = some (some (.ref f_state_on))) (l_state_on : K.lookup f_state_on = some ⟨oc_state_on, od_state_on, .func (PySem.W.fnOf "state_on" "state_on" (defArgs s_state_on) (defBody s_state_on) (defScope s_state_on) .none kV_state_on dc_state_on pm_state_on an_state_on cd_state_on ct_state_on), sl_state_on⟩) (k_state_on : PySem.W.codeIn K cd_state_on "state_on" = true) (j_state_on : PySem.W.keepIn K (.ref f_state_on) = true)
    (a_next_state : PySem.W.nsIn K mainGlobals "next_state" = some (some (.ref f_next_state))) (l_next_state : K.lookup f_next_state = some ⟨oc_next_state, od_next_state, .func (PySem.W.fnOf "next_state" "next_state" (defArgs s_next_state) (defBody s_next_state) (defScope s_next_state) .none kV_next_state dc_next_state pm_next_state an_next_state cd_next_state ct_next_state), sl_next_state⟩) (k_next_state : PySem.W.codeIn K cd_next_state "next_state" = true) (j_next_state : PySem.W.keepIn K (.ref f_next_state) = true)
    (a_heard_from : PySem.W.nsIn K mainGlobals "heard_from" = some (some (.ref f_heard_from))) (l_heard_from : K.lookup f_heard_from = some ⟨oc_heard_from, od_heard_from, .func (PySem.W.fnOf "heard_from" "heard_from" (defArgs s_heard_from) (defBody s_heard_from) (defScope s_heard_from) .none kV_heard_from dc_heard_from pm_heard_from an_heard_from cd_heard_from ct_heard_from), sl_heard_from⟩) (k_heard_from : PySem.W.codeIn K cd_heard_from "heard_from" = true) (j_heard_from : PySem.W.keepIn K (.ref f_heard_from) = true)
    (a_heard : PySem.W.nsIn K mainGlobals "heard" = some (some (.ref f_heard))) (l_heard : K.lookup f_heard = some ⟨oc_heard, od_heard, .func (PySem.W.fnOf "heard" "heard" (defArgs s_heard) (defBody s_heard) (defScope s_heard) .none kV_heard dc_heard pm_heard an_heard cd_heard ct_heard), sl_heard⟩) (k_heard : PySem.W.codeIn K cd_heard "heard" = true) (j_heard : PySem.W.keepIn K (.ref f_heard) = true)
    (a_rows_played : PySem.W.nsIn K mainGlobals "rows_played" = some (some (.ref f_rows_played))) (l_rows_played : K.lookup f_rows_played = some ⟨oc_rows_played, od_rows_played, .func (PySem.W.fnOf "rows_played" "rows_played" (defArgs s_rows_played) (defBody s_rows_played) (defScope s_rows_played) .none kV_rows_played dc_rows_played pm_rows_played an_rows_played cd_rows_played ct_rows_played), sl_rows_played⟩) (k_rows_played : PySem.W.codeIn K cd_rows_played "rows_played" = true) (j_rows_played : PySem.W.keepIn K (.ref f_rows_played) = true)
    (a_row_starts : PySem.W.nsIn K mainGlobals "row_starts" = some (some (.ref f_row_starts))) (l_row_starts : K.lookup f_row_starts = some ⟨oc_row_starts, od_row_starts, .func (PySem.W.fnOf "row_starts" "row_starts" (defArgs s_row_starts) (defBody s_row_starts) (defScope s_row_starts) .none kV_row_starts dc_row_starts pm_row_starts an_row_starts cd_row_starts ct_row_starts), sl_row_starts⟩) (k_row_starts : PySem.W.codeIn K cd_row_starts "row_starts" = true) (j_row_starts : PySem.W.keepIn K (.ref f_row_starts) = true)
    (a_L_cell : PySem.W.nsIn K mainGlobals "_law_cell" = some (some (.ref f_L_cell))) (l_L_cell : K.lookup f_L_cell = some ⟨oc_L_cell, od_L_cell, .func (PySem.W.fnOf "_law_cell" "_law_cell" (defArgs s_L_cell) (defBody s_L_cell) (defScope s_L_cell) .none kV_L_cell dc_L_cell pm_L_cell an_L_cell cd_L_cell ct_L_cell), sl_L_cell⟩) (k_L_cell : PySem.W.codeIn K cd_L_cell "_law_cell" = true) (j_L_cell : PySem.W.keepIn K (.ref f_L_cell) = true)
    (a_L_pick : PySem.W.nsIn K mainGlobals "_law_pick" = some (some (.ref f_L_pick))) (l_L_pick : K.lookup f_L_pick = some ⟨oc_L_pick, od_L_pick, .func (PySem.W.fnOf "_law_pick" "_law_pick" (defArgs s_L_pick) (defBody s_L_pick) (defScope s_L_pick) .none kV_L_pick dc_L_pick pm_L_pick an_L_pick cd_L_pick ct_L_pick), sl_L_pick⟩) (k_L_pick : PySem.W.codeIn K cd_L_pick "_law_pick" = true) (j_L_pick : PySem.W.keepIn K (.ref f_L_pick) = true)
    (a_L_box : PySem.W.nsIn K mainGlobals "_law_box" = some (some (.ref f_L_box))) (l_L_box : K.lookup f_L_box = some ⟨oc_L_box, od_L_box, .func (PySem.W.fnOf "_law_box" "_law_box" (defArgs s_L_box) (defBody s_L_box) (defScope s_L_box) .none kV_L_box dc_L_box pm_L_box an_L_box cd_L_box ct_L_box), sl_L_box⟩) (k_L_box : PySem.W.codeIn K cd_L_box "_law_box" = true) (j_L_box : PySem.W.keepIn K (.ref f_L_box) = true)
    (a_L_song : PySem.W.nsIn K mainGlobals "_law_song" = some (some (.ref f_L_song))) (l_L_song : K.lookup f_L_song = some ⟨oc_L_song, od_L_song, .func (PySem.W.fnOf "_law_song" "_law_song" (defArgs s_L_song) (defBody s_L_song) (defScope s_L_song) .none kV_L_song dc_L_song pm_L_song an_L_song cd_L_song ct_L_song), sl_L_song⟩) (k_L_song : PySem.W.codeIn K cd_L_song "_law_song" = true) (j_L_song : PySem.W.keepIn K (.ref f_L_song) = true)
    (a_L_slides : PySem.W.nsIn K mainGlobals "_law_slides" = some (some (.ref f_L_slides))) (l_L_slides : K.lookup f_L_slides = some ⟨oc_L_slides, od_L_slides, .func (PySem.W.fnOf "_law_slides" "_law_slides" (defArgs s_L_slides) (defBody s_L_slides) (defScope s_L_slides) .none kV_L_slides dc_L_slides pm_L_slides an_L_slides cd_L_slides ct_L_slides), sl_L_slides⟩) (k_L_slides : PySem.W.codeIn K cd_L_slides "_law_slides" = true) (j_L_slides : PySem.W.keepIn K (.ref f_L_slides) = true)
    (a_L_fewest : PySem.W.nsIn K mainGlobals "_law_fewest" = some (some (.ref f_L_fewest))) (l_L_fewest : K.lookup f_L_fewest = some ⟨oc_L_fewest, od_L_fewest, .func (PySem.W.fnOf "_law_fewest" "_law_fewest" (defArgs s_L_fewest) (defBody s_L_fewest) (defScope s_L_fewest) .none kV_L_fewest dc_L_fewest pm_L_fewest an_L_fewest cd_L_fewest ct_L_fewest), sl_L_fewest⟩) (k_L_fewest : PySem.W.codeIn K cd_L_fewest "_law_fewest" = true) (j_L_fewest : PySem.W.keepIn K (.ref f_L_fewest) = true)
    (a_L_heights : PySem.W.nsIn K mainGlobals "_law_heights" = some (some (.ref f_L_heights))) (l_L_heights : K.lookup f_L_heights = some ⟨oc_L_heights, od_L_heights, .func (PySem.W.fnOf "_law_heights" "_law_heights" (defArgs s_L_heights) (defBody s_L_heights) (defScope s_L_heights) .none kV_L_heights dc_L_heights pm_L_heights an_L_heights cd_L_heights ct_L_heights), sl_L_heights⟩) (k_L_heights : PySem.W.codeIn K cd_L_heights "_law_heights" = true) (j_L_heights : PySem.W.keepIn K (.ref f_L_heights) = true)
    (a_law : PySem.W.nsIn K mainGlobals "law" = some (some (.ref f_law))) (l_law : K.lookup f_law = some ⟨oc_law, od_law, .func (PySem.W.fnOf "law" "law" (defArgs s_law) (defBody s_law) (defScope s_law) .none kV_law dc_law pm_law an_law cd_law ct_law), sl_law⟩) (k_law : PySem.W.codeIn K cd_law "law" = true) (j_law : PySem.W.keepIn K (.ref f_law) = true)
    (z_all : PySem.W.nsIn K mainGlobals "all" = some none)
    (z_bool : PySem.W.nsIn K mainGlobals "bool" = some none)
    (z_dict : PySem.W.nsIn K mainGlobals "dict" = some none)
    (z_enumerate : PySem.W.nsIn K mainGlobals "enumerate" = some none)
    (z_int : PySem.W.nsIn K mainGlobals "int" = some none)
    (z_isinstance : PySem.W.nsIn K mainGlobals "isinstance" = some none)
    (z_len : PySem.W.nsIn K mainGlobals "len" = some none)
    (z_list : PySem.W.nsIn K mainGlobals "list" = some none)
    (z_min : PySem.W.nsIn K mainGlobals "min" = some none)
    (z_range : PySem.W.nsIn K mainGlobals "range" = some none)
    (z_set : PySem.W.nsIn K mainGlobals "set" = some none)
    (z_str : PySem.W.nsIn K mainGlobals "str" = some none)
    (z_tuple : PySem.W.nsIn K mainGlobals "tuple" = some none)
    (z_zip : PySem.W.nsIn K mainGlobals "zip" = some none)
    {t_FASTEST : Tok} (y_FASTEST : PySem.W.nsIn K mainGlobals "FASTEST" = some (some (.int 1 t_FASTEST)))
    {d_GREATEST : Addr} {es_GREATEST : Array DictEntry} {en_GREATEST : Nat} (y_GREATEST : PySem.W.nsIn K mainGlobals "GREATEST" = some (some (.ref d_GREATEST))) (yl_GREATEST : K.lookup d_GREATEST = some ⟨.type "dict", none, .dict es_GREATEST en_GREATEST, #[]⟩) (yk_GREATEST : PySem.W.KeysLit w.params es_GREATEST.toList) (yw_GREATEST : (d_GREATEST == sysModules) = false) (yb_GREATEST : TabL es_GREATEST.toList [("speed", 4), ("slide", 6), ("jump", 5), ("skip", 5), ("again", 3)])
    {t_HEIGHTS : Tok} (y_HEIGHTS : PySem.W.nsIn K mainGlobals "HEIGHTS" = some (some (.int 12 t_HEIGHTS)))
    {d_LEAST : Addr} {es_LEAST : Array DictEntry} {en_LEAST : Nat} (y_LEAST : PySem.W.nsIn K mainGlobals "LEAST" = some (some (.ref d_LEAST))) (yl_LEAST : K.lookup d_LEAST = some ⟨.type "dict", none, .dict es_LEAST en_LEAST, #[]⟩) (yk_LEAST : PySem.W.KeysLit w.params es_LEAST.toList) (yw_LEAST : (d_LEAST == sysModules) = false) (yb_LEAST : TabL es_LEAST.toList [("speed", 1), ("slide", (-6)), ("jump", 0), ("skip", 0), ("again", 1)])
    {t_MOST_PATTERNS : Tok} (y_MOST_PATTERNS : PySem.W.nsIn K mainGlobals "MOST_PATTERNS" = some (some (.int 6 t_MOST_PATTERNS)))
    {t_MOST_PLACES : Tok} (y_MOST_PLACES : PySem.W.nsIn K mainGlobals "MOST_PLACES" = some (some (.int 6 t_MOST_PLACES)))
    {t_MOST_ROWS : Tok} (y_MOST_ROWS : PySem.W.nsIn K mainGlobals "MOST_ROWS" = some (some (.int 6 t_MOST_ROWS)))
    {t_MOST_VOICES : Tok} (y_MOST_VOICES : PySem.W.nsIn K mainGlobals "MOST_VOICES" = some (some (.int 3 t_MOST_VOICES)))
    {t_SLOWEST : Tok} (y_SLOWEST : PySem.W.nsIn K mainGlobals "SLOWEST" = some (some (.int 4 t_SLOWEST)))
    {C_TooLong : Addr} (xa_TooLong : PySem.W.nsIn K mainGlobals "TooLong" = some (some (.ref C_TooLong))) (xx_TooLong : PySem.W.excIn K C_TooLong [.type "ValueError", .type "Exception", .type "BaseException", .type "object"] "ValueError.__new__" = true) (xk_TooLong : PySem.W.keepIn K (.ref C_TooLong) = true) (xb_TooLong : PySem.W.subIn K (.ref C_TooLong) (.type "BaseException") = some true) (xt_TooLong : PySem.W.typeIn K (.ref C_TooLong) = some (.type "type")) : Top w K mg where
  f_is_whole := f_is_whole
  fd_is_whole := _
  F_is_whole := fun_mk (st := s_is_whole) l_is_whole k_is_whole j_is_whole
  b_is_whole := (fun_mk (st := s_is_whole) l_is_whole k_is_whole j_is_whole).binds (ps := ["thing"]) fun _ _ _ _ _ _ us hl => match us, hl with | [_], _ => rfl
  g_is_whole := PySem.W.mg_of X G a_is_whole
  f_is_between := f_is_between
  fd_is_between := _
  F_is_between := fun_mk (st := s_is_between) l_is_between k_is_between j_is_between
  b_is_between := (fun_mk (st := s_is_between) l_is_between k_is_between j_is_between).binds (ps := ["thing", "low", "high"]) fun _ _ _ _ _ _ us hl => match us, hl with | [_, _, _], _ => rfl
  g_is_between := PySem.W.mg_of X G a_is_between
  f_is_sound := f_is_sound
  fd_is_sound := _
  F_is_sound := fun_mk (st := s_is_sound) l_is_sound k_is_sound j_is_sound
  b_is_sound := (fun_mk (st := s_is_sound) l_is_sound k_is_sound j_is_sound).binds (ps := ["thing"]) fun _ _ _ _ _ _ us hl => match us, hl with | [_], _ => rfl
  g_is_sound := PySem.W.mg_of X G a_is_sound
  f_is_deed := f_is_deed
  fd_is_deed := _
  F_is_deed := fun_mk (st := s_is_deed) l_is_deed k_is_deed j_is_deed
  b_is_deed := (fun_mk (st := s_is_deed) l_is_deed k_is_deed j_is_deed).binds (ps := ["thing", "places"]) fun _ _ _ _ _ _ us hl => match us, hl with | [_, _], _ => rfl
  g_is_deed := PySem.W.mg_of X G a_is_deed
  f_is_box := f_is_box
  fd_is_box := _
  F_is_box := fun_mk (st := s_is_box) l_is_box k_is_box j_is_box
  b_is_box := (fun_mk (st := s_is_box) l_is_box k_is_box j_is_box).binds (ps := ["thing", "places"]) fun _ _ _ _ _ _ us hl => match us, hl with | [_, _], _ => rfl
  g_is_box := PySem.W.mg_of X G a_is_box
  f_is_row := f_is_row
  fd_is_row := _
  F_is_row := fun_mk (st := s_is_row) l_is_row k_is_row j_is_row
  b_is_row := (fun_mk (st := s_is_row) l_is_row k_is_row j_is_row).binds (ps := ["thing", "places"]) fun _ _ _ _ _ _ us hl => match us, hl with | [_, _], _ => rfl
  g_is_row := PySem.W.mg_of X G a_is_row
  f_is_pattern := f_is_pattern
  fd_is_pattern := _
  F_is_pattern := fun_mk (st := s_is_pattern) l_is_pattern k_is_pattern j_is_pattern
  b_is_pattern := (fun_mk (st := s_is_pattern) l_is_pattern k_is_pattern j_is_pattern).binds (ps := ["thing", "places"]) fun _ _ _ _ _ _ us hl => match us, hl with | [_, _], _ => rfl
  g_is_pattern := PySem.W.mg_of X G a_is_pattern
  f_is_song := f_is_song
  fd_is_song := _
  F_is_song := fun_mk (st := s_is_song) l_is_song k_is_song j_is_song
  b_is_song := (fun_mk (st := s_is_song) l_is_song k_is_song j_is_song).binds (ps := ["thing"]) fun _ _ _ _ _ _ us hl => match us, hl with | [_], _ => rfl
  g_is_song := PySem.W.mg_of X G a_is_song
  f_voices_of := f_voices_of
  fd_voices_of := _
  F_voices_of := fun_mk (st := s_voices_of) l_voices_of k_voices_of j_voices_of
  b_voices_of := (fun_mk (st := s_voices_of) l_voices_of k_voices_of j_voices_of).binds (ps := ["song"]) fun _ _ _ _ _ _ us hl => match us, hl with | [_], _ => rfl
  g_voices_of := PySem.W.mg_of X G a_voices_of
  f_pattern_at := f_pattern_at
  fd_pattern_at := _
  F_pattern_at := fun_mk (st := s_pattern_at) l_pattern_at k_pattern_at j_pattern_at
  b_pattern_at := (fun_mk (st := s_pattern_at) l_pattern_at k_pattern_at j_pattern_at).binds (ps := ["song", "place"]) fun _ _ _ _ _ _ us hl => match us, hl with | [_, _], _ => rfl
  g_pattern_at := PySem.W.mg_of X G a_pattern_at
  f_number_by := f_number_by
  fd_number_by := _
  F_number_by := fun_mk (st := s_number_by) l_number_by k_number_by j_number_by
  b_number_by := (fun_mk (st := s_number_by) l_number_by k_number_by j_number_by).binds (ps := ["row", "word"]) fun _ _ _ _ _ _ us hl => match us, hl with | [_, _], _ => rfl
  g_number_by := PySem.W.mg_of X G a_number_by
  f_slide_for := f_slide_for
  fd_slide_for := _
  F_slide_for := fun_mk (st := s_slide_for) l_slide_for k_slide_for j_slide_for
  b_slide_for := (fun_mk (st := s_slide_for) l_slide_for k_slide_for j_slide_for).binds (ps := ["part"]) fun _ _ _ _ _ _ us hl => match us, hl with | [_], _ => rfl
  g_slide_for := PySem.W.mg_of X G a_slide_for
  f_boxes_for := f_boxes_for
  fd_boxes_for := _
  F_boxes_for := fun_mk (st := s_boxes_for) l_boxes_for k_boxes_for j_boxes_for
  b_boxes_for := (fun_mk (st := s_boxes_for) l_boxes_for k_boxes_for j_boxes_for).binds (ps := ["heights", "at", "many", "speed"]) fun _ _ _ _ _ _ us hl => match us, hl with | [_, _, _, _], _ => rfl
  g_boxes_for := PySem.W.mg_of X G a_boxes_for
  f_fewest_rows := f_fewest_rows
  fd_fewest_rows := _
  F_fewest_rows := fun_mk (st := s_fewest_rows) l_fewest_rows k_fewest_rows j_fewest_rows
  b_fewest_rows := (fun_mk (st := s_fewest_rows) l_fewest_rows k_fewest_rows j_fewest_rows).binds (ps := ["heights", "at", "speed", "book"]) fun _ _ _ _ _ _ us hl => match us, hl with | [_, _, _, _], _ => rfl
  g_fewest_rows := PySem.W.mg_of X G a_fewest_rows
  f_song_of := f_song_of
  fd_song_of := _
  F_song_of := fun_mk (st := s_song_of) l_song_of k_song_of j_song_of
  b_song_of := (fun_mk (st := s_song_of) l_song_of k_song_of j_song_of).binds (ps := ["heights"]) fun _ _ _ _ _ _ us hl => match us, hl with | [_], _ => rfl
  g_song_of := PySem.W.mg_of X G a_song_of
  f_first_state := f_first_state
  fd_first_state := _
  F_first_state := fun_mk (st := s_first_state) l_first_state k_first_state j_first_state
  b_first_state := (fun_mk (st := s_first_state) l_first_state k_first_state j_first_state).binds (ps := ["song"]) fun _ _ _ _ _ _ us hl => match us, hl with | [_], _ => rfl
  g_first_state := PySem.W.mg_of X G a_first_state
  f_struck := f_struck
  fd_struck := _
  F_struck := fun_mk (st := s_struck) l_struck k_struck j_struck
  b_struck := (fun_mk (st := s_struck) l_struck k_struck j_struck).binds (ps := ["height", "box"]) fun _ _ _ _ _ _ us hl => match us, hl with | [_, _], _ => rfl
  g_struck := PySem.W.mg_of X G a_struck
  f_slid := f_slid
  fd_slid := _
  F_slid := fun_mk (st := s_slid) l_slid k_slid j_slid
  b_slid := (fun_mk (st := s_slid) l_slid k_slid j_slid).binds (ps := ["height", "box"]) fun _ _ _ _ _ _ us hl => match us, hl with | [_, _], _ => rfl
  g_slid := PySem.W.mg_of X G a_slid
  f_place_behind := f_place_behind
  fd_place_behind := _
  F_place_behind := fun_mk (st := s_place_behind) l_place_behind k_place_behind j_place_behind
  b_place_behind := (fun_mk (st := s_place_behind) l_place_behind k_place_behind j_place_behind).binds (ps := ["song", "place", "row"]) fun _ _ _ _ _ _ us hl => match us, hl with | [_, _, _], _ => rfl
  g_place_behind := PySem.W.mg_of X G a_place_behind
  f_state_on := f_state_on
  fd_state_on := _
  F_state_on := fun_mk (st := s_state_on) l_state_on k_state_on j_state_on
  b_state_on := (fun_mk (st := s_state_on) l_state_on k_state_on j_state_on).binds (ps := ["song", "state"]) fun _ _ _ _ _ _ us hl => match us, hl with | [_, _], _ => rfl
  g_state_on := PySem.W.mg_of X G a_state_on
  f_next_state := f_next_state
  fd_next_state := _
  F_next_state := fun_mk (st := s_next_state) l_next_state k_next_state j_next_state
  b_next_state := (fun_mk (st := s_next_state) l_next_state k_next_state j_next_state).binds (ps := ["song", "state"]) fun _ _ _ _ _ _ us hl => match us, hl with | [_, _], _ => rfl
  g_next_state := PySem.W.mg_of X G a_next_state
  f_heard_from := f_heard_from
  fd_heard_from := _
  F_heard_from := fun_mk (st := s_heard_from) l_heard_from k_heard_from j_heard_from
  b_heard_from := (fun_mk (st := s_heard_from) l_heard_from k_heard_from j_heard_from).binds (ps := ["song", "state", "many"]) fun _ _ _ _ _ _ us hl => match us, hl with | [_, _, _], _ => rfl
  g_heard_from := PySem.W.mg_of X G a_heard_from
  f_heard := f_heard
  fd_heard := _
  F_heard := fun_mk (st := s_heard) l_heard k_heard j_heard
  b_heard := (fun_mk (st := s_heard) l_heard k_heard j_heard).binds (ps := ["song", "many"]) fun _ _ _ _ _ _ us hl => match us, hl with | [_, _], _ => rfl
  g_heard := PySem.W.mg_of X G a_heard
  f_rows_played := f_rows_played
  fd_rows_played := _
  F_rows_played := fun_mk (st := s_rows_played) l_rows_played k_rows_played j_rows_played
  b_rows_played := (fun_mk (st := s_rows_played) l_rows_played k_rows_played j_rows_played).binds (ps := ["song", "many"]) fun _ _ _ _ _ _ us hl => match us, hl with | [_, _], _ => rfl
  g_rows_played := PySem.W.mg_of X G a_rows_played
  f_row_starts := f_row_starts
  fd_row_starts := _
  F_row_starts := fun_mk (st := s_row_starts) l_row_starts k_row_starts j_row_starts
  b_row_starts := (fun_mk (st := s_row_starts) l_row_starts k_row_starts j_row_starts).binds (ps := ["song", "many"]) fun _ _ _ _ _ _ us hl => match us, hl with | [_, _], _ => rfl
  g_row_starts := PySem.W.mg_of X G a_row_starts
  f_L_cell := f_L_cell
  fd_L_cell := _
  F_L_cell := fun_mk (st := s_L_cell) l_L_cell k_L_cell j_L_cell
  b_L_cell := (fun_mk (st := s_L_cell) l_L_cell k_L_cell j_L_cell).binds (ps := ["script", "k"]) fun _ _ _ _ _ _ us hl => match us, hl with | [_, _], _ => rfl
  g_L_cell := PySem.W.mg_of X G a_L_cell
  f_L_pick := f_L_pick
  fd_L_pick := _
  F_L_pick := fun_mk (st := s_L_pick) l_L_pick k_L_pick j_L_pick
  b_L_pick := (fun_mk (st := s_L_pick) l_L_pick k_L_pick j_L_pick).binds (ps := ["script", "k", "many"]) fun _ _ _ _ _ _ us hl => match us, hl with | [_, _, _], _ => rfl
  g_L_pick := PySem.W.mg_of X G a_L_pick
  f_L_box := f_L_box
  fd_L_box := _
  F_L_box := fun_mk (st := s_L_box) l_L_box k_L_box j_L_box
  b_L_box := (fun_mk (st := s_L_box) l_L_box k_L_box j_L_box).binds (ps := ["script", "at", "places"]) fun _ _ _ _ _ _ us hl => match us, hl with | [_, _, _], _ => rfl
  g_L_box := PySem.W.mg_of X G a_L_box
  f_L_song := f_L_song
  fd_L_song := _
  F_L_song := fun_mk (st := s_L_song) l_L_song k_L_song j_L_song
  b_L_song := (fun_mk (st := s_L_song) l_L_song k_L_song j_L_song).binds (ps := ["script", "at", "most"]) fun _ _ _ _ _ _ us hl => match us, hl with | [_, _, _], _ => rfl
  g_L_song := PySem.W.mg_of X G a_L_song
  f_L_slides := f_L_slides
  fd_L_slides := _
  F_L_slides := fun_mk (st := s_L_slides) l_L_slides k_L_slides j_L_slides
  b_L_slides := (fun_mk (st := s_L_slides) l_L_slides k_L_slides j_L_slides).binds (ps := ["part"]) fun _ _ _ _ _ _ us hl => match us, hl with | [_], _ => rfl
  g_L_slides := PySem.W.mg_of X G a_L_slides
  f_L_fewest := f_L_fewest
  fd_L_fewest := _
  F_L_fewest := fun_mk (st := s_L_fewest) l_L_fewest k_L_fewest j_L_fewest
  b_L_fewest := (fun_mk (st := s_L_fewest) l_L_fewest k_L_fewest j_L_fewest).binds (ps := ["heights"]) fun _ _ _ _ _ _ us hl => match us, hl with | [_], _ => rfl
  g_L_fewest := PySem.W.mg_of X G a_L_fewest
  f_L_heights := f_L_heights
  fd_L_heights := _
  F_L_heights := fun_mk (st := s_L_heights) l_L_heights k_L_heights j_L_heights
  b_L_heights := (fun_mk (st := s_L_heights) l_L_heights k_L_heights j_L_heights).binds (ps := ["script", "at"]) fun _ _ _ _ _ _ us hl => match us, hl with | [_, _], _ => rfl
  g_L_heights := PySem.W.mg_of X G a_L_heights
  f_law := f_law
  fd_law := _
  F_law := fun_mk (st := s_law) l_law k_law j_law
  b_law := (fun_mk (st := s_law) l_law k_law j_law).binds (ps := ["script"]) fun _ _ _ _ _ _ us hl => match us, hl with | [_], _ => rfl
  g_law := PySem.W.mg_of X G a_law
  n_all := PySem.W.mg_none_of X G z_all
  n_bool := PySem.W.mg_none_of X G z_bool
  n_dict := PySem.W.mg_none_of X G z_dict
  n_enumerate := PySem.W.mg_none_of X G z_enumerate
  n_int := PySem.W.mg_none_of X G z_int
  n_isinstance := PySem.W.mg_none_of X G z_isinstance
  n_len := PySem.W.mg_none_of X G z_len
  n_list := PySem.W.mg_none_of X G z_list
  n_min := PySem.W.mg_none_of X G z_min
  n_range := PySem.W.mg_none_of X G z_range
  n_set := PySem.W.mg_none_of X G z_set
  n_str := PySem.W.mg_none_of X G z_str
  n_tuple := PySem.W.mg_none_of X G z_tuple
  n_zip := PySem.W.mg_none_of X G z_zip
  c_FASTEST := ⟨_, PySem.W.mg_of X G y_FASTEST⟩
  c_GREATEST := ⟨_, _, _, PySem.W.mg_of X G y_GREATEST, ⟨yl_GREATEST, yk_GREATEST, yw_GREATEST⟩, yb_GREATEST⟩
  c_HEIGHTS := ⟨_, PySem.W.mg_of X G y_HEIGHTS⟩
  c_LEAST := ⟨_, _, _, PySem.W.mg_of X G y_LEAST, ⟨yl_LEAST, yk_LEAST, yw_LEAST⟩, yb_LEAST⟩
  c_MOST_PATTERNS := ⟨_, PySem.W.mg_of X G y_MOST_PATTERNS⟩
  c_MOST_PLACES := ⟨_, PySem.W.mg_of X G y_MOST_PLACES⟩
  c_MOST_ROWS := ⟨_, PySem.W.mg_of X G y_MOST_ROWS⟩
  c_MOST_VOICES := ⟨_, PySem.W.mg_of X G y_MOST_VOICES⟩
  c_SLOWEST := ⟨_, PySem.W.mg_of X G y_SLOWEST⟩
  C_TooLong := C_TooLong
  x_TooLong := ⟨PySem.W.mg_of X G xa_TooLong, xx_TooLong, xk_TooLong, xb_TooLong, xt_TooLong⟩
theorem all_mk {l : PySem.W.OpenLaw} {w : World} {K : PySem.W.Frag} {h : Heap} {mg : Str → Option Value} {fa : Addr} (LT : ∀ ns : List Int, ns.length ≤ 63 → M_law [.lst (ns.map .int)] = .ok (.bl true)) (X : K.In h) (G : h.Ns mainGlobals mg) (hfa : mg "law" = some (.ref fa))
    {f_is_whole : Addr}
    {f_is_between : Addr}
    {f_is_sound : Addr}
    {f_is_deed : Addr}
    {f_is_box : Addr}
    {f_is_row : Addr}
    {f_is_pattern : Addr}
    {f_is_song : Addr}
    {f_voices_of : Addr}
    {f_pattern_at : Addr}
    {f_number_by : Addr}
    {f_slide_for : Addr}
    {f_boxes_for : Addr}
    {f_fewest_rows : Addr}
    {f_song_of : Addr}
    {f_first_state : Addr}
    {f_struck : Addr}
    {f_slid : Addr}
    {f_place_behind : Addr}
    {f_state_on : Addr}
    {f_next_state : Addr}
    {f_heard_from : Addr}
    {f_heard : Addr}
    {f_rows_played : Addr}
    {f_row_starts : Addr}
    {f_L_cell : Addr}
    {f_L_pick : Addr}
    {f_L_box : Addr}
    {f_L_song : Addr}
    {f_L_slides : Addr}
    {f_L_fewest : Addr}
    {f_L_heights : Addr}
    {f_law : Addr}
    {oc_is_whole kV_is_whole dc_is_whole pm_is_whole cd_is_whole ct_is_whole : Value} {od_is_whole an_is_whole : Option Addr} {sl_is_whole : Array (Option Value)}
    {oc_is_between kV_is_between dc_is_between pm_is_between cd_is_between ct_is_between : Value} {od_is_between an_is_between : Option Addr} {sl_is_between : Array (Option Value)}
    {oc_is_sound kV_is_sound dc_is_sound pm_is_sound cd_is_sound ct_is_sound : Value} {od_is_sound an_is_sound : Option Addr} {sl_is_sound : Array (Option Value)}
    {oc_is_deed kV_is_deed dc_is_deed pm_is_deed cd_is_deed ct_is_deed : Value} {od_is_deed an_is_deed : Option Addr} {sl_is_deed : Array (Option Value)}
    {oc_is_box kV_is_box dc_is_box pm_is_box cd_is_box ct_is_box : Value} {od_is_box an_is_box : Option Addr} {sl_is_box : Array (Option Value)}
    {oc_is_row kV_is_row dc_is_row pm_is_row cd_is_row ct_is_row : Value} {od_is_row an_is_row : Option Addr} {sl_is_row : Array (Option Value)}
    {oc_is_pattern kV_is_pattern dc_is_pattern pm_is_pattern cd_is_pattern ct_is_pattern : Value} {od_is_pattern an_is_pattern : Option Addr} {sl_is_pattern : Array (Option Value)}
    {oc_is_song kV_is_song dc_is_song pm_is_song cd_is_song ct_is_song : Value} {od_is_song an_is_song : Option Addr} {sl_is_song : Array (Option Value)}
    {oc_voices_of kV_voices_of dc_voices_of pm_voices_of cd_voices_of ct_voices_of : Value} {od_voices_of an_voices_of : Option Addr} {sl_voices_of : Array (Option Value)}
    {oc_pattern_at kV_pattern_at dc_pattern_at pm_pattern_at cd_pattern_at ct_pattern_at : Value} {od_pattern_at an_pattern_at : Option Addr} {sl_pattern_at : Array (Option Value)}
    {oc_number_by kV_number_by dc_number_by pm_number_by cd_number_by ct_number_by : Value} {od_number_by an_number_by : Option Addr} {sl_number_by : Array (Option Value)}
    {oc_slide_for kV_slide_for dc_slide_for pm_slide_for cd_slide_for ct_slide_for : Value} {od_slide_for an_slide_for : Option Addr} {sl_slide_for : Array (Option Value)}
    {oc_boxes_for kV_boxes_for dc_boxes_for pm_boxes_for cd_boxes_for ct_boxes_for : Value} {od_boxes_for an_boxes_for : Option Addr} {sl_boxes_for : Array (Option Value)}
    {oc_fewest_rows kV_fewest_rows dc_fewest_rows pm_fewest_rows cd_fewest_rows ct_fewest_rows : Value} {od_fewest_rows an_fewest_rows : Option Addr} {sl_fewest_rows : Array (Option Value)}
    {oc_song_of kV_song_of dc_song_of pm_song_of cd_song_of ct_song_of : Value} {od_song_of an_song_of : Option Addr} {sl_song_of : Array (Option Value)}
    {oc_first_state kV_first_state dc_first_state pm_first_state cd_first_state ct_first_state : Value} {od_first_state an_first_state : Option Addr} {sl_first_state : Array (Option Value)}
    {oc_struck kV_struck dc_struck pm_struck cd_struck ct_struck : Value} {od_struck an_struck : Option Addr} {sl_struck : Array (Option Value)}
    {oc_slid kV_slid dc_slid pm_slid cd_slid ct_slid : Value} {od_slid an_slid : Option Addr} {sl_slid : Array (Option Value)}
    {oc_place_behind kV_place_behind dc_place_behind pm_place_behind cd_place_behind ct_place_behind : Value} {od_place_behind an_place_behind : Option Addr} {sl_place_behind : Array (Option Value)}
    {oc_state_on kV_state_on dc_state_on pm_state_on cd_state_on ct_state_on : Value} {od_state_on an_state_on : Option Addr} {sl_state_on : Array (Option Value)}
    {oc_next_state kV_next_state dc_next_state pm_next_state cd_next_state ct_next_state : Value} {od_next_state an_next_state : Option Addr} {sl_next_state : Array (Option Value)}
    {oc_heard_from kV_heard_from dc_heard_from pm_heard_from cd_heard_from ct_heard_from : Value} {od_heard_from an_heard_from : Option Addr} {sl_heard_from : Array (Option Value)}
    {oc_heard kV_heard dc_heard pm_heard cd_heard ct_heard : Value} {od_heard an_heard : Option Addr} {sl_heard : Array (Option Value)}
    {oc_rows_played kV_rows_played dc_rows_played pm_rows_played cd_rows_played ct_rows_played : Value} {od_rows_played an_rows_played : Option Addr} {sl_rows_played : Array (Option Value)}
    {oc_row_starts kV_row_starts dc_row_starts pm_row_starts cd_row_starts ct_row_starts : Value} {od_row_starts an_row_starts : Option Addr} {sl_row_starts : Array (Option Value)}
    {oc_L_cell kV_L_cell dc_L_cell pm_L_cell cd_L_cell ct_L_cell : Value} {od_L_cell an_L_cell : Option Addr} {sl_L_cell : Array (Option Value)}
    {oc_L_pick kV_L_pick dc_L_pick pm_L_pick cd_L_pick ct_L_pick : Value} {od_L_pick an_L_pick : Option Addr} {sl_L_pick : Array (Option Value)}
    {oc_L_box kV_L_box dc_L_box pm_L_box cd_L_box ct_L_box : Value} {od_L_box an_L_box : Option Addr} {sl_L_box : Array (Option Value)}
    {oc_L_song kV_L_song dc_L_song pm_L_song cd_L_song ct_L_song : Value} {od_L_song an_L_song : Option Addr} {sl_L_song : Array (Option Value)}
    {oc_L_slides kV_L_slides dc_L_slides pm_L_slides cd_L_slides ct_L_slides : Value} {od_L_slides an_L_slides : Option Addr} {sl_L_slides : Array (Option Value)}
    {oc_L_fewest kV_L_fewest dc_L_fewest pm_L_fewest cd_L_fewest ct_L_fewest : Value} {od_L_fewest an_L_fewest : Option Addr} {sl_L_fewest : Array (Option Value)}
    {oc_L_heights kV_L_heights dc_L_heights pm_L_heights cd_L_heights ct_L_heights : Value} {od_L_heights an_L_heights : Option Addr} {sl_L_heights : Array (Option Value)}
    {oc_law kV_law dc_law pm_law cd_law ct_law : Value} {od_law an_law : Option Addr} {sl_law : Array (Option Value)}
    (a_is_whole : PySem.W.nsIn K mainGlobals "is_whole" = some (some (.ref f_is_whole))) (l_is_whole : K.lookup f_is_whole = some ⟨oc_is_whole, od_is_whole, .func (PySem.W.fnOf "is_whole" "is_whole" (defArgs s_is_whole) (defBody s_is_whole) (defScope s_is_whole) .none kV_is_whole dc_is_whole pm_is_whole an_is_whole cd_is_whole ct_is_whole), sl_is_whole⟩) (k_is_whole : PySem.W.codeIn K cd_is_whole "is_whole" = true) (j_is_whole : PySem.W.keepIn K (.ref f_is_whole) = true)
    (a_is_between : PySem.W.nsIn K mainGlobals "is_between" = some (some (.ref f_is_between))) (l_is_between : K.lookup f_is_between = some ⟨oc_is_between, od_is_between, .func (PySem.W.fnOf "is_between" "is_between" (defArgs s_is_between) (defBody s_is_between) (defScope s_is_between) .none kV_is_between dc_is_between pm_is_between an_is_between cd_is_between ct_is_between), sl_is_between⟩) (k_is_between : PySem.W.codeIn K cd_is_between "is_between" = true) (j_is_between : PySem.W.keepIn K (.ref f_is_between) = true)
    (a_is_sound : PySem.W.nsIn K mainGlobals "is_sound" = some (some (.ref f_is_sound))) (l_is_sound : K.lookup f_is_sound = some ⟨oc_is_sound, od_is_sound, .func (PySem.W.fnOf "is_sound" "is_sound" (defArgs s_is_sound) (defBody s_is_sound) (defScope s_is_sound) .none kV_is_sound dc_is_sound pm_is_sound an_is_sound cd_is_sound ct_is_sound), sl_is_sound⟩) (k_is_sound : PySem.W.codeIn K cd_is_sound "is_sound" = true) (j_is_sound : PySem.W.keepIn K (.ref f_is_sound) = true)
    (a_is_deed : PySem.W.nsIn K mainGlobals "is_deed" = some (some (.ref f_is_deed))) (l_is_deed : K.lookup f_is_deed = some ⟨oc_is_deed, od_is_deed, .func (PySem.W.fnOf "is_deed" "is_deed" (defArgs s_is_deed) (defBody s_is_deed) (defScope s_is_deed) .none kV_is_deed dc_is_deed pm_is_deed an_is_deed cd_is_deed ct_is_deed), sl_is_deed⟩) (k_is_deed : PySem.W.codeIn K cd_is_deed "is_deed" = true) (j_is_deed : PySem.W.keepIn K (.ref f_is_deed) = true)
    (a_is_box : PySem.W.nsIn K mainGlobals "is_box" = some (some (.ref f_is_box))) (l_is_box : K.lookup f_is_box = some ⟨oc_is_box, od_is_box, .func (PySem.W.fnOf "is_box" "is_box" (defArgs s_is_box) (defBody s_is_box) (defScope s_is_box) .none kV_is_box dc_is_box pm_is_box an_is_box cd_is_box ct_is_box), sl_is_box⟩) (k_is_box : PySem.W.codeIn K cd_is_box "is_box" = true) (j_is_box : PySem.W.keepIn K (.ref f_is_box) = true)
    (a_is_row : PySem.W.nsIn K mainGlobals "is_row" = some (some (.ref f_is_row))) (l_is_row : K.lookup f_is_row = some ⟨oc_is_row, od_is_row, .func (PySem.W.fnOf "is_row" "is_row" (defArgs s_is_row) (defBody s_is_row) (defScope s_is_row) .none kV_is_row dc_is_row pm_is_row an_is_row cd_is_row ct_is_row), sl_is_row⟩) (k_is_row : PySem.W.codeIn K cd_is_row "is_row" = true) (j_is_row : PySem.W.keepIn K (.ref f_is_row) = true)
    (a_is_pattern : PySem.W.nsIn K mainGlobals "is_pattern" = some (some (.ref f_is_pattern))) (l_is_pattern : K.lookup f_is_pattern = some ⟨oc_is_pattern, od_is_pattern, .func (PySem.W.fnOf "is_pattern" "is_pattern" (defArgs s_is_pattern) (defBody s_is_pattern) (defScope s_is_pattern) .none kV_is_pattern dc_is_pattern pm_is_pattern an_is_pattern cd_is_pattern ct_is_pattern), sl_is_pattern⟩) (k_is_pattern : PySem.W.codeIn K cd_is_pattern "is_pattern" = true) (j_is_pattern : PySem.W.keepIn K (.ref f_is_pattern) = true)
    (a_is_song : PySem.W.nsIn K mainGlobals "is_song" = some (some (.ref f_is_song))) (l_is_song : K.lookup f_is_song = some ⟨oc_is_song, od_is_song, .func (PySem.W.fnOf "is_song" "is_song" (defArgs s_is_song) (defBody s_is_song) (defScope s_is_song) .none kV_is_song dc_is_song pm_is_song an_is_song cd_is_song ct_is_song), sl_is_song⟩) (k_is_song : PySem.W.codeIn K cd_is_song "is_song" = true) (j_is_song : PySem.W.keepIn K (.ref f_is_song) = true)
    (a_voices_of : PySem.W.nsIn K mainGlobals "voices_of" = some (some (.ref f_voices_of))) (l_voices_of : K.lookup f_voices_of = some ⟨oc_voices_of, od_voices_of, .func (PySem.W.fnOf "voices_of" "voices_of" (defArgs s_voices_of) (defBody s_voices_of) (defScope s_voices_of) .none kV_voices_of dc_voices_of pm_voices_of an_voices_of cd_voices_of ct_voices_of), sl_voices_of⟩) (k_voices_of : PySem.W.codeIn K cd_voices_of "voices_of" = true) (j_voices_of : PySem.W.keepIn K (.ref f_voices_of) = true)
    (a_pattern_at : PySem.W.nsIn K mainGlobals "pattern_at" = some (some (.ref f_pattern_at))) (l_pattern_at : K.lookup f_pattern_at = some ⟨oc_pattern_at, od_pattern_at, .func (PySem.W.fnOf "pattern_at" "pattern_at" (defArgs s_pattern_at) (defBody s_pattern_at) (defScope s_pattern_at) .none kV_pattern_at dc_pattern_at pm_pattern_at an_pattern_at cd_pattern_at ct_pattern_at), sl_pattern_at⟩) (k_pattern_at : PySem.W.codeIn K cd_pattern_at "pattern_at" = true) (j_pattern_at : PySem.W.keepIn K (.ref f_pattern_at) = true)
    (a_number_by : PySem.W.nsIn K mainGlobals "number_by" = some (some (.ref f_number_by))) (l_number_by : K.lookup f_number_by = some ⟨oc_number_by, od_number_by, .func (PySem.W.fnOf "number_by" "number_by" (defArgs s_number_by) (defBody s_number_by) (defScope s_number_by) .none kV_number_by dc_number_by pm_number_by an_number_by cd_number_by ct_number_by), sl_number_by⟩) (k_number_by : PySem.W.codeIn K cd_number_by "number_by" = true) (j_number_by : PySem.W.keepIn K (.ref f_number_by) = true)
    (a_slide_for : PySem.W.nsIn K mainGlobals "slide_for" = some (some (.ref f_slide_for))) (l_slide_for : K.lookup f_slide_for = some ⟨oc_slide_for, od_slide_for, .func (PySem.W.fnOf "slide_for" "slide_for" (defArgs s_slide_for) (defBody s_slide_for) (defScope s_slide_for) .none kV_slide_for dc_slide_for pm_slide_for an_slide_for cd_slide_for ct_slide_for), sl_slide_for⟩) (k_slide_for : PySem.W.codeIn K cd_slide_for "slide_for" = true) (j_slide_for : PySem.W.keepIn K (.ref f_slide_for) = true)
    (a_boxes_for : PySem.W.nsIn K mainGlobals "boxes_for" = some (some (.ref f_boxes_for))) (l_boxes_for : K.lookup f_boxes_for = some ⟨oc_boxes_for, od_boxes_for, .func (PySem.W.fnOf "boxes_for" "boxes_for" (defArgs s_boxes_for) (defBody s_boxes_for) (defScope s_boxes_for) .none kV_boxes_for dc_boxes_for pm_boxes_for an_boxes_for cd_boxes_for ct_boxes_for), sl_boxes_for⟩) (k_boxes_for : PySem.W.codeIn K cd_boxes_for "boxes_for" = true) (j_boxes_for : PySem.W.keepIn K (.ref f_boxes_for) = true)
    (a_fewest_rows : PySem.W.nsIn K mainGlobals "fewest_rows" = some (some (.ref f_fewest_rows))) (l_fewest_rows : K.lookup f_fewest_rows = some ⟨oc_fewest_rows, od_fewest_rows, .func (PySem.W.fnOf "fewest_rows" "fewest_rows" (defArgs s_fewest_rows) (defBody s_fewest_rows) (defScope s_fewest_rows) .none kV_fewest_rows dc_fewest_rows pm_fewest_rows an_fewest_rows cd_fewest_rows ct_fewest_rows), sl_fewest_rows⟩) (k_fewest_rows : PySem.W.codeIn K cd_fewest_rows "fewest_rows" = true) (j_fewest_rows : PySem.W.keepIn K (.ref f_fewest_rows) = true)
    (a_song_of : PySem.W.nsIn K mainGlobals "song_of" = some (some (.ref f_song_of))) (l_song_of : K.lookup f_song_of = some ⟨oc_song_of, od_song_of, .func (PySem.W.fnOf "song_of" "song_of" (defArgs s_song_of) (defBody s_song_of) (defScope s_song_of) .none kV_song_of dc_song_of pm_song_of an_song_of cd_song_of ct_song_of), sl_song_of⟩) (k_song_of : PySem.W.codeIn K cd_song_of "song_of" = true) (j_song_of : PySem.W.keepIn K (.ref f_song_of) = true)
    (a_first_state : PySem.W.nsIn K mainGlobals "first_state" = some (some (.ref f_first_state))) (l_first_state : K.lookup f_first_state = some ⟨oc_first_state, od_first_state, .func (PySem.W.fnOf "first_state" "first_state" (defArgs s_first_state) (defBody s_first_state) (defScope s_first_state) .none kV_first_state dc_first_state pm_first_state an_first_state cd_first_state ct_first_state), sl_first_state⟩) (k_first_state : PySem.W.codeIn K cd_first_state "first_state" = true) (j_first_state : PySem.W.keepIn K (.ref f_first_state) = true)
    (a_struck : PySem.W.nsIn K mainGlobals "struck" = some (some (.ref f_struck))) (l_struck : K.lookup f_struck = some ⟨oc_struck, od_struck, .func (PySem.W.fnOf "struck" "struck" (defArgs s_struck) (defBody s_struck) (defScope s_struck) .none kV_struck dc_struck pm_struck an_struck cd_struck ct_struck), sl_struck⟩) (k_struck : PySem.W.codeIn K cd_struck "struck" = true) (j_struck : PySem.W.keepIn K (.ref f_struck) = true)
    (a_slid : PySem.W.nsIn K mainGlobals "slid" = some (some (.ref f_slid))) (l_slid : K.lookup f_slid = some ⟨oc_slid, od_slid, .func (PySem.W.fnOf "slid" "slid" (defArgs s_slid) (defBody s_slid) (defScope s_slid) .none kV_slid dc_slid pm_slid an_slid cd_slid ct_slid), sl_slid⟩) (k_slid : PySem.W.codeIn K cd_slid "slid" = true) (j_slid : PySem.W.keepIn K (.ref f_slid) = true)
    (a_place_behind : PySem.W.nsIn K mainGlobals "place_behind" = some (some (.ref f_place_behind))) (l_place_behind : K.lookup f_place_behind = some ⟨oc_place_behind, od_place_behind, .func (PySem.W.fnOf "place_behind" "place_behind" (defArgs s_place_behind) (defBody s_place_behind) (defScope s_place_behind) .none kV_place_behind dc_place_behind pm_place_behind an_place_behind cd_place_behind ct_place_behind), sl_place_behind⟩) (k_place_behind : PySem.W.codeIn K cd_place_behind "place_behind" = true) (j_place_behind : PySem.W.keepIn K (.ref f_place_behind) = true)
    (a_state_on : PySem.W.nsIn K mainGlobals "state_on" = some (some (.ref f_state_on))) (l_state_on : K.lookup f_state_on = some ⟨oc_state_on, od_state_on, .func (PySem.W.fnOf "state_on" "state_on" (defArgs s_state_on) (defBody s_state_on) (defScope s_state_on) .none kV_state_on dc_state_on pm_state_on an_state_on cd_state_on ct_state_on), sl_state_on⟩) (k_state_on : PySem.W.codeIn K cd_state_on "state_on" = true) (j_state_on : PySem.W.keepIn K (.ref f_state_on) = true)
    (a_next_state : PySem.W.nsIn K mainGlobals "next_state" = some (some (.ref f_next_state))) (l_next_state : K.lookup f_next_state = some ⟨oc_next_state, od_next_state, .func (PySem.W.fnOf "next_state" "next_state" (defArgs s_next_state) (defBody s_next_state) (defScope s_next_state) .none kV_next_state dc_next_state pm_next_state an_next_state cd_next_state ct_next_state), sl_next_state⟩) (k_next_state : PySem.W.codeIn K cd_next_state "next_state" = true) (j_next_state : PySem.W.keepIn K (.ref f_next_state) = true)
    (a_heard_from : PySem.W.nsIn K mainGlobals "heard_from" = some (some (.ref f_heard_from))) (l_heard_from : K.lookup f_heard_from = some ⟨oc_heard_from, od_heard_from, .func (PySem.W.fnOf "heard_from" "heard_from" (defArgs s_heard_from) (defBody s_heard_from) (defScope s_heard_from) .none kV_heard_from dc_heard_from pm_heard_from an_heard_from cd_heard_from ct_heard_from), sl_heard_from⟩) (k_heard_from : PySem.W.codeIn K cd_heard_from "heard_from" = true) (j_heard_from : PySem.W.keepIn K (.ref f_heard_from) = true)
    (a_heard : PySem.W.nsIn K mainGlobals "heard" = some (some (.ref f_heard))) (l_heard : K.lookup f_heard = some ⟨oc_heard, od_heard, .func (PySem.W.fnOf "heard" "heard" (defArgs s_heard) (defBody s_heard) (defScope s_heard) .none kV_heard dc_heard pm_heard an_heard cd_heard ct_heard), sl_heard⟩) (k_heard : PySem.W.codeIn K cd_heard "heard" = true) (j_heard : PySem.W.keepIn K (.ref f_heard) = true)
    (a_rows_played : PySem.W.nsIn K mainGlobals "rows_played" = some (some (.ref f_rows_played))) (l_rows_played : K.lookup f_rows_played = some ⟨oc_rows_played, od_rows_played, .func (PySem.W.fnOf "rows_played" "rows_played" (defArgs s_rows_played) (defBody s_rows_played) (defScope s_rows_played) .none kV_rows_played dc_rows_played pm_rows_played an_rows_played cd_rows_played ct_rows_played), sl_rows_played⟩) (k_rows_played : PySem.W.codeIn K cd_rows_played "rows_played" = true) (j_rows_played : PySem.W.keepIn K (.ref f_rows_played) = true)
    (a_row_starts : PySem.W.nsIn K mainGlobals "row_starts" = some (some (.ref f_row_starts))) (l_row_starts : K.lookup f_row_starts = some ⟨oc_row_starts, od_row_starts, .func (PySem.W.fnOf "row_starts" "row_starts" (defArgs s_row_starts) (defBody s_row_starts) (defScope s_row_starts) .none kV_row_starts dc_row_starts pm_row_starts an_row_starts cd_row_starts ct_row_starts), sl_row_starts⟩) (k_row_starts : PySem.W.codeIn K cd_row_starts "row_starts" = true) (j_row_starts : PySem.W.keepIn K (.ref f_row_starts) = true)
    (a_L_cell : PySem.W.nsIn K mainGlobals "_law_cell" = some (some (.ref f_L_cell))) (l_L_cell : K.lookup f_L_cell = some ⟨oc_L_cell, od_L_cell, .func (PySem.W.fnOf "_law_cell" "_law_cell" (defArgs s_L_cell) (defBody s_L_cell) (defScope s_L_cell) .none kV_L_cell dc_L_cell pm_L_cell an_L_cell cd_L_cell ct_L_cell), sl_L_cell⟩) (k_L_cell : PySem.W.codeIn K cd_L_cell "_law_cell" = true) (j_L_cell : PySem.W.keepIn K (.ref f_L_cell) = true)
    (a_L_pick : PySem.W.nsIn K mainGlobals "_law_pick" = some (some (.ref f_L_pick))) (l_L_pick : K.lookup f_L_pick = some ⟨oc_L_pick, od_L_pick, .func (PySem.W.fnOf "_law_pick" "_law_pick" (defArgs s_L_pick) (defBody s_L_pick) (defScope s_L_pick) .none kV_L_pick dc_L_pick pm_L_pick an_L_pick cd_L_pick ct_L_pick), sl_L_pick⟩) (k_L_pick : PySem.W.codeIn K cd_L_pick "_law_pick" = true) (j_L_pick : PySem.W.keepIn K (.ref f_L_pick) = true)
    (a_L_box : PySem.W.nsIn K mainGlobals "_law_box" = some (some (.ref f_L_box))) (l_L_box : K.lookup f_L_box = some ⟨oc_L_box, od_L_box, .func (PySem.W.fnOf "_law_box" "_law_box" (defArgs s_L_box) (defBody s_L_box) (defScope s_L_box) .none kV_L_box dc_L_box pm_L_box an_L_box cd_L_box ct_L_box), sl_L_box⟩) (k_L_box : PySem.W.codeIn K cd_L_box "_law_box" = true) (j_L_box : PySem.W.keepIn K (.ref f_L_box) = true)
    (a_L_song : PySem.W.nsIn K mainGlobals "_law_song" = some (some (.ref f_L_song))) (l_L_song : K.lookup f_L_song = some ⟨oc_L_song, od_L_song, .func (PySem.W.fnOf "_law_song" "_law_song" (defArgs s_L_song) (defBody s_L_song) (defScope s_L_song) .none kV_L_song dc_L_song pm_L_song an_L_song cd_L_song ct_L_song), sl_L_song⟩) (k_L_song : PySem.W.codeIn K cd_L_song "_law_song" = true) (j_L_song : PySem.W.keepIn K (.ref f_L_song) = true)
    (a_L_slides : PySem.W.nsIn K mainGlobals "_law_slides" = some (some (.ref f_L_slides))) (l_L_slides : K.lookup f_L_slides = some ⟨oc_L_slides, od_L_slides, .func (PySem.W.fnOf "_law_slides" "_law_slides" (defArgs s_L_slides) (defBody s_L_slides) (defScope s_L_slides) .none kV_L_slides dc_L_slides pm_L_slides an_L_slides cd_L_slides ct_L_slides), sl_L_slides⟩) (k_L_slides : PySem.W.codeIn K cd_L_slides "_law_slides" = true) (j_L_slides : PySem.W.keepIn K (.ref f_L_slides) = true)
    (a_L_fewest : PySem.W.nsIn K mainGlobals "_law_fewest" = some (some (.ref f_L_fewest))) (l_L_fewest : K.lookup f_L_fewest = some ⟨oc_L_fewest, od_L_fewest, .func (PySem.W.fnOf "_law_fewest" "_law_fewest" (defArgs s_L_fewest) (defBody s_L_fewest) (defScope s_L_fewest) .none kV_L_fewest dc_L_fewest pm_L_fewest an_L_fewest cd_L_fewest ct_L_fewest), sl_L_fewest⟩) (k_L_fewest : PySem.W.codeIn K cd_L_fewest "_law_fewest" = true) (j_L_fewest : PySem.W.keepIn K (.ref f_L_fewest) = true)
    (a_L_heights : PySem.W.nsIn K mainGlobals "_law_heights" = some (some (.ref f_L_heights))) (l_L_heights : K.lookup f_L_heights = some ⟨oc_L_heights, od_L_heights, .func (PySem.W.fnOf "_law_heights" "_law_heights" (defArgs s_L_heights) (defBody s_L_heights) (defScope s_L_heights) .none kV_L_heights dc_L_heights pm_L_heights an_L_heights cd_L_heights ct_L_heights), sl_L_heights⟩) (k_L_heights : PySem.W.codeIn K cd_L_heights "_law_heights" = true) (j_L_heights : PySem.W.keepIn K (.ref f_L_heights) = true)
    (a_law : PySem.W.nsIn K mainGlobals "law" = some (some (.ref f_law))) (l_law : K.lookup f_law = some ⟨oc_law, od_law, .func (PySem.W.fnOf "law" "law" (defArgs s_law) (defBody s_law) (defScope s_law) .none kV_law dc_law pm_law an_law cd_law ct_law), sl_law⟩) (k_law : PySem.W.codeIn K cd_law "law" = true) (j_law : PySem.W.keepIn K (.ref f_law) = true)
    (z_all : PySem.W.nsIn K mainGlobals "all" = some none)
    (z_bool : PySem.W.nsIn K mainGlobals "bool" = some none)
    (z_dict : PySem.W.nsIn K mainGlobals "dict" = some none)
    (z_enumerate : PySem.W.nsIn K mainGlobals "enumerate" = some none)
    (z_int : PySem.W.nsIn K mainGlobals "int" = some none)
    (z_isinstance : PySem.W.nsIn K mainGlobals "isinstance" = some none)
    (z_len : PySem.W.nsIn K mainGlobals "len" = some none)
    (z_list : PySem.W.nsIn K mainGlobals "list" = some none)
    (z_min : PySem.W.nsIn K mainGlobals "min" = some none)
    (z_range : PySem.W.nsIn K mainGlobals "range" = some none)
    (z_set : PySem.W.nsIn K mainGlobals "set" = some none)
    (z_str : PySem.W.nsIn K mainGlobals "str" = some none)
    (z_tuple : PySem.W.nsIn K mainGlobals "tuple" = some none)
    (z_zip : PySem.W.nsIn K mainGlobals "zip" = some none)
    {t_FASTEST : Tok} (y_FASTEST : PySem.W.nsIn K mainGlobals "FASTEST" = some (some (.int 1 t_FASTEST)))
    {d_GREATEST : Addr} {es_GREATEST : Array DictEntry} {en_GREATEST : Nat} (y_GREATEST : PySem.W.nsIn K mainGlobals "GREATEST" = some (some (.ref d_GREATEST))) (yl_GREATEST : K.lookup d_GREATEST = some ⟨.type "dict", none, .dict es_GREATEST en_GREATEST, #[]⟩) (yk_GREATEST : PySem.W.KeysLit w.params es_GREATEST.toList) (yw_GREATEST : (d_GREATEST == sysModules) = false) (yb_GREATEST : TabL es_GREATEST.toList [("speed", 4), ("slide", 6), ("jump", 5), ("skip", 5), ("again", 3)])
    {t_HEIGHTS : Tok} (y_HEIGHTS : PySem.W.nsIn K mainGlobals "HEIGHTS" = some (some (.int 12 t_HEIGHTS)))
    {d_LEAST : Addr} {es_LEAST : Array DictEntry} {en_LEAST : Nat} (y_LEAST : PySem.W.nsIn K mainGlobals "LEAST" = some (some (.ref d_LEAST))) (yl_LEAST : K.lookup d_LEAST = some ⟨.type "dict", none, .dict es_LEAST en_LEAST, #[]⟩) (yk_LEAST : PySem.W.KeysLit w.params es_LEAST.toList) (yw_LEAST : (d_LEAST == sysModules) = false) (yb_LEAST : TabL es_LEAST.toList [("speed", 1), ("slide", (-6)), ("jump", 0), ("skip", 0), ("again", 1)])
    {t_MOST_PATTERNS : Tok} (y_MOST_PATTERNS : PySem.W.nsIn K mainGlobals "MOST_PATTERNS" = some (some (.int 6 t_MOST_PATTERNS)))
    {t_MOST_PLACES : Tok} (y_MOST_PLACES : PySem.W.nsIn K mainGlobals "MOST_PLACES" = some (some (.int 6 t_MOST_PLACES)))
    {t_MOST_ROWS : Tok} (y_MOST_ROWS : PySem.W.nsIn K mainGlobals "MOST_ROWS" = some (some (.int 6 t_MOST_ROWS)))
    {t_MOST_VOICES : Tok} (y_MOST_VOICES : PySem.W.nsIn K mainGlobals "MOST_VOICES" = some (some (.int 3 t_MOST_VOICES)))
    {t_SLOWEST : Tok} (y_SLOWEST : PySem.W.nsIn K mainGlobals "SLOWEST" = some (some (.int 4 t_SLOWEST)))
    {C_TooLong : Addr} (xa_TooLong : PySem.W.nsIn K mainGlobals "TooLong" = some (some (.ref C_TooLong))) (xx_TooLong : PySem.W.excIn K C_TooLong [.type "ValueError", .type "Exception", .type "BaseException", .type "object"] "ValueError.__new__" = true) (xk_TooLong : PySem.W.keepIn K (.ref C_TooLong) = true) (xb_TooLong : PySem.W.subIn K (.ref C_TooLong) (.type "BaseException") = some true) (xt_TooLong : PySem.W.typeIn K (.ref C_TooLong) = some (.type "type")) :
    ∃ fd : FuncData, (∀ (s : Shared) (v : Value), BindsTo s fd ⟨[v], []⟩ [("script", v)]) ∧ ∀ base : Heap, K.In base → base.Ns mainGlobals mg → FnOk l.prog w K mg base CX0 8 fa fd ["script"] (spLaw K) := by
  have e := hfa.symm.trans (PySem.W.mg_of X G a_law)
  cases e
  exact ⟨PySem.W.fnOf "law" "law" (defArgs s_law) (defBody s_law) (defScope s_law) .none kV_law dc_law pm_law an_law cd_law ct_law, fun s v => .of_eq rfl, fun base _ _ => law_end (ok_law (top_mk X G a_is_whole l_is_whole k_is_whole j_is_whole a_is_between l_is_between k_is_between j_is_between a_is_sound l_is_sound k_is_sound j_is_sound a_is_deed l_is_deed k_is_deed j_is_deed a_is_box l_is_box k_is_box j_is_box a_is_row l_is_row k_is_row j_is_row a_is_pattern l_is_pattern k_is_pattern j_is_pattern a_is_song l_is_song k_is_song j_is_song a_voices_of l_voices_of k_voices_of j_voices_of a_pattern_at l_pattern_at k_pattern_at j_pattern_at a_number_by l_number_by k_number_by j_number_by a_slide_for l_slide_for k_slide_for j_slide_for a_boxes_for l_boxes_for k_boxes_for j_boxes_for a_fewest_rows l_fewest_rows k_fewest_rows j_fewest_rows a_song_of l_song_of k_song_of j_song_of a_first_state l_first_state k_first_state j_first_state a_struck l_struck k_struck j_struck a_slid l_slid k_slid j_slid a_place_behind l_place_behind k_place_behind j_place_behind a_state_on l_state_on k_state_on j_state_on a_next_state l_next_state k_next_state j_next_state a_heard_from l_heard_from k_heard_from j_heard_from a_heard l_heard k_heard j_heard a_rows_played l_rows_played k_rows_played j_rows_played a_row_starts l_row_starts k_row_starts j_row_starts a_L_cell l_L_cell k_L_cell j_L_cell a_L_pick l_L_pick k_L_pick j_L_pick a_L_box l_L_box k_L_box j_L_box a_L_song l_L_song k_L_song j_L_song a_L_slides l_L_slides k_L_slides j_L_slides a_L_fewest l_L_fewest k_L_fewest j_L_fewest a_L_heights l_L_heights k_L_heights j_L_heights a_law l_law k_law j_law z_all z_bool z_dict z_enumerate z_int z_isinstance z_len z_list z_min z_range z_set z_str z_tuple z_zip y_FASTEST y_GREATEST yl_GREATEST yk_GREATEST yw_GREATEST yb_GREATEST y_HEIGHTS y_LEAST yl_LEAST yk_LEAST yw_LEAST yb_LEAST y_MOST_PATTERNS y_MOST_PLACES y_MOST_ROWS y_MOST_VOICES y_SLOWEST xa_TooLong xx_TooLong xk_TooLong xb_TooLong xt_TooLong)) LT⟩
end W

set_option Elab.async false
set_option linter.all false
set_option maxRecDepth 100000
/-! MD: data by computation; songs as data. -/
namespace PL
open PySem PySem.Spec PyProof.Rows L2

/-! ### equality of plain data -/
def strOK (x : Str) : Bool := PyData.strOk x
/-- plain to a depth: no truths, good texts -/
def pl : Nat → D → Bool
  | _, .non => true
  | _, .int _ => true
  | _, .str x => strOK x
  | n + 1, .tup ds => ds.all fun d => pl n d
  | n + 1, .lst ds => ds.all fun d => pl n d
  | _, _ => false
theorem canLayAll_iff : ∀ ds : List D, PyData.canLayAll0 (pyAll ds) = ds.all fun d => PyData.canLay0 d.py
  | [] => by simp [pyAll, PyData.canLayAll0]
  | d :: ds => by simp [pyAll, PyData.canLayAll0, canLayAll_iff ds]
theorem depthAll_le {n : Nat} : ∀ ds : List D, (∀ d ∈ ds, PyData.depth d.py ≤ n) → PyData.depthAll (pyAll ds) ≤ n
  | [], _ => by simp [pyAll, PyData.depthAll]
  | d :: ds, h => by
    simp only [pyAll, PyData.depthAll]
    have h1 := h d (List.mem_cons_self ..)
    have h2 := depthAll_le ds fun x hx => h x (List.mem_cons_of_mem _ hx)
    omega
theorem pl_lay : ∀ (n : Nat) (d : D), pl n d = true → PyData.canLay0 d.py = true ∧ PyData.depth d.py ≤ n
  | 0, .non, _ => by simp [D.py, PyData.canLay0, PyData.depth]
  | _ + 1, .non, _ => by simp [D.py, PyData.canLay0, PyData.depth]
  | 0, .int _, _ => by simp [D.py, PyData.canLay0, PyData.depth]
  | _ + 1, .int _, _ => by simp [D.py, PyData.canLay0, PyData.depth]
  | 0, .str x, h => by simp [pl, strOK] at h; simp [D.py, PyData.canLay0, PyData.depth, h]
  | _ + 1, .str x, h => by simp [pl, strOK] at h; simp [D.py, PyData.canLay0, PyData.depth, h]
  | 0, .bl _, h => by simp [pl] at h
  | _ + 1, .bl _, h => by simp [pl] at h
  | 0, .tup _, h => by simp [pl] at h
  | 0, .lst _, h => by simp [pl] at h
  | n + 1, .tup ds, h => by
    simp only [pl, List.all_eq_true] at h
    have h1 := fun d hd => pl_lay n d (h d hd)
    refine ⟨?_, ?_⟩
    · simp only [D.py, PyData.canLay0, canLayAll_iff, List.all_eq_true]
      exact fun d hd => (h1 d hd).1
    · have := depthAll_le ds fun d hd => (h1 d hd).2
      simp only [D.py, PyData.depth]
      omega
  | n + 1, .lst ds, h => by
    simp only [pl, List.all_eq_true] at h
    have h1 := fun d hd => pl_lay n d (h d hd)
    refine ⟨?_, ?_⟩
    · simp only [D.py, PyData.canLay0, canLayAll_iff, List.all_eq_true]
      exact fun d hd => (h1 d hd).1
    · have := depthAll_le ds fun d hd => (h1 d hd).2
      simp only [D.py, PyData.depth]
      omega
theorem pl_ok {n : Nat} {d : D} (h : pl n d = true) (hn : n ≤ 64 := by decide) : eqok d = true := by
  obtain ⟨h1, h2⟩ := pl_lay n d h
  unfold eqok SeqAt.shaped
  rw [h1, decide_eq_true (Nat.le_trans h2 hn)]
  rfl
mutual
theorem eqv_refl : ∀ d : D, PyData.eqv d.py d.py = true
  | .non => by simp [D.py, PyData.eqv]
  | .bl b => by simp [D.py, PyData.eqv]
  | .int i => by simp [D.py, PyData.eqv]
  | .str x => by simp [D.py, PyData.eqv]
  | .tup ds => by simp only [D.py, PyData.eqv]; exact eqvAll_refl ds
  | .lst ds => by simp only [D.py, PyData.eqv]; exact eqvAll_refl ds
theorem eqvAll_refl : ∀ ds : List D, PyData.eqvAll (pyAll ds) (pyAll ds) = true
  | [] => by simp [pyAll, PyData.eqvAll]
  | d :: ds => by simp only [pyAll, PyData.eqvAll, eqv_refl d, eqvAll_refl ds, Bool.and_self]
end
theorem deq_refl (d : D) : deq d d = true := eqv_refl d
theorem eqvAll_eq {P Q : D → Prop} (ih : ∀ d e, P d → Q e → PyData.eqv d.py e.py = true → d = e) : ∀ ds es : List D, (∀ d ∈ ds, P d) → (∀ e ∈ es, Q e) → PyData.eqvAll (pyAll ds) (pyAll es) = true → ds = es
  | [], [], _, _, _ => rfl
  | [], _ :: _, _, _, h => by simp [pyAll, PyData.eqvAll] at h
  | _ :: _, [], _, _, h => by simp [pyAll, PyData.eqvAll] at h
  | d :: ds, e :: es, hp, hq, h => by
    simp only [pyAll, PyData.eqvAll, Bool.and_eq_true] at h
    rw [ih d e (hp d (List.mem_cons_self ..)) (hq e (List.mem_cons_self ..)) h.1, eqvAll_eq ih ds es (fun x hx => hp x (List.mem_cons_of_mem _ hx)) (fun x hx => hq x (List.mem_cons_of_mem _ hx)) h.2]
theorem deq_eq : ∀ (n m : Nat) (d e : D), pl n d = true → pl m e = true → deq d e = true → d = e := by
  intro n
  induction n with
  | zero =>
    intro m d e h1 h2 h
    cases d <;> cases e <;> cases m <;> simp_all [pl, deq, D.py, PyData.eqv]
  | succ n ih =>
    intro m d e h1 h2 h
    cases d with
    | tup ds =>
      cases e with
      | tup es =>
        cases m with
        | zero => simp [pl] at h2
        | succ m =>
          simp only [pl, List.all_eq_true] at h1 h2
          simp only [deq, D.py, PyData.eqv] at h
          rw [eqvAll_eq (P := fun d => pl n d = true) (Q := fun d => pl m d = true) (fun d e p q r => ih m d e p q r) ds es h1 h2 h]
      | _ => simp [deq, D.py, PyData.eqv] at h
    | lst ds =>
      cases e with
      | lst es =>
        cases m with
        | zero => simp [pl] at h2
        | succ m =>
          simp only [pl, List.all_eq_true] at h1 h2
          simp only [deq, D.py, PyData.eqv] at h
          rw [eqvAll_eq (P := fun d => pl n d = true) (Q := fun d => pl m d = true) (fun d e p q r => ih m d e p q r) ds es h1 h2 h]
      | _ => simp [deq, D.py, PyData.eqv] at h
    | _ => cases e <;> cases m <;> simp_all [pl, deq, D.py, PyData.eqv]
theorem oEq_same {n : Nat} {d : D} (h : pl n d = true) (hn : n ≤ 64 := by decide) : oEq d d = some (.bl true) := by
  unfold oEq
  rw [pl_ok h hn, deq_refl]
  rfl
theorem oNe_same {n : Nat} {d : D} (h : pl n d = true) (hn : n ≤ 64 := by decide) : oNe d d = some (.bl false) := by
  unfold oNe
  rw [pl_ok h hn, deq_refl]
  rfl
theorem oEq_diff {n m : Nat} {d e : D} (h : pl n d = true) (h' : pl m e = true) (ne : d ≠ e) (hn : n ≤ 64 := by decide) (hm : m ≤ 64 := by decide) : oEq d e = some (.bl false) := by
  unfold oEq
  rw [pl_ok h hn, pl_ok h' hm]
  have : deq d e = false := by
    cases q : deq d e with
    | false => rfl
    | true => exact absurd (deq_eq n m d e h h' q) ne
  rw [this]
  rfl
theorem oNe_diff {n m : Nat} {d e : D} (h : pl n d = true) (h' : pl m e = true) (ne : d ≠ e) (hn : n ≤ 64 := by decide) (hm : m ≤ 64 := by decide) : oNe d e = some (.bl true) := by
  unfold oNe
  rw [pl_ok h hn, pl_ok h' hm]
  have : deq d e = false := by
    cases q : deq d e with
    | false => rfl
    | true => exact absurd (deq_eq n m d e h h' q) ne
  rw [this]
  rfl
@[simp] theorem oEq_int (i j : Int) : oEq (.int i) (.int j) = some (.bl (decide (i = j))) := by
  by_cases h : i = j
  · subst h; rw [oEq_same (n := 0) rfl, decide_eq_true rfl]
  · rw [oEq_diff (n := 0) (m := 0) rfl rfl (fun e => h (D.int.inj e)), decide_eq_false h]
@[simp] theorem oNe_int (i j : Int) : oNe (.int i) (.int j) = some (.bl (!decide (i = j))) := by
  by_cases h : i = j
  · subst h; rw [oNe_same (n := 0) rfl, decide_eq_true rfl]; rfl
  · rw [oNe_diff (n := 0) (m := 0) rfl rfl (fun e => h (D.int.inj e)), decide_eq_false h]; rfl
theorem oEq_str {x y : Str} (hx : strOK x = true) (hy : strOK y = true) : oEq (.str x) (.str y) = some (.bl (decide (x = y))) := by
  by_cases h : x = y
  · subst h; rw [oEq_same (n := 0) (d := .str x) hx, decide_eq_true rfl]
  · rw [oEq_diff (n := 0) (m := 0) (d := .str x) (e := .str y) hx hy (fun e => h (D.str.inj e)), decide_eq_false h]
theorem oNe_str {x y : Str} (hx : strOK x = true) (hy : strOK y = true) : oNe (.str x) (.str y) = some (.bl (!decide (x = y))) := by
  by_cases h : x = y
  · subst h; rw [oNe_same (n := 0) (d := .str x) hx, decide_eq_true rfl]; rfl
  · rw [oNe_diff (n := 0) (m := 0) (d := .str x) (e := .str y) hx hy (fun e => h (D.str.inj e)), decide_eq_false h]; rfl
theorem oEq_int_str {i : Int} {y : Str} (hy : strOK y = true) : oEq (.int i) (.str y) = some (.bl false) := oEq_diff (n := 0) (m := 0) (d := .int i) (e := .str y) rfl hy (fun e => nomatch e)

/-! ### items -/
theorem atI_n {α : Type} (xs : List α) (n : Nat) : atI xs (n : Int) = xs[n]? := by
  unfold atI ixN
  rw [if_pos (by omega)]
  by_cases h : n < xs.length
  · rw [if_pos (by omega)]; rfl
  · rw [if_neg (by omega), List.getElem?_eq_none (by omega)]; rfl
theorem atI_int {α : Type} (xs : List α) (i : Int) (h : 0 ≤ i) : atI xs i = xs[i.toNat]? := by
  obtain ⟨n, rfl⟩ := Int.eq_ofNat_of_zero_le h
  exact atI_n xs n
@[simp] theorem atI_0 {α : Type} (x : α) (xs : List α) : atI (x :: xs) 0 = some x := atI_n (x :: xs) 0
@[simp] theorem atI_1 {α : Type} (x y : α) (xs : List α) : atI (x :: y :: xs) 1 = some y := atI_n (x :: y :: xs) 1
@[simp] theorem atI_2 {α : Type} (x y z : α) (xs : List α) : atI (x :: y :: z :: xs) 2 = some z := atI_n (x :: y :: z :: xs) 2
@[simp] theorem atI_3 {α : Type} (x y z u : α) (xs : List α) : atI (x :: y :: z :: u :: xs) 3 = some u := atI_n (x :: y :: z :: u :: xs) 3
@[simp] theorem atI_4 {α : Type} (x y z u v : α) (xs : List α) : atI (x :: y :: z :: u :: v :: xs) 4 = some v := atI_n (x :: y :: z :: u :: v :: xs) 4
@[simp] theorem atI_5 {α : Type} (x y z u v w : α) (xs : List α) : atI (x :: y :: z :: u :: v :: w :: xs) 5 = some w := atI_n (x :: y :: z :: u :: v :: w :: xs) 5
theorem atI_last' {α : Type} (xs : List α) : atI xs (-1) = xs.getLast? := by
  rcases List.eq_nil_or_concat xs with rfl | ⟨l, a, rfl⟩
  · rfl
  · rw [List.concat_eq_append, atI_last]; simp

/-! ### loops -/
theorem compL_map {α : Type} {ft : DG} {elt : DE} {ε : Ev} {enc : α → D} {g : α → D} : ∀ (xs : List α), (∀ x ∈ xs, ∃ ε1, ft (enc x) ε = some ε1 ∧ elt ε1 = .ok (g x)) → compL ft dYes elt ε (xs.map enc) = .ok (xs.map g)
  | [], _ => rfl
  | x :: xs, h => by
    obtain ⟨ε1, h1, h2⟩ := h x (List.mem_cons_self ..)
    rw [List.map_cons, List.map_cons]
    unfold compL
    rw [h1]
    simp only [dYes, h2, compL_map xs fun y hy => h y (List.mem_cons_of_mem _ hy), Out.bind]

/-! ### songs -/
inductive Wd where
  | speed | slide | jump | skip | again
  deriving DecidableEq
def Wd.nm : Wd → Str
  | .speed => "speed"
  | .slide => "slide"
  | .jump => "jump"
  | .skip => "skip"
  | .again => "again"
inductive Snd where
  | non | off | h (i : Int)
  deriving DecidableEq
structure Box where
  snd : Snd
  deed : Option (Wd × Int)
  deriving DecidableEq
abbrev Row := List Box
abbrev Pat := List Row
structure Song where
  speed : Int
  order : List Nat
  pats : List Pat
  deriving DecidableEq
def encSnd : Snd → D
  | .non => .non
  | .off => .str "off"
  | .h i => .int i
def encDeed : Option (Wd × Int) → D
  | none => .non
  | some (w, n) => .tup [.str w.nm, .int n]
def encBox (b : Box) : D := .tup [encSnd b.snd, encDeed b.deed]
def encRow (r : Row) : D := .tup (r.map encBox)
def encPat (p : Pat) : D := .tup (p.map encRow)
def encOrd (o : List Nat) : D := .tup (o.map fun (k : Nat) => D.int k)
def encSong (s : Song) : D := .tup [.int s.speed, encOrd s.order, .tup (s.pats.map encPat)]
def encOI : Option Int → D
  | none => .non
  | some i => .int i
@[simp] theorem encOI_none : encOI none = .non := rfl
@[simp] theorem encOI_some (i : Int) : encOI (some i) = .int i := rfl
def hsL (hs : List (Option Int)) : List D := hs.map encOI
def encHs (hs : List (Option Int)) : D := .tup (hsL hs)
theorem hsL_len (hs : List (Option Int)) : (hsL hs).length = hs.length := List.length_map ..
theorem nm_ok (w : Wd) : strOK w.nm = true := by cases w <;> decide +kernel
theorem nm_inj {w v : Wd} : w.nm = v.nm ↔ w = v := by
  constructor
  · intro h
    cases w <;> cases v <;> first | rfl | (exfalso; revert h; decide +kernel)
  · intro h; rw [h]
theorem off_ok : strOK "off" = true := by decide +kernel
@[simp] theorem oEq_nm (w v : Wd) : oEq (.str w.nm) (.str v.nm) = some (.bl (decide (w = v))) := by
  rw [oEq_str (nm_ok w) (nm_ok v)]
  simp only [nm_inj]
@[simp] theorem oNe_nm (w v : Wd) : oNe (.str w.nm) (.str v.nm) = some (.bl (!decide (w = v))) := by
  rw [oNe_str (nm_ok w) (nm_ok v)]
  simp only [nm_inj]
@[simp] theorem isNon_oi (o : Option Int) : isNon (encOI o) = o.isNone := by cases o <;> rfl
@[simp] theorem isNon_deed (o : Option (Wd × Int)) : isNon (encDeed o) = o.isNone := by rcases o with _ | ⟨w, n⟩ <;> rfl
theorem pl_snd (s : Snd) : pl 1 (encSnd s) = true := by cases s <;> first | rfl | exact off_ok
theorem pl_deed (d : Option (Wd × Int)) : pl 2 (encDeed d) = true := by
  rcases d with _ | ⟨w, n⟩
  · rfl
  · simp [encDeed, pl, nm_ok]
theorem pl_mono : ∀ {n m : Nat} {d : D}, n ≤ m → pl n d = true → pl m d = true
  | 0, 0, d, _, h => h
  | 0, m + 1, d, _, h => by cases d <;> simp_all [pl]
  | n + 1, 0, d, l, _ => by omega
  | n + 1, m + 1, d, l, h => by
    cases d with
    | tup ds =>
      simp only [pl, List.all_eq_true] at h ⊢
      exact fun d hd => pl_mono (by omega) (h d hd)
    | lst ds =>
      simp only [pl, List.all_eq_true] at h ⊢
      exact fun d hd => pl_mono (by omega) (h d hd)
    | _ => simp_all [pl]
theorem pl_tup {n : Nat} {ds : List D} (h : ∀ d ∈ ds, pl n d = true) : pl (n + 1) (.tup ds) = true := by
  simp only [pl, List.all_eq_true]; exact h
theorem pl_lst {n : Nat} {ds : List D} (h : ∀ d ∈ ds, pl n d = true) : pl (n + 1) (.lst ds) = true := by
  simp only [pl, List.all_eq_true]; exact h
theorem pl_map {α : Type} {n : Nat} {f : α → D} {xs : List α} (h : ∀ x, pl n (f x) = true) : ∀ d ∈ xs.map f, pl n d = true := fun d hd => by
  obtain ⟨x, _, rfl⟩ := List.mem_map.mp hd
  exact h x
theorem pl_box (b : Box) : pl 3 (encBox b) = true := pl_tup fun d hd => by
  rcases List.mem_cons.mp hd with rfl | hd
  · exact pl_mono (by decide) (pl_snd _)
  · rw [List.mem_singleton.mp hd]; exact pl_deed _
theorem pl_row (r : Row) : pl 4 (encRow r) = true := pl_tup (pl_map pl_box)
theorem pl_pat (p : Pat) : pl 5 (encPat p) = true := pl_tup (pl_map pl_row)
theorem pl_ord (o : List Nat) : pl 1 (encOrd o) = true := pl_tup (pl_map fun _ => rfl)
theorem pl_song (s : Song) : pl 7 (encSong s) = true := pl_tup fun d hd => by
  rcases List.mem_cons.mp hd with rfl | hd
  · rfl
  · rcases List.mem_cons.mp hd with rfl | hd
    · exact pl_mono (by decide) (pl_ord _)
    · rw [List.mem_singleton.mp hd]; exact pl_tup (pl_map pl_pat)
theorem pl_oi (o : Option Int) : pl 0 (encOI o) = true := by cases o <;> rfl
theorem pl_hs (hs : List (Option Int)) : pl 1 (encHs hs) = true := pl_tup (pl_map pl_oi)
theorem pl_hss (l : List (List (Option Int))) : pl 2 (.lst (l.map encHs)) = true := pl_lst (pl_map pl_hs)
end PL

set_option Elab.async false
set_option linter.all false
set_option maxRecDepth 100000
set_option maxHeartbeats 1000000
/-! MA: what plays, as plain functions. -/
namespace W
open PySem L2 PL

def voices (s : Song) : Nat := ((s.pats.headD []).headD []).length
def patAt (s : Song) (p : Nat) : Pat := s.pats.getD (s.order.getD p 0) []
def rowAt (s : Song) (p r : Nat) : Row := (patAt s p).getD r []
def DeedOk (places : Nat) : Wd → Int → Prop
  | .speed, n => 1 ≤ n ∧ n ≤ 4
  | .slide, n => -6 ≤ n ∧ n ≤ 6
  | .jump, n => 0 ≤ n ∧ n < places
  | .skip, n => 0 ≤ n ∧ n ≤ 5
  | .again, n => 1 ≤ n ∧ n ≤ 3
def SndOk : Snd → Prop
  | .h i => 0 ≤ i ∧ i < 12
  | _ => True
structure BoxOk (places : Nat) (b : Box) : Prop where
  snd : SndOk b.snd
  deed : ∀ w n, b.deed = some (w, n) → DeedOk places w n
structure WF (s : Song) : Prop where
  sp : 1 ≤ s.speed ∧ s.speed ≤ 4
  on : 1 ≤ s.order.length ∧ s.order.length ≤ 6
  ok : ∀ k ∈ s.order, k < s.pats.length
  ps : 1 ≤ s.pats.length ∧ s.pats.length ≤ 6
  pn : ∀ p ∈ s.pats, 1 ≤ p.length ∧ p.length ≤ 6
  nv : 1 ≤ voices s ∧ voices s ≤ 3
  rl : ∀ p ∈ s.pats, ∀ r ∈ p, r.length = voices s
  bx : ∀ p ∈ s.pats, ∀ r ∈ p, ∀ b ∈ r, BoxOk s.order.length b
section
variable {s : Song}
theorem pat_get (h : WF s) {p : Nat} (hp : p < s.order.length) : ∃ k, s.order[p]? = some k ∧ s.pats[k]? = some (patAt s p) ∧ patAt s p ∈ s.pats := by
  have e := List.getElem?_eq_getElem hp
  have hk := h.ok _ (List.getElem_mem hp)
  refine ⟨_, e, ?_, ?_⟩
  · unfold patAt
    rw [List.getD_eq_getElem?_getD, List.getD_eq_getElem?_getD, e]
    simp [List.getElem?_eq_getElem hk]
  · unfold patAt
    rw [List.getD_eq_getElem?_getD, List.getD_eq_getElem?_getD, e]
    simp [List.getElem?_eq_getElem hk]
theorem row_get {p r : Nat} (hr : r < (patAt s p).length) : (patAt s p)[r]? = some (rowAt s p r) ∧ rowAt s p r ∈ patAt s p := by
  unfold rowAt
  rw [List.getD_eq_getElem?_getD, List.getElem?_eq_getElem hr]
  exact ⟨rfl, List.getElem_mem hr⟩
theorem head_get (h : WF s) : ∃ r0 rs ps, s.pats = (r0 :: rs) :: ps ∧ voices s = r0.length := by
  obtain ⟨sp, o, pats⟩ := s
  cases pats with
  | nil => exact absurd h.ps.1 (by simp)
  | cons p ps =>
    cases p with
    | nil => exact absurd (h.pn [] (List.mem_cons_self ..)).1 (by simp)
    | cons r rs => exact ⟨r, rs, ps, rfl, rfl⟩
end
end W

set_option Elab.async false
set_option linter.all false
set_option maxRecDepth 100000
set_option maxHeartbeats 1000000
/-! MB0: loops; what a law picks. -/
namespace W
open PySem L2 PL

theorem forL_inv {ft : DG} {body : DS} (P : Nat → Ev → Prop) : ∀ (ds : List D) (k : Nat) (ε : Ev), P k ε → (∀ (i : Nat) (d : D) (ε : Ev), ds[i]? = some d → P (k + i) ε → ∃ ε1 ε2, ft d ε = some ε1 ∧ body ε1 = .nx ε2 ∧ P (k + i + 1) ε2) →
    ∃ ε', forL ft body ds ε = .nx ε' ∧ P (k + ds.length) ε'
  | [], k, ε, h, _ => ⟨ε, rfl, h⟩
  | d :: ds, k, ε, h, hs => by
    obtain ⟨ε1, ε2, h1, h2, h3⟩ := hs 0 d ε rfl h
    obtain ⟨ε', h4, h5⟩ := forL_inv P ds (k + 1) ε2 h3 fun i d' ε' hd hp => by
      have := hs (i + 1) d' ε' (by simpa using hd) (by rw [show k + (i + 1) = k + 1 + i by omega]; exact hp)
      rw [show k + (i + 1) + 1 = k + 1 + i + 1 by omega] at this
      exact this
    refine ⟨ε', ?_, ?_⟩
    · unfold forL
      rw [h1]
      dsimp only
      rw [h2]
      exact h4
    · rw [List.length_cons, show k + (ds.length + 1) = k + 1 + ds.length by omega]
      exact h5
theorem rng_get {lo : Int} {n i : Nat} {d : D} (h : (rng lo n)[i]? = some d) : i < n ∧ d = .int (lo + i) := by
  unfold rng at h
  rw [List.getElem?_map] at h
  by_cases hi : i < n
  · rw [List.getElem?_range hi] at h
    cases h
    exact ⟨hi, rfl⟩
  · rw [List.getElem?_eq_none (by simpa using hi)] at h
    cases h
@[simp] theorem rng_len (lo : Int) (n : Nat) : (rng lo n).length = n := by simp [rng]
/-- a loop over range(n) -/
theorem for_rng {ft : DG} {body : DS} (P : Nat → Ev → Prop) (n : Nat) (ε : Ev) (h0 : P 0 ε) (hs : ∀ (i : Nat) (ε : Ev), i < n → P i ε → ∃ ε1 ε2, ft (.int i) ε = some ε1 ∧ body ε1 = .nx ε2 ∧ P (i + 1) ε2) :
    ∃ ε', forL ft body (rng 0 n) ε = .nx ε' ∧ P n ε' := by
  obtain ⟨ε', h1, h2⟩ := forL_inv (ft := ft) (body := body) P (rng 0 n) 0 ε h0 fun i d ε hd hp => by
    obtain ⟨hi, rfl⟩ := rng_get hd
    rw [Nat.zero_add] at hp ⊢
    rw [Int.zero_add]
    exact hs i ε hi hp
  rw [rng_len, Nat.zero_add] at h2
  exact ⟨ε', h1, h2⟩
/-- a comprehension whose items are known to be there -/
theorem compL_ex {α β : Type} {ft : DG} {elt : DE} {ε : Ev} {enc : α → D} {g : β → D} {Q : β → Prop} : ∀ (xs : List α), (∀ x ∈ xs, ∃ y, Q y ∧ ∃ ε1, ft (enc x) ε = some ε1 ∧ elt ε1 = .ok (g y)) →
    ∃ ys : List β, ys.length = xs.length ∧ (∀ y ∈ ys, Q y) ∧ compL ft dYes elt ε (xs.map enc) = .ok (ys.map g)
  | [], _ => ⟨[], rfl, fun _ h => (List.not_mem_nil h).elim, rfl⟩
  | x :: xs, h => by
    obtain ⟨y, hq, ε1, h1, h2⟩ := h x (List.mem_cons_self ..)
    obtain ⟨ys, hl, hQ, hc⟩ := compL_ex xs fun z hz => h z (List.mem_cons_of_mem _ hz)
    refine ⟨y :: ys, by simp [hl], fun z hz => ?_, ?_⟩
    · rcases List.mem_cons.mp hz with rfl | hz
      · exact hq
      · exact hQ z hz
    · rw [List.map_cons, List.map_cons]
      unfold compL
      rw [h1]
      simp only [dYes, h2, hc, bind_ok]
theorem comp_rng {β : Type} {ft : DG} {elt : DE} {ε : Ev} {g : β → D} {Q : β → Prop} (n : Nat) (h : ∀ i : Nat, i < n → ∃ y, Q y ∧ ∃ ε1, ft (.int i) ε = some ε1 ∧ elt ε1 = .ok (g y)) :
    ∃ ys : List β, ys.length = n ∧ (∀ y ∈ ys, Q y) ∧ compL ft dYes elt ε (rng 0 n) = .ok (ys.map g) := by
  unfold rng
  obtain ⟨ys, h1, h2, h3⟩ := compL_ex (g := g) (Q := Q) (ft := ft) (elt := elt) (ε := ε) (enc := fun (k : Nat) => D.int (0 + k)) (List.range n) fun x hx => by
    rw [Int.zero_add]
    exact h x (List.mem_range.mp hx)
  exact ⟨ys, by rw [h1, List.length_range], h2, h3⟩

def scr (ns : List Int) : D := .lst (ns.map D.int)
@[simp] theorem oIx_scr (ns : List Int) (i : Int) : oIx (scr ns) (.int i) = atI (ns.map D.int) i := rfl
@[simp] theorem oLen_scr (ns : List Int) : oLen (scr ns) = some (.int ns.length) := by simp [scr]
def cellI (ns : List Int) (k : Nat) : Int := if k < ns.length then ns.getD k 0 else if ns = [] then 0 else ns.getD (k % ns.length) 0 * 31 + k
theorem pl_scr (ns : List Int) : pl 1 (scr ns) = true := pl_lst (pl_map fun _ => rfl)
theorem e_L_cell (ns : List Int) (k : Nat) : M_L_cell [scr ns, .int k] = .ok (.int (cellI ns k)) := by
  by_cases h : k < ns.length
  · simp [M_L_cell, B_L_cell, cellI, h, atI_n]
  · cases ns with
    | nil =>
      have e : oEq (scr []) (D.lst []) = some (.bl true) := oEq_same (n := 1) rfl
      have h' : ¬ (k : Int) < 0 := by omega
      simp [M_L_cell, B_L_cell, cellI, e, h']
    | cons n ns =>
      have e : oEq (scr (n :: ns)) (D.lst []) = some (.bl false) := oEq_diff (n := 1) (m := 1) (pl_scr (n :: ns)) rfl (fun z => by cases z)
      have hl : k % (ns.length + 1) < (n :: ns).length := Nat.mod_lt _ (by simp)
      have hk : atI (D.int n :: ns.map D.int) ((k : Int) % ((ns.length : Int) + 1)) = some (.int ((n :: ns).getD (k % (ns.length + 1)) 0)) := by
        rw [show (k : Int) % ((ns.length : Int) + 1) = ((k % (ns.length + 1) : Nat) : Int) by simp, atI_n, ← List.map_cons (f := D.int), List.getElem?_map, List.getElem?_eq_getElem hl, List.getD_eq_getElem?_getD, List.getElem?_eq_getElem hl]
        rfl
      have hs : small 31 = true := by decide
      have hp : (0 : Int) < (ns.length : Int) + 1 := by omega
      have h' : ¬ k < ns.length + 1 := h
      have h'' : ¬ (k : Int) < (ns.length : Int) + 1 := by omega
      simp [M_L_cell, B_L_cell, cellI, h', h'', e, hk, hs, hp]
def pickI (ns : List Int) (k : Nat) (m : Int) : Int :=
  let d := (cellI ns k + 6151 * ((k : Int) + 1)) * 40692 % 2147483399
  (d * d + d / 31) % 2147483629 % m
theorem e_L_pick (ns : List Int) (k : Nat) (m : Int) (hm : 0 < m) : M_L_pick [scr ns, .int k, .int m] = .ok (.int (pickI ns k m)) := by
  have h1 : small 6151 = true := by decide
  have h2 : small 40692 = true := by decide
  have h3 : small ((cellI ns k + 6151 * ((k : Int) + 1)) * 40692 % 2147483399) = true := by
    have a := Int.emod_nonneg ((cellI ns k + 6151 * ((k : Int) + 1)) * 40692) (show (2147483399 : Int) ≠ 0 by decide)
    have b := Int.emod_lt_of_pos ((cellI ns k + 6151 * ((k : Int) + 1)) * 40692) (show (0 : Int) < 2147483399 by decide)
    unfold small
    rw [decide_eq_true (by omega), decide_eq_true (by omega)]
    rfl
  simp [M_L_pick, B_L_pick, e_L_cell, h1, h2, h3, hm, pickI]
theorem pick_lt (ns : List Int) (k : Nat) {m : Int} (hm : 0 < m) : 0 ≤ pickI ns k m ∧ pickI ns k m < m :=
  ⟨Int.emod_nonneg _ (by omega), Int.emod_lt_of_pos _ hm⟩
theorem pick_n (ns : List Int) (k : Nat) {m : Nat} (hm : 0 < m) : ∃ v : Nat, v < m ∧ pickI ns k m = v := by
  obtain ⟨h1, h2⟩ := pick_lt ns k (show (0 : Int) < m by omega)
  obtain ⟨v, e⟩ := Int.eq_ofNat_of_zero_le h1
  exact ⟨v, by omega, e⟩
theorem e_L_pick' (ns : List Int) {k : Int} (j : Nat) (hk : k = j) (m : Int) (hm : 0 < m) : M_L_pick [scr ns, .int k, .int m] = .ok (.int (pickI ns j m)) := by rw [hk]; exact e_L_pick ns j m hm

theorem seq_step {f g : DS} {ε ε' : Ev} (h : f ε = .nx ε') : sSeq f g ε = g ε' := by simp [h]
theorem run_step {f g : DS} {ε ε' : Ev} {r : Out D} (h : f ε = .nx ε') (h2 : runF (g ε') = r) : runF (sSeq f g ε) = r := by rw [seq_step h]; exact h2
end W

set_option Elab.async false
set_option linter.all false
set_option maxRecDepth 100000
set_option maxHeartbeats 1000000
/-! MA: states, next_state. -/
namespace W
open PySem L2 PL
section
variable {s : Song}
theorem e_voices_of (h : WF s) : M_voices_of [encSong s] = .ok (.int (voices s)) := by
  obtain ⟨r0, rs, ps, e, hv⟩ := head_get h
  simp [M_voices_of, B_voices_of, encSong, e, encPat, encRow, hv]
theorem e_pattern_at (h : WF s) {p : Nat} (hp : p < s.order.length) : M_pattern_at [encSong s, .int p] = .ok (encPat (patAt s p)) := by
  obtain ⟨k, h1, h2, _⟩ := pat_get h hp
  simp [M_pattern_at, B_pattern_at, encSong, encOrd, atI_n, h1, h2]
end
/-! ### number_by -/
def lastStep (w : Wd) (f : Option Int) (b : Box) : Option Int := match b.deed with
  | some (v, n) => if v = w then some n else f
  | none => f
def lastBy (r : Row) (w : Wd) : Option Int := r.foldl (lastStep w) none
theorem nb_loop (w : Wd) (rv : Sl) : ∀ (r : Row) (f : Option Int) (x y : Sl), ∃ x' y', forL (tgT [(tgN 3), (tgN 4)])
    (sIf (dAndT (dTestB (d2 oIsNot (dVar 4) (dC .non))) (dTestB (d2 oEq (d2 oIx (dVar 4) (dC (.int 0))) (dVar 1)))) (sSet 2 (d2 oIx (dVar 4) (dC (.int 1)))) sNil)
    (r.map encBox) [rv, .val (.str w.nm), .val (encOI f), x, y] = .nx [rv, .val (.str w.nm), .val (encOI (r.foldl (lastStep w) f)), x', y']
  | [], f, x, y => ⟨x, y, rfl⟩
  | b :: r, f, x, y => by
    obtain ⟨x', y', ih⟩ := nb_loop w rv r (lastStep w f b) (.val (encSnd b.snd)) (.val (encDeed b.deed))
    refine ⟨x', y', ?_⟩
    rw [List.map_cons, List.foldl_cons]
    unfold forL
    rcases b with ⟨sn, _ | ⟨v, n⟩⟩
    · simpa [encBox, encDeed, lastStep] using ih
    · by_cases hv : v = w
      · simpa [encBox, encDeed, lastStep, hv] using ih
      · simpa [encBox, encDeed, lastStep, hv] using ih
theorem e_number_by (r : Row) (w : Wd) : M_number_by [encRow r, .str w.nm] = .ok (encOI (lastBy r w)) := by
  obtain ⟨x', y', h⟩ := nb_loop w (.val (encRow r)) r none .un .un
  have h' : forL (tgT [(tgN 3), (tgN 4)]) (sIf (dAndT (dTestB (d2 oIsNot (dVar 4) (dC .non))) (dTestB (d2 oEq (d2 oIx (dVar 4) (dC (.int 0))) (dVar 1)))) (sSet 2 (d2 oIx (dVar 4) (dC (.int 1)))) sNil)
    (r.map encBox) [.val (encRow r), .val (.str w.nm), .val .non, .un, .un] = _ := h
  unfold encRow at h'
  simp [M_number_by, B_number_by, encRow, h', lastBy]
/-! ### states -/
structure Stt where
  place : Nat
  row : Nat
  times : Nat
  moment : Nat
  speed : Int
  hs : List (Option Int)
def encStt (t : Stt) : D := .tup [.int t.place, .int t.row, .int t.times, .int t.moment, .int t.speed, encHs t.hs]
theorem pl_stt (t : Stt) : pl 2 (encStt t) = true := pl_tup fun d hd => by
  simp only [List.mem_cons, List.not_mem_nil, or_false] at hd
  rcases hd with rfl | rfl | rfl | rfl | rfl | rfl
  · rfl
  · rfl
  · rfl
  · rfl
  · rfl
  · exact pl_hs _
def struckS (h : Option Int) (b : Box) : Option Int := match b.snd with
  | .non => h
  | .off => none
  | .h i => some i
def slidS (h : Option Int) (b : Box) : Option Int := match h, b.deed with
  | some x, some (.slide, n) => some ((x + n) % 12)
  | h, _ => h
theorem e_struck (h : Option Int) (b : Box) : M_struck [encOI h, encBox b] = .ok (encOI (struckS h b)) := by
  rcases b with ⟨sn, d⟩
  cases sn with
  | non => simp [M_struck, B_struck, encBox, encSnd, struckS]
  | off => simp [M_struck, B_struck, encBox, encSnd, struckS, oEq_same (n := 0) (d := .str "off") off_ok]
  | h i => simp [M_struck, B_struck, encBox, encSnd, struckS, oEq_int_str off_ok]
theorem nm_slide : (D.str "slide") = .str Wd.slide.nm := rfl
theorem e_slid (h : Option Int) (b : Box) : M_slid [encOI h, encBox b] = .ok (encOI (slidS h b)) := by
  rcases b with ⟨sn, d⟩
  rcases h with _ | x
  · simp [M_slid, B_slid, encBox, slidS]
  · rcases d with _ | ⟨w, n⟩
    · simp [M_slid, B_slid, encBox, encDeed, slidS]
    · cases w <;> simp [M_slid, B_slid, encBox, encDeed, slidS, nm_slide]
def placeBehind (s : Song) (p r : Nat) : Nat × Nat :=
  match lastBy (rowAt s p r) .jump, lastBy (rowAt s p r) .skip with
  | none, none => if r + 1 < (patAt s p).length then (p, r + 1) else ((p + 1) % s.order.length, 0)
  | some j, none => (j.toNat, 0)
  | none, some k => ((p + 1) % s.order.length, min k.toNat ((patAt s ((p + 1) % s.order.length)).length - 1))
  | some j, some k => (j.toNat, min k.toNat ((patAt s j.toNat).length - 1))
def stateOn (s : Song) (t : Stt) : Stt :=
  match lastBy (rowAt s t.place t.row) .again with
  | some n => if (t.times : Int) < n then { t with times := t.times + 1, moment := 0 } else
      { t with place := (placeBehind s t.place t.row).1, row := (placeBehind s t.place t.row).2, times := 0, moment := 0 }
  | none => { t with place := (placeBehind s t.place t.row).1, row := (placeBehind s t.place t.row).2, times := 0, moment := 0 }
def hsAt (s : Song) (t : Stt) : List (Option Int) := List.zipWith (if t.moment = 0 then struckS else slidS) t.hs (rowAt s t.place t.row)
def spAt (s : Song) (t : Stt) : Int := if t.moment = 0 then (lastBy (rowAt s t.place t.row) .speed).getD t.speed else t.speed
def nextS (s : Song) (t : Stt) : Stt :=
  if (t.moment : Int) + 1 = spAt s t then stateOn s { t with moment := t.moment + 1, speed := spAt s t, hs := hsAt s t } else { t with moment := t.moment + 1, speed := spAt s t, hs := hsAt s t }
def firstS (s : Song) : Stt := ⟨0, 0, 0, 0, s.speed, List.replicate (voices s) none⟩
structure StOk (s : Song) (t : Stt) : Prop where
  pl : t.place < s.order.length
  rw : t.row < (patAt s t.place).length
  hl : t.hs.length = voices s
theorem last_mem {w : Wd} : ∀ (r : Row) (f : Option Int) (n : Int), r.foldl (lastStep w) f = some n → f = some n ∨ ∃ b ∈ r, b.deed = some (w, n)
  | [], f, n, h => .inl h
  | b :: r, f, n, h => by
    rcases last_mem r (lastStep w f b) n h with h1 | ⟨b', hb, e⟩
    · unfold lastStep at h1
      split at h1
      · rename_i v m hd
        split at h1
        · rename_i hv
          cases h1
          exact .inr ⟨b, List.mem_cons_self .., by rw [hd, hv]⟩
        · exact .inl h1
      · exact .inl h1
    · exact .inr ⟨b', List.mem_cons_of_mem _ hb, e⟩
theorem last_ok {s : Song} (h : WF s) {p r : Nat} (hp : p < s.order.length) (hr : r < (patAt s p).length) {w : Wd} {n : Int} (e : lastBy (rowAt s p r) w = some n) : DeedOk s.order.length w n := by
  rcases last_mem _ _ _ e with z | ⟨b, hb, hd⟩
  · cases z
  · obtain ⟨_, _, _, hm⟩ := pat_get h hp
    exact (h.bx _ hm _ (row_get hr).2 b hb).deed w n hd
theorem nm_jump : (D.str "jump") = .str Wd.jump.nm := rfl
theorem nm_skip : (D.str "skip") = .str Wd.skip.nm := rfl
theorem nm_again : (D.str "again") = .str Wd.again.nm := rfl
theorem nm_speed : (D.str "speed") = .str Wd.speed.nm := rfl
section
variable {s : Song}
theorem e_row {p r : Nat} (hr : r < (patAt s p).length) : oIx (encPat (patAt s p)) (.int r) = some (encRow (rowAt s p r)) := by
  simp [encPat, atI_n, (row_get hr).1]
theorem pat_len (h : WF s) {p : Nat} (hp : p < s.order.length) : 1 ≤ (patAt s p).length ∧ (patAt s p).length ≤ 6 := by
  obtain ⟨_, _, _, hm⟩ := pat_get h hp
  exact h.pn _ hm
theorem e_order (s : Song) : oIx (encSong s) (.int 1) = some (encOrd s.order) := by simp [encSong]
theorem len_pat (p : Pat) : oLen (encPat p) = some (.int p.length) := by simp [encPat]
theorem len_ord (o : List Nat) : oLen (encOrd o) = some (.int o.length) := by simp [encOrd]
theorem e_place_behind (h : WF s) {p r : Nat} (hp : p < s.order.length) (hr : r < (patAt s p).length) :
    M_place_behind [encSong s, .int p, .int r] = .ok (.tup [.int (placeBehind s p r).1, .int (placeBehind s p r).2]) := by
  have ep := e_pattern_at h hp
  have er := e_row hr
  have hlen := pat_len h hp
  have hgl : (p + 1) % s.order.length < s.order.length := Nat.mod_lt _ h.on.1
  have hpos : 0 < s.order.length := h.on.1
  have eg := e_pattern_at h hgl
  have hlg := pat_len h hgl
  rw [show (((p + 1) % s.order.length : Nat) : Int) = ((p : Int) + 1) % (s.order.length : Int) by simp] at eg
  cases hj : lastBy (rowAt s p r) .jump with
  | none =>
    cases hk : lastBy (rowAt s p r) .skip with
    | none =>
      by_cases hlt : r + 1 < (patAt s p).length
      · have hlt' : (r : Int) + 1 < ((patAt s p).length : Int) := by omega
        simp [M_place_behind, B_place_behind, ep, er, nm_jump, nm_skip, e_number_by, hj, hk, len_pat, placeBehind, hlt, hlt']
      · have hlt' : ¬ (r : Int) + 1 < ((patAt s p).length : Int) := by omega
        simp [M_place_behind, B_place_behind, ep, er, nm_jump, nm_skip, e_number_by, hj, hk, len_pat, placeBehind, hlt, hlt', e_order, len_ord, hpos]
    | some k =>
      have hk0 := last_ok h hp hr hk
      simp [M_place_behind, B_place_behind, ep, er, nm_jump, nm_skip, e_number_by, hj, hk, len_pat, placeBehind, e_order, len_ord, hpos, eg]
      have : 0 ≤ k := hk0.1
      split <;> omega
  | some j =>
    have hj0 := last_ok h hp hr hj
    obtain ⟨j', rfl⟩ := Int.eq_ofNat_of_zero_le hj0.1
    have hjl : j' < s.order.length := by have := hj0.2; omega
    have ej := e_pattern_at h hjl
    have hlj := pat_len h hjl
    cases hk : lastBy (rowAt s p r) .skip with
    | none =>
      simp [M_place_behind, B_place_behind, ep, er, nm_jump, nm_skip, e_number_by, hj, hk, len_pat, placeBehind, e_order, len_ord, hpos]
    | some k =>
      have hk0 := last_ok h hp hr hk
      simp [M_place_behind, B_place_behind, ep, er, nm_jump, nm_skip, e_number_by, hj, hk, len_pat, placeBehind, e_order, len_ord, hpos, ej]
      have : 0 ≤ k := hk0.1
      split <;> omega
theorem pb_ok (h : WF s) {p r : Nat} (hp : p < s.order.length) (hr : r < (patAt s p).length) :
    (placeBehind s p r).1 < s.order.length ∧ (placeBehind s p r).2 < (patAt s (placeBehind s p r).1).length := by
  have hgl : (p + 1) % s.order.length < s.order.length := Nat.mod_lt _ h.on.1
  have hlg := pat_len h hgl
  unfold placeBehind
  cases hj : lastBy (rowAt s p r) .jump with
  | none =>
    cases hk : lastBy (rowAt s p r) .skip with
    | none =>
      dsimp only
      split
      · rename_i hlt; exact ⟨hp, hlt⟩
      · exact ⟨hgl, by dsimp only; omega⟩
    | some k => exact ⟨hgl, by dsimp only; omega⟩
  | some j =>
    have hj0 := last_ok h hp hr hj
    obtain ⟨j', rfl⟩ := Int.eq_ofNat_of_zero_le hj0.1
    have hjl : j' < s.order.length := by have := hj0.2; omega
    have hlj := pat_len h hjl
    cases hk : lastBy (rowAt s p r) .skip with
    | none => exact ⟨hjl, by show 0 < (patAt s j').length; omega⟩
    | some k => exact ⟨hjl, by show min k.toNat ((patAt s j').length - 1) < (patAt s j').length; omega⟩
theorem e_state_on (h : WF s) {t : Stt} (ht : StOk s t) : M_state_on [encSong s, encStt t] = .ok (encStt (stateOn s t)) := by
  have ep := e_pattern_at h ht.pl
  have er := e_row ht.rw
  have eb := e_place_behind h ht.pl ht.rw
  cases ha : lastBy (rowAt s t.place t.row) .again with
  | none =>
    simp [M_state_on, B_state_on, encStt, ep, er, nm_again, e_number_by, ha, eb, stateOn]
  | some n =>
    by_cases hl : (t.times : Int) < n
    · simp [M_state_on, B_state_on, encStt, ep, er, nm_again, e_number_by, ha, eb, stateOn, hl]
    · simp [M_state_on, B_state_on, encStt, ep, er, nm_again, e_number_by, ha, eb, stateOn, hl]
theorem zipD_map {α β : Type} (f : α → D) (g : β → D) : ∀ (xs : List α) (ys : List β), zipD (xs.map f) (ys.map g) = (xs.zip ys).map fun p => .tup [f p.1, g p.2]
  | [], _ => by simp
  | _ :: _, [] => by simp
  | x :: xs, y :: ys => by simp [zipD_map f g xs ys]
theorem row_len (h : WF s) {p r : Nat} (hp : p < s.order.length) (hr : r < (patAt s p).length) : (rowAt s p r).length = voices s := by
  obtain ⟨_, _, _, hm⟩ := pat_get h hp
  exact h.rl _ hm _ (row_get hr).2
theorem zipWith_map {α β γ δ : Type} (f : α → β → γ) (g : γ → δ) : ∀ (xs : List α) (ys : List β), (xs.zip ys).map (fun p => g (f p.1 p.2)) = (List.zipWith f xs ys).map g
  | [], _ => by simp
  | _ :: _, [] => by simp
  | x :: xs, y :: ys => by simp [zipWith_map f g xs ys]
theorem hs_comp {M : List D → Out D} {f : Option Int → Box → Option Int} (hM : ∀ h b, M [encOI h, encBox b] = .ok (encOI (f h b))) (s1 s2 s3 s4 s5 s6 s7 s8 s9 y1 : Sl) (hs : List (Option Int)) (r : Row) :
    compL (tgT [(tgN 9), (tgN 10)]) dYes (dCall M (dArgs [(dVar 9), (dVar 10)])) [s1, s2, s3, s4, s5, s6, s7, s8, s9, .un, .un, y1] (zipD (hsL hs) (r.map encBox)) = .ok (hsL (List.zipWith f hs r)) := by
  unfold hsL
  rw [zipD_map, compL_map (g := fun p => encOI (f p.1 p.2)), zipWith_map]
  intro x _
  exact ⟨_, rfl, by simp [hM]⟩
@[simp] theorem zpF_enc (hs : List (Option Int)) (r : Row) : zpF (encHs hs) (encRow r) = .ok (zipD (hsL hs) (r.map encBox)) := rfl
theorem e_next_state (h : WF s) {t : Stt} (ht : StOk s t) : M_next_state [encSong s, encStt t] = .ok (encStt (nextS s t)) := by
  have ep := e_pattern_at h ht.pl
  have er := e_row ht.rw
  have hv := h.nv
  have hz : (zipD (hsL t.hs) ((rowAt s t.place t.row).map encBox)).length ≤ LIM := by
    unfold hsL
    rw [zipD_map, List.length_map, List.length_zip, ht.hl]
    show _ ≤ 100000
    omega
  have so : ∀ sp, M_state_on [encSong s, .tup [.int t.place, .int t.row, .int t.times, .int ((t.moment : Int) + 1), .int sp, .tup (hsL (hsAt s t))]] = .ok (encStt (stateOn s { t with moment := t.moment + 1, speed := sp, hs := hsAt s t })) := fun sp => by
    have := e_state_on h (t := { t with moment := t.moment + 1, speed := sp, hs := hsAt s t }) ⟨ht.pl, ht.rw, by unfold hsAt; rw [List.length_zipWith, ht.hl, row_len h ht.pl ht.rw]; omega⟩
    simpa [encStt, encHs] using this
  by_cases hm : t.moment = 0
  · have hh : hsAt s t = List.zipWith struckS t.hs (rowAt s t.place t.row) := by simp [hsAt, hm]
    have hm' : ((t.moment : Nat) : Int) = 0 := by omega
    rw [hm', Int.zero_add] at so
    cases hsp : lastBy (rowAt s t.place t.row) .speed with
    | none =>
      have hs2 : spAt s t = t.speed := by simp [spAt, hm, hsp]
      by_cases h1 : (1 : Int) = t.speed
      · have e1 : nextS s t = stateOn s { t with moment := t.moment + 1, speed := t.speed, hs := hsAt s t } := by
          unfold nextS; rw [hs2, if_pos (by omega)]
        have so1 := so t.speed
        rw [e1]
        simp only [hh, h1.symm] at so1 ⊢
        simp [M_next_state, B_next_state, encStt, hm', ep, er, hz, hs_comp e_struck, nm_speed, e_number_by, hsp, h1.symm, so1]
      · have e1 : nextS s t = { t with moment := t.moment + 1, speed := t.speed, hs := hsAt s t } := by
          unfold nextS; rw [hs2, if_neg (by omega)]
        rw [e1, hh]
        simp [M_next_state, B_next_state, encStt, hm', ep, er, hz, hs_comp e_struck, nm_speed, e_number_by, hsp, h1]
        rfl
    | some n =>
      have hs2 : spAt s t = n := by simp [spAt, hm, hsp]
      by_cases h1 : (1 : Int) = n
      · have e1 : nextS s t = stateOn s { t with moment := t.moment + 1, speed := n, hs := hsAt s t } := by
          unfold nextS; rw [hs2, if_pos (by omega)]
        have so1 := so n
        rw [e1]
        simp only [hh, h1.symm] at so1 ⊢
        simp [M_next_state, B_next_state, encStt, hm', ep, er, hz, hs_comp e_struck, nm_speed, e_number_by, hsp, h1.symm, so1]
      · have e1 : nextS s t = { t with moment := t.moment + 1, speed := n, hs := hsAt s t } := by
          unfold nextS; rw [hs2, if_neg (by omega)]
        rw [e1, hh]
        simp [M_next_state, B_next_state, encStt, hm', ep, er, hz, hs_comp e_struck, nm_speed, e_number_by, hsp, h1]
        rfl
  · have hh : hsAt s t = List.zipWith slidS t.hs (rowAt s t.place t.row) := by simp [hsAt, hm]
    have hm' : ¬ ((t.moment : Nat) : Int) = 0 := by omega
    have hs2 : spAt s t = t.speed := by simp [spAt, hm]
    by_cases h1 : (t.moment : Int) + 1 = t.speed
    · have e1 : nextS s t = stateOn s { t with moment := t.moment + 1, speed := t.speed, hs := hsAt s t } := by
        unfold nextS; rw [hs2, if_pos (by omega)]
      have so1 := so t.speed
      rw [e1]
      simp only [hh, h1] at so1 ⊢
      simp [M_next_state, B_next_state, encStt, hm, ep, er, hz, hs_comp e_slid, h1, so1]
    · have e1 : nextS s t = { t with moment := t.moment + 1, speed := t.speed, hs := hsAt s t } := by
        unfold nextS; rw [hs2, if_neg (by omega)]
      rw [e1, hh]
      simp [M_next_state, B_next_state, encStt, hm, ep, er, hz, hs_comp e_slid, h1]
      rfl
end
end W

set_option Elab.async false
set_option linter.all false
set_option maxRecDepth 100000
set_option maxHeartbeats 1000000
/-! MC: the first state, states that follow. -/
namespace W
open PySem L2 PL
section
variable {s : Song}
theorem rep_flat {α : Type} (a : α) : ∀ n : Nat, (List.replicate n [a]).flatten = List.replicate n a
  | 0 => rfl
  | n + 1 => by rw [List.replicate_succ, List.flatten_cons, rep_flat a n]; rfl
theorem hsL_rep (n : Nat) : hsL (List.replicate n none) = List.replicate n D.non := by simp [hsL]
theorem e_first_state (h : WF s) : M_first_state [encSong s] = .ok (encStt (firstS s)) := by
  have hv := h.nv
  have h1 : (1 : Int) ≤ (voices s : Int) ∧ (voices s : Int) ≤ 1000 := by omega
  have e0 : oIx (encSong s) (.int 0) = some (.int s.speed) := by simp [encSong]
  simp [M_first_state, B_first_state, e_voices_of h, h1, rep_flat, e0, encStt, firstS, encHs, hsL_rep]
theorem first_ok (h : WF s) : StOk s (firstS s) := by
  refine ⟨h.on.1, ?_, by simp [firstS]⟩
  have := pat_len h (p := 0) h.on.1
  exact this.1
theorem hsAt_len (h : WF s) {t : Stt} (ht : StOk s t) : (hsAt s t).length = voices s := by
  unfold hsAt
  rw [List.length_zipWith, ht.hl, row_len h ht.pl ht.rw]
  omega
theorem next_ok (h : WF s) {t : Stt} (ht : StOk s t) : StOk s (nextS s t) := by
  have hl := hsAt_len h ht
  have hb := pb_ok h ht.pl ht.rw
  unfold nextS
  split
  · unfold stateOn
    dsimp only
    split
    · split
      · exact ⟨ht.pl, ht.rw, hl⟩
      · exact ⟨hb.1, hb.2, hl⟩
    · exact ⟨hb.1, hb.2, hl⟩
  · exact ⟨ht.pl, ht.rw, hl⟩
def run (s : Song) : Nat → Stt → Stt
  | 0, t => t
  | n + 1, t => run s n (nextS s t)
theorem run_succ (s : Song) : ∀ (n : Nat) (t : Stt), run s (n + 1) t = nextS s (run s n t)
  | 0, _ => rfl
  | n + 1, t => run_succ s n (nextS s t)
theorem run_add (s : Song) : ∀ (m n : Nat) (t : Stt), run s (m + n) t = run s n (run s m t)
  | 0, n, t => by rw [Nat.zero_add]; rfl
  | m + 1, n, t => by rw [show m + 1 + n = (m + n) + 1 by omega]; exact run_add s m n (nextS s t)
theorem run_ok (h : WF s) : ∀ (n : Nat) {t : Stt}, StOk s t → StOk s (run s n t)
  | 0, _, ht => ht
  | n + 1, _, ht => run_ok h n (next_ok h ht)
/-- what is heard in n moments from t on -/
def hear (s : Song) : Nat → Stt → List (List (Option Int))
  | 0, _ => []
  | n + 1, t => (nextS s t).hs :: hear s n (nextS s t)
theorem hear_len (s : Song) : ∀ (n : Nat) (t : Stt), (hear s n t).length = n
  | 0, _ => rfl
  | n + 1, t => by simp [hear, hear_len s n]
theorem hear_add (s : Song) : ∀ (m n : Nat) (t : Stt), hear s (m + n) t = hear s m t ++ hear s n (run s m t)
  | 0, n, t => by rw [Nat.zero_add]; rfl
  | m + 1, n, t => by
    rw [show m + 1 + n = (m + n) + 1 by omega]
    show (nextS s t).hs :: hear s (m + n) (nextS s t) = _
    rw [hear_add s m n]
    rfl
theorem hear_succ (s : Song) (n : Nat) (t : Stt) : hear s (n + 1) t = hear s n t ++ [(run s (n + 1) t).hs] := by
  rw [hear_add s n 1, run_succ]; rfl
end
end W

set_option Elab.async false
set_option linter.all false
set_option maxRecDepth 100000
set_option maxHeartbeats 1000000
/-! ML0: a row's moments, by the states. -/
namespace W
open PySem L2 PL

/-! ### a row's moments, by the states -/
def rowHs (s : Song) (t : Stt) : Nat → List (Option Int)
  | 0 => List.zipWith struckS t.hs (rowAt s t.place t.row)
  | k + 1 => List.zipWith slidS (rowHs s t k) (rowAt s t.place t.row)
def SpOk (t : Stt) : Prop := 1 ≤ t.speed ∧ t.speed ≤ 4
def rowSp (s : Song) (t : Stt) : Nat := (spAt s t).toNat
section
variable {s : Song}
theorem spAt_ok (h : WF s) {t : Stt} (ht : StOk s t) (hs : SpOk t) : 1 ≤ spAt s t ∧ spAt s t ≤ 4 := by
  unfold spAt
  split
  · cases e : lastBy (rowAt s t.place t.row) .speed with
    | none => exact hs
    | some n => exact last_ok h ht.pl ht.rw e
  · exact hs
theorem stateOn_speed (s : Song) (t : Stt) : (stateOn s t).speed = t.speed := by
  unfold stateOn
  split
  · split <;> rfl
  · rfl
theorem stateOn_hs (s : Song) (t : Stt) : (stateOn s t).hs = t.hs := by
  unfold stateOn
  split
  · split <;> rfl
  · rfl
theorem stateOn_moment (s : Song) (t : Stt) : (stateOn s t).moment = 0 := by
  unfold stateOn
  split
  · split <;> rfl
  · rfl
theorem nextS_speed (s : Song) (t : Stt) : (nextS s t).speed = spAt s t := by
  unfold nextS
  split
  · rw [stateOn_speed]
  · rfl
theorem nextS_hs (s : Song) (t : Stt) : (nextS s t).hs = hsAt s t := by
  unfold nextS
  split
  · rw [stateOn_hs]
  · rfl
theorem sp_next (h : WF s) {t : Stt} (ht : StOk s t) (hs : SpOk t) : SpOk (nextS s t) := by
  unfold SpOk
  rw [nextS_speed]
  exact spAt_ok h ht hs
theorem sp_run (h : WF s) : ∀ (n : Nat) {t : Stt}, StOk s t → SpOk t → SpOk (run s n t)
  | 0, _, _, hs => hs
  | n + 1, _, ht, hs => sp_run h n (next_ok h ht) (sp_next h ht hs)
theorem sp_first (h : WF s) : SpOk (firstS s) := h.sp
/-- within a row -/
theorem run_in {t : Stt} (h0 : t.moment = 0) {n : Nat} (hn : spAt s t = (n : Int)) : ∀ k : Nat, k + 1 < n → run s (k + 1) t = { t with moment := k + 1, speed := n, hs := rowHs s t k }
  | 0, hk => by
    show nextS s t = _
    unfold nextS hsAt
    rw [h0, hn, if_neg (by omega), if_pos rfl]
    rfl
  | k + 1, hk => by
    rw [run_succ, run_in h0 hn k (by omega)]
    have e : spAt s { t with moment := k + 1, speed := (n : Int), hs := rowHs s t k } = n := by simp [spAt]
    unfold nextS hsAt
    rw [e]
    dsimp only
    rw [if_neg (by omega), if_neg (by omega)]
    rfl
theorem run_row {t : Stt} (h0 : t.moment = 0) {n : Nat} (hn : spAt s t = (n : Int)) (h1 : 1 ≤ n) : run s n t = stateOn s { t with moment := n, speed := n, hs := rowHs s t (n - 1) } := by
  obtain ⟨k, rfl⟩ : ∃ k, n = k + 1 := ⟨n - 1, by omega⟩
  cases k with
  | zero =>
    show nextS s t = _
    unfold nextS hsAt
    rw [h0, hn, if_pos (by omega), if_pos rfl]
    rfl
  | succ k =>
    rw [run_succ, run_in h0 hn k (by omega)]
    have e : spAt s { t with moment := k + 1, speed := ((k + 1 + 1 : Nat) : Int), hs := rowHs s t k } = ((k + 1 + 1 : Nat) : Int) := by simp [spAt]
    unfold nextS hsAt
    rw [e]
    dsimp only
    rw [if_pos (by omega), if_neg (by omega)]
    rfl
theorem run_hs {t : Stt} (h0 : t.moment = 0) {n : Nat} (hn : spAt s t = (n : Int)) {k : Nat} (hk : k < n) : (run s (k + 1) t).hs = rowHs s t k := by
  by_cases h : k + 1 < n
  · rw [run_in h0 hn k h]
  · have : n = k + 1 := by omega
    subst this
    rw [run_row h0 hn (by omega), stateOn_hs]
    rfl
theorem hear_row {t : Stt} (h0 : t.moment = 0) {n : Nat} (hn : spAt s t = (n : Int)) : ∀ k : Nat, k ≤ n → hear s k t = (List.range k).map (rowHs s t)
  | 0, _ => rfl
  | k + 1, hk => by
    rw [hear_succ, hear_row h0 hn k (by omega), run_hs h0 hn (by omega), List.range_succ, List.map_append]
    rfl
theorem run_moment0 {t : Stt} (h0 : t.moment = 0) {n : Nat} (hn : spAt s t = (n : Int)) (h1 : 1 ≤ n) : (run s n t).moment = 0 := by
  rw [run_row h0 hn h1, stateOn_moment]
theorem rowHs_len (h : WF s) {t : Stt} (ht : StOk s t) : ∀ k, (rowHs s t k).length = voices s
  | 0 => by
    show (List.zipWith _ _ _).length = _
    rw [List.length_zipWith, ht.hl, row_len h ht.pl ht.rw]; omega
  | k + 1 => by
    show (List.zipWith _ _ _).length = _
    rw [List.length_zipWith, rowHs_len h ht k, row_len h ht.pl ht.rw]; omega
end

end W

set_option Elab.async false
set_option linter.all false
set_option maxRecDepth 100000
set_option maxHeartbeats 1000000
/-! MW: while. -/
namespace W
open PySem L2 PL
theorem while_inv {c : Ev → Out Bool} {body : DS} (P : Nat → Ev → Prop) (hs : ∀ m ε, P m ε → c ε = .ok false ∨ (c ε = .ok true ∧ ∃ ε' m', body ε = .nx ε' ∧ P m' ε' ∧ m' < m)) :
    ∀ (n m : Nat) (ε : Ev), P m ε → m < n → ∃ ε' m', whileD c body n ε = .nx ε' ∧ P m' ε' ∧ c ε' = .ok false
  | 0, m, ε, _, hm => absurd hm (by omega)
  | n + 1, m, ε, hp, hm => by
    rcases hs m ε hp with h | ⟨h, ε1, m1, h1, h2, h3⟩
    · refine ⟨ε, m, ?_, hp, h⟩
      unfold whileD
      rw [h]
      rfl
    · obtain ⟨ε', m', e1, e2, e3⟩ := while_inv P hs n m1 ε1 h2 (by omega)
      refine ⟨ε', m', ?_, e2, e3⟩
      rw [← e1]
      conv => lhs; unfold whileD
      rw [h]
      simp [h1]
end W

set_option Elab.async false
set_option linter.all false
set_option maxRecDepth 100000
set_option maxHeartbeats 2000000
/-! MR: rows that play, one behind the other. -/
namespace W
open PySem L2 PL
theorem cut3 (a b c d e : D) : cut [a, b, c, d, e] none (some 3) = [a, b, c] := rfl
theorem cut2 (a b c d e : D) : cut [a, b, c, d, e] none (some 2) = [a, b] := rfl
theorem cut62 (a b c d e f : D) : cut [a, b, c, d, e, f] none (some 2) = [a, b] := rfl
theorem cut_take (xs : List D) (n : Nat) : cut xs none (some (n : Int)) = xs.take n := by
  unfold cut
  rw [HT.sIx_none, HT.sIx_nat, List.drop_zero, Nat.sub_zero]
  by_cases h : n ≤ xs.length
  · rw [Nat.min_eq_left h]
  · rw [Nat.min_eq_right (by omega), List.take_of_length_le (Nat.le_refl _), List.take_of_length_le (by omega)]
theorem lim6 : (6 ≤ LIM) = True := eq_true (by decide)
theorem tru_bl (b : Bool) : tru (.bl b) = some b := rfl
theorem hear_get (s : Song) (t : Stt) : ∀ (n k : Nat), k < n → (hear s n t)[k]? = some (run s (k + 1) t).hs
  | 0, _, h => absurd h (by omega)
  | n + 1, 0, _ => rfl
  | n + 1, k + 1, h => hear_get s (nextS s t) n k (by omega)
theorem hear_take (s : Song) (t : Stt) {m n : Nat} (h : m ≤ n) : (hear s n t).take m = hear s m t := by
  obtain ⟨k, rfl⟩ : ∃ k, n = m + k := ⟨n - m, by omega⟩
  rw [hear_add, List.take_append_of_le_length (by rw [hear_len]; omega), List.take_of_length_le (by rw [hear_len]; omega)]
theorem enum_item' {α : Type} {f : α → D} {r : List α} {i : Nat} {d : D} (h : (enumD 0 (r.map f))[i]? = some d) : ∃ b, r[i]? = some b ∧ d = .tup [.int (i : Nat), f b] := by
  rw [enumD_get, List.getElem?_map] at h
  cases hb : r[i]? with
  | none => rw [hb] at h; cases h
  | some b =>
    rw [hb, Nat.zero_add] at h
    cases h
    exact ⟨b, rfl, rfl⟩
def rowMo (s : Song) : Nat → Nat
  | 0 => 0
  | k + 1 => rowMo s k + (spAt s (run s (rowMo s k) (firstS s))).toNat
def rowSt (s : Song) (k : Nat) : Stt := run s (rowMo s k) (firstS s)
def rowN (s : Song) (k : Nat) : Nat := (spAt s (rowSt s k)).toNat
section
variable {s : Song}
theorem rowMo_succ (k : Nat) : rowMo s (k + 1) = rowMo s k + rowN s k := rfl
theorem rowSt_succ (k : Nat) : rowSt s (k + 1) = run s (rowN s k) (rowSt s k) := by
  unfold rowSt
  rw [rowMo_succ, run_add]
  try rfl
theorem rowSt_ok (h : WF s) (k : Nat) : StOk s (rowSt s k) := run_ok h _ (first_ok h)
theorem rowSt_sp (h : WF s) (k : Nat) : SpOk (rowSt s k) := sp_run h _ (first_ok h) (sp_first h)
theorem rowN_le (h : WF s) (k : Nat) : 1 ≤ rowN s k ∧ rowN s k ≤ 4 := by
  have := spAt_ok h (rowSt_ok h k) (rowSt_sp h k)
  unfold rowN
  omega
theorem rowN_sp (h : WF s) (k : Nat) : spAt s (rowSt s k) = (rowN s k : Int) := by
  have := spAt_ok h (rowSt_ok h k) (rowSt_sp h k)
  unfold rowN
  omega
theorem rowSt_m0 (h : WF s) : ∀ k : Nat, (rowSt s k).moment = 0
  | 0 => rfl
  | k + 1 => by
    rw [rowSt_succ]
    exact run_moment0 (rowSt_m0 h k) (rowN_sp h k) (rowN_le h k).1
theorem rowMo_ge (h : WF s) : ∀ k : Nat, k ≤ rowMo s k
  | 0 => Nat.le_refl _
  | k + 1 => by
    have := rowMo_ge h k
    have := rowN_le h k
    rw [rowMo_succ]
    omega
/-- inside a row -/
theorem row_in (h : WF s) (k i : Nat) (hi : i < rowN s k) : (run s i (rowSt s k)).moment = i ∧ (run s i (rowSt s k)).place = (rowSt s k).place ∧ (run s i (rowSt s k)).row = (rowSt s k).row := by
  cases i with
  | zero => exact ⟨rowSt_m0 h k, rfl, rfl⟩
  | succ i => rw [run_in (rowSt_m0 h k) (rowN_sp h k) i hi]; exact ⟨rfl, rfl, rfl⟩
theorem adv (h : WF s) {K i : Nat} (many : Nat) (hi : i < rowN s K) (hK : K < many) : ∃ K' i', run s (i + 1) (rowSt s K) = run s i' (rowSt s K') ∧ i' < rowN s K' ∧ (if i' = 0 then K' else K' + 1) = K + 1 ∧ rowMo s K + i + 1 = rowMo s K' + i' ∧ 5 * (many + 1 - K') - i' < 5 * (many + 1 - K) - i := by
  have hn := rowN_le h K
  by_cases hl : i + 1 < rowN s K
  · exact ⟨K, i + 1, rfl, hl, by rw [if_neg (by omega)], by omega, by omega⟩
  · have e : i + 1 = rowN s K := by omega
    refine ⟨K + 1, 0, ?_, by have := rowN_le h (K + 1); omega, by rw [if_pos rfl], by rw [rowMo_succ]; omega, by omega⟩
    rw [e, rowSt_succ]
    rfl
theorem rowSt_run (k i : Nat) : run s (rowMo s k + i) (firstS s) = run s i (rowSt s k) := run_add ..
end
end W

set_option Elab.async false
set_option linter.all false
set_option maxRecDepth 100000
set_option maxHeartbeats 2000000
/-! MP0: rows_played, the mathematics. -/
namespace W
open PySem L2 PL
def encPR (t : Stt) : D := .tup [.int t.place, .int t.row]
def rowsL (s : Song) (n : Nat) : List D := (List.range n).map fun k => encPR (rowSt s k)
theorem rowsL_len (s : Song) (n : Nat) : (rowsL s n).length = n := by simp [rowsL]
theorem rowsL_succ (s : Song) (n : Nat) : rowsL s (n + 1) = rowsL s n ++ [encPR (rowSt s n)] := by simp [rowsL, List.range_succ]
end W

set_option Elab.async false
set_option linter.all false
set_option maxRecDepth 100000
set_option maxHeartbeats 2000000
/-! MZ: straightened, the mathematics. -/
namespace W
open PySem L2 PL
def plainDeed : Option (Wd × Int) → Option (Wd × Int)
  | some (.jump, _) => none
  | some (.skip, _) => none
  | some (.again, _) => none
  | d => d
def plainBox (b : Box) : Box := { b with deed := plainDeed b.deed }
def plainRow (r : Row) : Row := r.map plainBox
def rowK (s : Song) (k : Nat) : Row := rowAt s (rowSt s k).place (rowSt s k).row
def rowsP (s : Song) (m : Nat) : List Row := (List.range m).map fun k => plainRow (rowK s k)
def cntP (m : Nat) : Nat := (m + 5) / 6
def chunk (s : Song) (m j : Nat) : Pat := ((rowsP s m).drop (6 * j)).take 6
def strS (s : Song) (m : Nat) : Song := ⟨s.speed, List.range (cntP m), (List.range (cntP m)).map (chunk s m)⟩
theorem rowsP_len (s : Song) (m : Nat) : (rowsP s m).length = m := by simp [rowsP]
theorem rowsP_get (s : Song) {m k : Nat} (h : k < m) : (rowsP s m)[k]? = some (plainRow (rowK s k)) := by
  unfold rowsP
  rw [List.getElem?_map, List.getElem?_range h]
  rfl
theorem chunk_len (s : Song) (m j : Nat) : (chunk s m j).length = min 6 (m - 6 * j) := by simp [chunk, rowsP_len]
theorem chunk_get (s : Song) {m j i : Nat} (hi : i < 6) (h : 6 * j + i < m) : (chunk s m j)[i]? = some (plainRow (rowK s (6 * j + i))) := by
  unfold chunk
  rw [List.getElem?_take_of_lt hi, List.getElem?_drop, rowsP_get s h]
theorem cnt_lt {m j : Nat} : j < cntP m ↔ 6 * j < m := by unfold cntP; omega
section
variable {s : Song} {m : Nat}
theorem str_pat {j : Nat} (h : j < cntP m) : patAt (strS s m) j = chunk s m j := by
  unfold patAt strS
  simp [List.getD_eq_getElem?_getD, List.getElem?_range h, List.getElem?_map]
theorem str_row {k : Nat} (h : k < m) : rowAt (strS s m) (k / 6) (k % 6) = plainRow (rowK s k) := by
  have hj : k / 6 < cntP m := cnt_lt.mpr (by omega)
  unfold rowAt
  rw [str_pat hj, List.getD_eq_getElem?_getD, chunk_get s (by omega) (by omega)]
  rw [show 6 * (k / 6) + k % 6 = k by omega]
  rfl
theorem rowK_mem (h : WF s) (k : Nat) : ∃ p ∈ s.pats, rowK s k ∈ p := by
  have ho := rowSt_ok h k
  obtain ⟨_, _, _, hm⟩ := pat_get h ho.pl
  exact ⟨_, hm, (row_get ho.rw).2⟩
theorem rowK_len (h : WF s) (k : Nat) : (rowK s k).length = voices s := by
  obtain ⟨p, hp, hr⟩ := rowK_mem h k
  exact h.rl p hp _ hr
theorem plain_ok {n n' : Nat} {b : Box} (h : BoxOk n b) : BoxOk n' (plainBox b) := by
  refine ⟨h.snd, fun w k e => ?_⟩
  rcases b with ⟨x, _ | ⟨v, i⟩⟩
  · cases e
  · cases v with
    | jump => cases e
    | skip => cases e
    | again => cases e
    | speed => cases e; exact h.deed _ _ rfl
    | slide => cases e; exact h.deed _ _ rfl
theorem chunk_mem {j : Nat} {r : Row} (h : r ∈ chunk s m j) : ∃ k, k < m ∧ r = plainRow (rowK s k) := by
  have := List.mem_of_mem_drop (List.mem_of_mem_take h)
  obtain ⟨k, hk, rfl⟩ := List.mem_map.mp this
  exact ⟨k, List.mem_range.mp hk, rfl⟩
theorem str_voices (h : WF s) (hm : 1 ≤ m) : voices (strS s m) = voices s := by
  have h0 : 0 < cntP m := cnt_lt.mpr (by omega)
  have e : (strS s m).pats[0]? = some (chunk s m 0) := by
    unfold strS
    rw [List.getElem?_map, List.getElem?_range h0]
    rfl
  have e2 := chunk_get s (m := m) (j := 0) (i := 0) (by omega) (by omega)
  have e3 : (strS s m).pats.headD [] = chunk s m 0 := by
    rw [List.headD_eq_head?_getD, List.head?_eq_getElem?, e]
    rfl
  have e4 : (chunk s m 0).headD [] = plainRow (rowK s 0) := by
    rw [List.headD_eq_head?_getD, List.head?_eq_getElem?, e2]
    rfl
  unfold voices
  rw [e3, e4]
  unfold plainRow
  rw [List.length_map]
  exact rowK_len h 0
theorem str_wf (h : WF s) (hm : 1 ≤ m ∧ m ≤ 36) : WF (strS s m) := by
  have hc : 1 ≤ cntP m ∧ cntP m ≤ 6 := by unfold cntP; omega
  have hp : ∀ p ∈ (strS s m).pats, ∃ j, j < cntP m ∧ p = chunk s m j := by
    intro p hp
    obtain ⟨j, hj, rfl⟩ := List.mem_map.mp hp
    exact ⟨j, List.mem_range.mp hj, rfl⟩
  refine ⟨h.sp, ?_, ?_, ?_, ?_, ?_, ?_, ?_⟩
  · simpa [strS] using hc
  · intro k hk
    simpa [strS] using hk
  · simpa [strS] using hc
  · intro p hpp
    obtain ⟨j, hj, rfl⟩ := hp p hpp
    have := cnt_lt.mp hj
    rw [chunk_len]
    omega
  · rw [str_voices h hm.1]; exact h.nv
  · intro p hpp r hr
    obtain ⟨j, hj, rfl⟩ := hp p hpp
    obtain ⟨k, hk, rfl⟩ := chunk_mem hr
    rw [str_voices h hm.1]
    unfold plainRow
    rw [List.length_map]
    exact rowK_len h k
  · intro p hpp r hr b hb
    obtain ⟨j, hj, rfl⟩ := hp p hpp
    obtain ⟨k, hk, rfl⟩ := chunk_mem hr
    obtain ⟨b', hb', rfl⟩ := List.mem_map.mp hb
    obtain ⟨p', hp', hr'⟩ := rowK_mem h k
    exact plain_ok (h.bx p' hp' _ hr' b' hb')
/-! ### how it plays -/
theorem plain_last (w : Wd) (hw : w = .speed ∨ w = .slide) : ∀ (r : Row) (f : Option Int), (plainRow r).foldl (lastStep w) f = r.foldl (lastStep w) f
  | [], _ => rfl
  | b :: r, f => by
    have e : lastStep w f (plainBox b) = lastStep w f b := by
      rcases b with ⟨x, _ | ⟨v, i⟩⟩
      · rfl
      · rcases hw with rfl | rfl <;> cases v <;> rfl
    have := plain_last w hw r (lastStep w f b)
    unfold plainRow at this ⊢
    rw [List.map_cons, List.foldl_cons, List.foldl_cons, e, this]
theorem plain_none (w : Wd) (hw : w = .jump ∨ w = .skip ∨ w = .again) : ∀ (r : Row) (f : Option Int), (plainRow r).foldl (lastStep w) f = f
  | [], _ => rfl
  | b :: r, f => by
    have e : lastStep w f (plainBox b) = f := by
      rcases b with ⟨x, _ | ⟨v, i⟩⟩
      · rfl
      · rcases hw with rfl | rfl | rfl <;> cases v <;> rfl
    have := plain_none w hw r f
    unfold plainRow at this ⊢
    rw [List.map_cons, List.foldl_cons, e, this]
theorem plain_zip {f : Option Int → Box → Option Int} (hf : ∀ h b, f h (plainBox b) = f h b) : ∀ (hs : List (Option Int)) (r : Row), List.zipWith f hs (plainRow r) = List.zipWith f hs r
  | [], _ => by simp
  | _ :: _, [] => by simp [plainRow]
  | h :: hs, b :: r => by
    have := plain_zip hf hs r
    unfold plainRow at this ⊢
    rw [List.map_cons, List.zipWith_cons_cons, List.zipWith_cons_cons, this, hf]
theorem plain_struck (h : Option Int) (b : Box) : struckS h (plainBox b) = struckS h b := rfl
theorem plain_slid (h : Option Int) (b : Box) : slidS h (plainBox b) = slidS h b := by
  rcases b with ⟨x, _ | ⟨v, i⟩⟩
  · rfl
  · cases h with
    | none => rfl
    | some j => cases v <;> rfl
def strT (s : Song) (k : Nat) : Stt := ⟨k / 6, k % 6, 0, 0, (rowSt s k).speed, (rowSt s k).hs⟩
theorem str_hs {k : Nat} (hk : k < m) : ∀ i, rowHs (strS s m) (strT s k) i = rowHs s (rowSt s k) i
  | 0 => by
    show List.zipWith struckS (rowSt s k).hs (rowAt (strS s m) (k / 6) (k % 6)) = _
    rw [str_row hk, plain_zip plain_struck]
    rfl
  | i + 1 => by
    show List.zipWith slidS (rowHs (strS s m) (strT s k) i) (rowAt (strS s m) (k / 6) (k % 6)) = _
    rw [str_hs hk i, str_row hk, plain_zip plain_slid]
    rfl
theorem str_sp (h : WF s) {k : Nat} (hk : k < m) : spAt (strS s m) (strT s k) = spAt s (rowSt s k) := by
  have e0 := rowSt_m0 h k
  unfold spAt
  rw [show (strT s k).moment = 0 from rfl, if_pos rfl, if_pos e0]
  show (lastBy (rowAt (strS s m) (k / 6) (k % 6)) .speed).getD (rowSt s k).speed = _
  rw [str_row hk]
  unfold lastBy
  rw [plain_last .speed (.inl rfl)]
  rfl
theorem str_next (h : WF s) {k : Nat} (hk : k + 1 < m) : run (strS s m) (rowN s k) (strT s k) = strT s (k + 1) := by
  have hk0 : k < m := by omega
  have hn := rowN_sp h k
  have hle := rowN_le h k
  have e1 := run_row (s := s) (rowSt_m0 h k) hn hle.1
  have e2 := run_row (s := strS s m) (t := strT s k) rfl ((str_sp h hk0).trans hn) hle.1
  have hsp : (rowSt s (k + 1)).speed = rowN s k := by rw [rowSt_succ, e1, stateOn_speed]
  have hhs : (rowSt s (k + 1)).hs = rowHs s (rowSt s k) (rowN s k - 1) := by rw [rowSt_succ, e1, stateOn_hs]
  rw [e2]
  unfold stateOn
  have hr : rowAt (strS s m) (strT s k).place (strT s k).row = plainRow (rowK s k) := str_row hk0
  dsimp only
  rw [hr]
  have ha : lastBy (plainRow (rowK s k)) .again = none := plain_none .again (.inr (.inr rfl)) _ _
  have hj : lastBy (plainRow (rowK s k)) .jump = none := plain_none .jump (.inl rfl) _ _
  have hp : lastBy (plainRow (rowK s k)) .skip = none := plain_none .skip (.inr (.inl rfl)) _ _
  rw [ha]
  dsimp only
  have hpb : placeBehind (strS s m) (k / 6) (k % 6) = ((k + 1) / 6, (k + 1) % 6) := by
    have hjc : k / 6 < cntP m := cnt_lt.mpr (by omega)
    unfold placeBehind
    rw [show rowAt (strS s m) (k / 6) (k % 6) = plainRow (rowK s k) from str_row hk0, hj, hp]
    dsimp only
    rw [str_pat hjc, chunk_len]
    by_cases hc : k % 6 + 1 < min 6 (m - 6 * (k / 6))
    · rw [if_pos hc]
      have e1 : (k + 1) / 6 = k / 6 := by omega
      have e2 : (k + 1) % 6 = k % 6 + 1 := by omega
      rw [e1, e2]
    · rw [if_neg hc]
      have e1 : (k + 1) / 6 = k / 6 + 1 := by omega
      have e2 : (k + 1) % 6 = 0 := by omega
      have e3 : (strS s m).order.length = cntP m := by simp [strS]
      have e4 : k / 6 + 1 < cntP m := cnt_lt.mpr (by omega)
      rw [e1, e2, e3, Nat.mod_eq_of_lt e4]
  show (⟨(placeBehind (strS s m) (k / 6) (k % 6)).1, (placeBehind (strS s m) (k / 6) (k % 6)).2, 0, 0, (rowN s k : Int), rowHs (strS s m) (strT s k) (rowN s k - 1)⟩ : Stt) = _
  rw [hpb, str_hs hk0, ← hhs, ← hsp]
  rfl
theorem str_first (h : WF s) (hm : 1 ≤ m) : firstS (strS s m) = strT s 0 := by
  unfold firstS strT
  rw [str_voices h hm]
  rfl
theorem str_rows (h : WF s) (hm : 1 ≤ m) : ∀ k, k < m → rowMo (strS s m) k = rowMo s k ∧ rowSt (strS s m) k = strT s k
  | 0, _ => ⟨rfl, str_first h hm⟩
  | k + 1, hk => by
    obtain ⟨e1, e2⟩ := str_rows h hm k (by omega)
    have en : rowN (strS s m) k = rowN s k := by
      unfold rowN
      rw [e2, str_sp h (by omega)]
    exact ⟨by rw [rowMo_succ, rowMo_succ, e1, en], by rw [rowSt_succ, en, e2, str_next h hk]⟩
theorem str_hear (h : WF s) (hm : 1 ≤ m) : ∀ k, k ≤ m → hear (strS s m) (rowMo s k) (firstS (strS s m)) = hear s (rowMo s k) (firstS s)
  | 0, _ => rfl
  | k + 1, hk => by
    obtain ⟨e1, e2⟩ := str_rows h hm k (by omega)
    have hk0 : k < m := by omega
    rw [rowMo_succ, hear_add, hear_add, str_hear h hm k (by omega)]
    congr 1
    have a1 : run (strS s m) (rowMo s k) (firstS (strS s m)) = strT s k := by rw [← e1]; exact e2
    have a2 : run s (rowMo s k) (firstS s) = rowSt s k := rfl
    rw [a1, a2, hear_row (s := strS s m) (t := strT s k) rfl ((str_sp h hk0).trans (rowN_sp h k)) _ (Nat.le_refl _), hear_row (s := s) (rowSt_m0 h k) (rowN_sp h k) _ (Nat.le_refl _)]
    apply List.map_congr_left
    intro i _
    exact str_hs hk0 i
end
end W

set_option Elab.async false
set_option linter.all false
set_option maxRecDepth 100000
set_option maxHeartbeats 1000000
/-! MH0: lists of heights. -/
namespace W
open PySem L2 PL
def encHss (l : List (List (Option Int))) : D := .lst (l.map encHs)
theorem pl_encHss (l : List (List (Option Int))) : pl 2 (encHss l) = true := pl_hss l
theorem e_hs (t : Stt) : oIx (encStt t) (.int 5) = some (encHs t.hs) := by simp [encStt]
end W

set_option Elab.async false
set_option linter.all false
set_option maxRecDepth 100000
set_option maxHeartbeats 1000000
/-! MSo0: songs made for heights, the mathematics. -/
namespace W
open PySem L2 PL
abbrev Hs1 := List (Option Int)
def pI (p : Hs1) (k : Nat) : Int := (p.getD k none).getD 0
def wrap6 (x : Int) : Int := if 6 < x then x - 12 else x
def slideFor (p : Hs1) : Option Int :=
  if p.any Option.isNone then (if p.all Option.isNone then some 0 else none)
  else if p.length = 1 then some 0
  else if (List.range p.length).all (fun k => decide (pI p k = (pI p 0 + wrap6 ((pI p 1 - pI p 0) % 12) * k) % 12)) then some (wrap6 ((pI p 1 - pI p 0) % 12)) else none
def partOf (hs : List Hs1) (at_ many u : Nat) : Hs1 := (List.range many).map fun k => (hs.getD (at_ + k) []).getD u none
def sndOf : Option Int → Snd
  | none => .off
  | some x => .h x
def boxFor (p : Hs1) : Option Box := (slideFor p).map fun b => ⟨sndOf (p.getD 0 none), if b = 0 then none else some (.slide, b)⟩
def allB : List (Option Box) → Option Row
  | [] => some []
  | none :: _ => none
  | some b :: l => (allB l).map (b :: ·)
def madeFor (hs : List Hs1) (at_ many : Nat) : Option Row := allB ((List.range (hs.getD at_ []).length).map fun u => boxFor (partOf hs at_ many u))
def putSp (m : Nat) : Row → Option Row
  | [] => none
  | b :: r => if b.deed = none then some (⟨b.snd, some (.speed, m)⟩ :: r) else (putSp m r).map (b :: ·)
def boxesFor (hs : List Hs1) (at_ many sp : Nat) : Option Row := (madeFor hs at_ many).bind fun r => if many = sp then some r else putSp many r
def Fit (hs : List Hs1) : Nat → Nat → List Row → Prop
  | at_, _, [] => at_ = hs.length
  | at_, sp, row :: rest => ∃ many, (1 ≤ many ∧ many ≤ 4) ∧ at_ + many ≤ hs.length ∧ boxesFor hs at_ many sp = some row ∧ Fit hs (at_ + many) many rest
/-- heights that can be -/
structure HsG (hs : List Hs1) (v : Nat) : Prop where
  hn : 1 ≤ hs.length
  hv : 1 ≤ v ∧ v ≤ 3
  l : ∀ x ∈ hs, x.length = v
  o : ∀ x ∈ hs, ∀ h ∈ x, ∀ i, h = some i → 0 ≤ i ∧ i < 12
section
variable {hs : List Hs1} {v : Nat}
theorem HsG.get (g : HsG hs v) {k : Nat} (hk : k < hs.length) : (hs.getD k []).length = v ∧ ∀ u i, (hs.getD k []).getD u none = some i → 0 ≤ i ∧ i < 12 := by
  have e : hs.getD k [] = hs[k] := by rw [List.getD_eq_getElem?_getD, List.getElem?_eq_getElem hk]; rfl
  rw [e]
  refine ⟨g.l _ (List.getElem_mem hk), fun u i h => ?_⟩
  rw [List.getD_eq_getElem?_getD] at h
  cases hx : hs[k][u]? with
  | none => rw [hx] at h; cases h
  | some z =>
    rw [hx] at h
    exact g.o _ (List.getElem_mem hk) z (List.mem_of_getElem? hx) i h
theorem part_len (hs : List Hs1) (a m u : Nat) : (partOf hs a m u).length = m := by simp [partOf]
theorem part_get (hs : List Hs1) {a m u k : Nat} (hk : k < m) : (partOf hs a m u).getD k none = (hs.getD (a + k) []).getD u none := by
  unfold partOf
  rw [List.getD_eq_getElem?_getD, List.getElem?_map, List.getElem?_range hk]
  rfl
theorem part_ok (g : HsG hs v) {a m u : Nat} (ham : a + m ≤ hs.length) {k : Nat} (hk : k < m) : ∀ i, (partOf hs a m u).getD k none = some i → 0 ≤ i ∧ i < 12 := fun i h => by
  rw [part_get hs hk] at h
  exact (g.get (k := a + k) (by omega)).2 u i h
/-! ### what a slide gives -/
def itS (b : Int) : Nat → Option Int → Option Int
  | 0, x => x
  | k + 1, x => (itS b k x).map fun i => (i + b) % 12
theorem itS_none (b : Int) : ∀ k, itS b k none = none
  | 0 => rfl
  | k + 1 => by rw [itS, itS_none b k]; rfl
theorem itS_some (b x : Int) (hx : 0 ≤ x ∧ x < 12) : ∀ k : Nat, itS b k (some x) = some ((x + b * k) % 12)
  | 0 => by
    show some x = _
    congr 1
    simp
    omega
  | k + 1 => by
    rw [itS, itS_some b x hx k]
    show some (((x + b * k) % 12 + b) % 12) = _
    congr 1
    rw [show x + b * ((k + 1 : Nat) : Int) = (x + b * k) + b by rw [Int.natCast_add]; simp [Int.mul_add]; omega]
    omega
theorem any_isNone {p : Hs1} (h : p.any Option.isNone = false) : ∀ k, k < p.length → ∃ i, p.getD k none = some i := fun k hk => by
  have e : p.getD k none = p[k] := by rw [List.getD_eq_getElem?_getD, List.getElem?_eq_getElem hk]; rfl
  rw [e]
  cases hx : p[k] with
  | some i => exact ⟨i, rfl⟩
  | none =>
    have := List.any_eq_false.mp h p[k] (List.getElem_mem hk)
    rw [hx] at this
    exact absurd rfl this
theorem all_isNone {p : Hs1} (h : p.all Option.isNone = true) : ∀ k, p.getD k none = none := fun k => by
  rw [List.getD_eq_getElem?_getD]
  cases hx : p[k]? with
  | none => rfl
  | some z =>
    have := List.all_eq_true.mp h z (List.mem_of_getElem? hx)
    cases z with
    | none => rfl
    | some i => cases this
theorem wrap_bd {x : Int} : -5 ≤ wrap6 (x % 12) ∧ wrap6 (x % 12) ≤ 6 := by
  unfold wrap6
  split <;> omega
/-- a slide that is told sounds the part -/
theorem slide_plays {p : Hs1} {b : Int} (hp : ∀ k i, p.getD k none = some i → 0 ≤ i ∧ i < 12) (h : slideFor p = some b) : (-5 ≤ b ∧ b ≤ 6) ∧ ∀ k, k < p.length → p.getD k none = itS b k (p.getD 0 none) := by
  unfold slideFor at h
  split at h
  · split at h
    · rename_i ha
      cases h
      refine ⟨by omega, fun k _ => ?_⟩
      rw [all_isNone ha, all_isNone ha, itS_none]
    · cases h
  · rename_i hn
    have hn : p.any Option.isNone = false := by cases z : p.any Option.isNone with | false => rfl | true => exact absurd z hn
    split at h
    · rename_i h1
      cases h
      refine ⟨by omega, fun k hk => ?_⟩
      rw [show k = 0 by omega]
      rfl
    · rename_i h1
      split at h
      · rename_i ha
        cases h
        refine ⟨wrap_bd, fun k hk => ?_⟩
        obtain ⟨i, hi⟩ := any_isNone hn k hk
        obtain ⟨x, hx⟩ := any_isNone hn 0 (by omega)
        have ho := hp 0 x hx
        have hk' := List.all_eq_true.mp ha k (List.mem_range.mpr hk)
        rw [decide_eq_true_eq] at hk'
        have ei : pI p k = i := by unfold pI; rw [hi]; rfl
        have ex : pI p 0 = x := by unfold pI; rw [hx]; rfl
        rw [hi, hx, itS_some _ x ho, ← ei, hk', ex]
      · cases h
/-- .. and one that sounds it is told -/
theorem slide_found {p : Hs1} {c : Int} (h4 : 1 ≤ p.length ∧ p.length ≤ 4) (hc : -6 ≤ c ∧ c ≤ 6) (hp : ∀ i, p.getD 0 none = some i → 0 ≤ i ∧ i < 12) (h : ∀ k, k < p.length → p.getD k none = itS c k (p.getD 0 none)) : ∃ b, slideFor p = some b ∧ (c = 0 → b = 0) := by
  cases hx : p.getD 0 none with
  | none =>
    have hall : p.all Option.isNone = true := by
      rw [List.all_eq_true]
      intro z hz
      obtain ⟨k, hk, e⟩ := List.mem_iff_getElem.mp hz
      have := h k hk
      rw [hx, itS_none, List.getD_eq_getElem?_getD, List.getElem?_eq_getElem hk] at this
      have : p[k] = none := this
      rw [← e, this]
      rfl
    refine ⟨0, ?_, fun _ => rfl⟩
    unfold slideFor
    have hany : p.any Option.isNone = true := by
      rw [List.any_eq_true]
      exact ⟨p[0], List.getElem_mem (by omega), List.all_eq_true.mp hall _ (List.getElem_mem (by omega))⟩
    rw [if_pos hany, if_pos hall]
  | some x =>
    have ho := hp x hx
    rw [hx] at h
    have hk : ∀ k, k < p.length → p.getD k none = some ((x + c * k) % 12) := fun k hk => by rw [h k hk, itS_some c x ho]
    have hany : p.any Option.isNone = false := by
      rw [List.any_eq_false]
      intro z hz
      obtain ⟨k, hkl, e⟩ := List.mem_iff_getElem.mp hz
      have := hk k hkl
      rw [List.getD_eq_getElem?_getD, List.getElem?_eq_getElem hkl] at this
      have : p[k] = some ((x + c * k) % 12) := this
      rw [← e, this]
      simp
    unfold slideFor
    rw [if_neg (by rw [hany]; simp)]
    by_cases h1 : p.length = 1
    · exact ⟨0, if_pos h1, fun _ => rfl⟩
    · rw [if_neg h1]
      have pk : ∀ k : Nat, k < p.length → pI p k = (x + c * k) % 12 := fun k hkl => by unfold pI; rw [hk k hkl]; rfl
      have p0 : pI p 0 = x := by
        have := pk 0 (by omega)
        simp at this
        omega
      have p1 : pI p 1 = (x + c) % 12 := by
        have := pk 1 (by omega)
        simpa using this
      have hb : wrap6 ((pI p 1 - pI p 0) % 12) = c ∨ (c = -6 ∧ wrap6 ((pI p 1 - pI p 0) % 12) = 6) := by
        rw [p0, p1]
        unfold wrap6
        split <;> omega
      generalize wrap6 ((pI p 1 - pI p 0) % 12) = b at *
      refine ⟨b, if_pos ?_, fun hc0 => by omega⟩
      rw [List.all_eq_true]
      intro k hkr
      have hkl := List.mem_range.mp hkr
      rw [decide_eq_true_eq, pk k hkl, p0]
      rcases hb with rfl | ⟨rfl, rfl⟩
      · rfl
      · have : k = 0 ∨ k = 1 ∨ k = 2 ∨ k = 3 := by omega
        rcases this with rfl | rfl | rfl | rfl <;> simp <;> omega
/-! ### rows for a part -/
theorem allB_some : ∀ {l : List (Option Box)} {r : Row}, allB l = some r → l = r.map some
  | [], r, h => by cases h; rfl
  | none :: l, r, h => by cases h
  | some b :: l, r, h => by
    unfold allB at h
    cases hl : allB l with
    | none => rw [hl] at h; cases h
    | some r' => rw [hl] at h; cases h; rw [List.map_cons, ← allB_some hl]
theorem allB_of : ∀ {l : List (Option Box)}, (∀ x ∈ l, x ≠ none) → ∃ r, allB l = some r
  | [], _ => ⟨[], rfl⟩
  | none :: l, h => absurd rfl (h none (List.mem_cons_self ..))
  | some b :: l, h => by
    obtain ⟨r, e⟩ := allB_of fun x hx => h x (List.mem_cons_of_mem _ hx)
    exact ⟨b :: r, by rw [allB, e]; rfl⟩
theorem made_get {a m : Nat} {r : Row} (h : madeFor hs a m = some r) : r.length = (hs.getD a []).length ∧ ∀ u, u < r.length → ∃ b, r[u]? = some b ∧ boxFor (partOf hs a m u) = some b := by
  have e := allB_some h
  have hl : (hs.getD a []).length = r.length := by
    have := congrArg List.length e
    simpa using this
  refine ⟨hl.symm, fun u hu => ?_⟩
  have h1 : ((List.range (hs.getD a []).length).map fun u => boxFor (partOf hs a m u))[u]? = (r.map some)[u]? := by rw [e]
  rw [List.getElem?_map, List.getElem?_range (by omega), List.getElem?_map, List.getElem?_eq_getElem hu] at h1
  exact ⟨r[u], List.getElem?_eq_getElem hu, by simpa using h1⟩
/-- no deed, or a slide; a speed somewhere else -/
def Bare (r : Row) : Prop := ∀ b ∈ r, b.deed = none ∨ ∃ n, b.deed = some (.slide, n)
theorem made_bare {a m : Nat} {r : Row} (h : madeFor hs a m = some r) : Bare r := fun b hb => by
  obtain ⟨u, hu, e⟩ := List.mem_iff_getElem.mp hb
  obtain ⟨b', h1, h2⟩ := (made_get h).2 u hu
  rw [List.getElem?_eq_getElem hu, e] at h1
  cases h1
  unfold boxFor at h2
  cases hs' : slideFor (partOf hs a m u) with
  | none => rw [hs'] at h2; cases h2
  | some c =>
    rw [hs'] at h2
    cases h2
    dsimp only
    split
    · exact .inl rfl
    · exact .inr ⟨c, rfl⟩
theorem last_bare {r : Row} (h : Bare r) {w : Wd} (hw : w ≠ .slide) : lastBy r w = none := by
  cases e : lastBy r w with
  | none => rfl
  | some n =>
    rcases last_mem _ _ _ e with z | ⟨b, hb, hd⟩
    · cases z
    · rcases h b hb with q | ⟨k, q⟩ <;> rw [q] at hd <;> cases hd
      exact absurd rfl hw
theorem put_get {m : Nat} : ∀ {r r' : Row}, putSp m r = some r' → ∃ u b, r[u]? = some b ∧ b.deed = none ∧ r' = r.set u ⟨b.snd, some (.speed, m)⟩
  | [], _, h => by cases h
  | b :: r, r', h => by
    unfold putSp at h
    split at h
    · rename_i hd
      cases h
      exact ⟨0, b, rfl, hd, rfl⟩
    · cases hp : putSp m r with
      | none => rw [hp] at h; cases h
      | some r2 =>
        rw [hp] at h
        cases h
        obtain ⟨u, b', h1, h2, h3⟩ := put_get hp
        exact ⟨u + 1, b', by simpa using h1, h2, by rw [h3]; rfl⟩
theorem put_of {m : Nat} : ∀ {r : Row}, (∃ b ∈ r, b.deed = none) → ∃ r', putSp m r = some r'
  | [], h => by obtain ⟨b, hb, _⟩ := h; cases hb
  | b :: r, h => by
    unfold putSp
    by_cases hd : b.deed = none
    · exact ⟨_, if_pos hd⟩
    · rw [if_neg hd]
      obtain ⟨b', hb', hd'⟩ := h
      rcases List.mem_cons.mp hb' with rfl | hb'
      · exact absurd hd' hd
      · obtain ⟨r', e⟩ := put_of (m := m) ⟨b', hb', hd'⟩
        exact ⟨b :: r', by rw [e]; rfl⟩
theorem fold_set {w : Wd} {m : Int} : ∀ {r : Row} {u : Nat} {b : Box}, Bare r → r[u]? = some b → w ≠ .slide → ∀ f, (r.set u ⟨b.snd, some (w, m)⟩).foldl (lastStep w) f = some m
  | [], _, _, _, h, _, _ => by simp at h
  | c :: r, 0, b, hb, _, hw, f => by
    rw [List.set_cons_zero, List.foldl_cons]
    have h1 : lastStep w f ⟨b.snd, some (w, m)⟩ = some m := by simp [lastStep]
    rw [h1]
    have hb' : ∀ b ∈ r, b.deed = none ∨ ∃ n, b.deed = some (.slide, n) := fun x hx => hb x (List.mem_cons_of_mem _ hx)
    clear h1
    induction r with
    | nil => rfl
    | cons d r ih =>
      rw [List.foldl_cons]
      have h2 : lastStep w (some m) d = some m := by
        rcases hb' d (List.mem_cons_self ..) with q | ⟨n, q⟩
        · simp [lastStep, q]
        · simp [lastStep, q, hw.symm]
      rw [h2]
      exact ih (fun x hx => by rcases List.mem_cons.mp hx with rfl | hx; exact hb _ (List.mem_cons_self ..); exact hb _ (List.mem_cons_of_mem _ (List.mem_cons_of_mem _ hx))) (by assumption) fun x hx => hb' x (List.mem_cons_of_mem _ hx)
  | c :: r, u + 1, b, hb, h, hw, f => by
    rw [List.set_cons_succ, List.foldl_cons]
    exact fold_set (fun x hx => hb x (List.mem_cons_of_mem _ hx)) (by simpa using h) hw _
theorem fold_other {w w' : Wd} {m : Int} (hw : w ≠ w') : ∀ {r : Row} {u : Nat} {b : Box}, r[u]? = some b → b.deed = none → ∀ f, (r.set u ⟨b.snd, some (w', m)⟩).foldl (lastStep w) f = r.foldl (lastStep w) f
  | [], _, _, h, _, _ => by simp at h
  | c :: r, 0, b, h, hd, f => by
    cases h
    rw [List.set_cons_zero, List.foldl_cons, List.foldl_cons]
    congr 1
    simp [lastStep, hd, hw.symm]
  | c :: r, u + 1, b, h, hd, f => by
    rw [List.set_cons_succ, List.foldl_cons, List.foldl_cons]
    exact fold_other hw (by simpa using h) hd _
/-- what a row made for a part is -/
structure RowFor (hs : List Hs1) (a m sp : Nat) (r : Row) : Prop where
  len : r.length = (hs.getD a []).length
  bx : ∀ u, u < r.length → ∃ (b : Box) (c : Int), r[u]? = some b ∧ slideFor (partOf hs a m u) = some c ∧ b.snd = sndOf ((partOf hs a m u).getD 0 none) ∧ ((b.deed = none ∧ c = 0) ∨ (b.deed = some (Wd.slide, c)) ∨ (b.deed = some (Wd.speed, (m : Int)) ∧ c = 0))
  hsp : (lastBy r .speed).getD (sp : Int) = (m : Int)
  no : ∀ w, w ≠ .slide → w ≠ .speed → lastBy r w = none
theorem row_for {a m sp : Nat} {r : Row} (h : boxesFor hs a m sp = some r) : RowFor hs a m sp r := by
  unfold boxesFor at h
  cases hm : madeFor hs a m with
  | none => rw [hm] at h; cases h
  | some r0 =>
    rw [hm] at h
    have h : (if m = sp then some r0 else putSp m r0) = some r := h
    have hb := made_bare hm
    obtain ⟨hl, hg⟩ := made_get hm
    have box : ∀ u, u < r0.length → ∃ (b : Box) (c : Int), r0[u]? = some b ∧ slideFor (partOf hs a m u) = some c ∧ b.snd = sndOf ((partOf hs a m u).getD 0 none) ∧ ((b.deed = none ∧ c = 0) ∨ (b.deed = some (.slide, c))) := fun u hu => by
      obtain ⟨b, h1, h2⟩ := hg u hu
      unfold boxFor at h2
      cases hs' : slideFor (partOf hs a m u) with
      | none => rw [hs'] at h2; cases h2
      | some c =>
        rw [hs'] at h2
        cases h2
        refine ⟨_, c, h1, rfl, rfl, ?_⟩
        dsimp only
        by_cases hc : c = 0
        · exact .inl ⟨if_pos hc, hc⟩
        · exact .inr (if_neg hc)
    by_cases hms : m = sp
    · rw [if_pos hms] at h
      cases h
      refine ⟨hl, fun u hu => ?_, by rw [last_bare hb (by decide), hms]; rfl, fun w hw _ => last_bare hb hw⟩
      obtain ⟨b, c, h1, h2, h3, h4⟩ := box u hu
      exact ⟨b, c, h1, h2, h3, h4.elim .inl fun q => .inr (.inl q)⟩
    · rw [if_neg hms] at h
      obtain ⟨u0, b0, g1, g2, rfl⟩ := put_get h
      have hu0 := lt_of_get g1
      refine ⟨by rw [List.length_set]; exact hl, fun u hu => ?_, ?_, fun w hw hw' => ?_⟩
      · rw [List.length_set] at hu
        obtain ⟨b, c, h1, h2, h3, h4⟩ := box u hu
        by_cases hu' : u0 = u
        · subst hu'
          rw [g1] at h1
          cases h1
          refine ⟨_, c, List.getElem?_set_self hu, h2, h3, .inr (.inr ⟨rfl, ?_⟩)⟩
          rcases h4 with ⟨_, q⟩ | q
          · exact q
          · rw [g2] at q; cases q
        · rw [List.getElem?_set_ne hu']
          exact ⟨b, c, h1, h2, h3, h4.elim .inl fun q => .inr (.inl q)⟩
      · unfold lastBy
        rw [fold_set hb g1 (by decide)]
        rfl
      · unfold lastBy
        rw [fold_other hw' g1 g2]
        exact last_bare hb hw
end
end W

set_option Elab.async false
set_option linter.all false
set_option maxRecDepth 100000
set_option maxHeartbeats 1000000
/-! MSo1: songs made for heights sound them; none of their kind has fewer rows. -/
namespace W
open PySem L2 PL
section
variable {hs : List Hs1} {v : Nat}
theorem itS_zero {x : Option Int} (hx : ∀ i, x = some i → 0 ≤ i ∧ i < 12) : ∀ k, itS 0 k x = x := fun k => by
  cases x with
  | none => exact itS_none 0 k
  | some i =>
    rw [itS_some 0 i (hx i rfl)]
    have := hx i rfl
    congr 1
    simp
    omega
/-- a row made for a part sounds it -/
theorem row_sounds {s : Song} {t : Stt} {a m sp : Nat} {r : Row} (g : HsG hs v) (R : RowFor hs a m sp r) (ham : a + m ≤ hs.length) (h1 : 1 ≤ m) (hr : rowAt s t.place t.row = r) (hl : t.hs.length = v) : ∀ k, k < m → rowHs s t k = hs.getD (a + k) [] := by
  have hrv : r.length = v := by rw [R.len, (g.get (k := a) (by omega)).1]
  have one : ∀ u, u < v → ∀ k, k < m → (rowHs s t k)[u]? = some ((partOf hs a m u).getD k none) := by
    intro u hu
    obtain ⟨b, c, b1, b2, b3, b4⟩ := R.bx u (by omega)
    have po : ∀ i, (partOf hs a m u).getD 0 none = some i → 0 ≤ i ∧ i < 12 := part_ok g ham (by omega)
    obtain ⟨_, hp⟩ := slide_plays (p := partOf hs a m u) (fun k i hi => by
      by_cases hk : k < m
      · exact part_ok g ham hk i hi
      · rw [List.getD_eq_getElem?_getD, List.getElem?_eq_none (by rw [part_len]; omega)] at hi; cases hi) b2
    intro k
    induction k with
    | zero =>
      intro _
      show (List.zipWith struckS t.hs (rowAt s t.place t.row))[u]? = _
      rw [hr, List.getElem?_zipWith, List.getElem?_eq_getElem (by omega), b1]
      show some (struckS _ b) = _
      congr 1
      unfold struckS
      rw [b3]
      cases (partOf hs a m u).getD 0 none <;> rfl
    | succ k ih =>
      intro hk
      show (List.zipWith slidS (rowHs s t k) (rowAt s t.place t.row))[u]? = _
      rw [hr, List.getElem?_zipWith, ih (by omega), b1]
      show some (slidS _ b) = _
      congr 1
      rw [hp k (by rw [part_len]; omega), hp (k + 1) (by rw [part_len]; omega)]
      rcases b4 with ⟨q, q0⟩ | q | ⟨q, q0⟩
      · subst q0
        rw [itS_zero po, itS_zero po]
        unfold slidS
        rw [q]
        cases (partOf hs a m u).getD 0 none <;> rfl
      · unfold slidS
        rw [q, itS]
        cases itS c k ((partOf hs a m u).getD 0 none) <;> rfl
      · subst q0
        rw [itS_zero po, itS_zero po]
        unfold slidS
        rw [q]
        cases (partOf hs a m u).getD 0 none <;> rfl
  intro k hk
  obtain ⟨hlen, _⟩ := g.get (k := a + k) (by omega)
  have hrl : (rowHs s t k).length = v := by
    cases k with
    | zero => show (List.zipWith _ _ _).length = _; rw [List.length_zipWith, hr, hl, hrv]; omega
    | succ k =>
      have : ∀ k, (rowHs s t k).length = v := by
        intro k
        induction k with
        | zero => show (List.zipWith _ _ _).length = _; rw [List.length_zipWith, hr, hl, hrv]; omega
        | succ k ih => show (List.zipWith _ _ _).length = _; rw [List.length_zipWith, hr, ih, hrv]; omega
      exact this _
  apply List.ext_getElem?
  intro u
  by_cases hu : u < v
  · rw [one u hu k hk, part_get hs hk, List.getD_eq_getElem?_getD, List.getElem?_eq_getElem (by omega)]
    rfl
  · rw [List.getElem?_eq_none (by omega), List.getElem?_eq_none (by omega)]
end
/-! ### the song -/
def linS (sp : Nat) (rows : List Row) : Song := ⟨sp, List.range (cntP rows.length), (List.range (cntP rows.length)).map fun j => (rows.drop (6 * j)).take 6⟩
section
variable {rows : List Row} {sp : Nat}
theorem lin_pat {j : Nat} (h : j < cntP rows.length) : patAt (linS sp rows) j = (rows.drop (6 * j)).take 6 := by
  unfold patAt linS
  simp [List.getD_eq_getElem?_getD, List.getElem?_range h, List.getElem?_map]
theorem lin_row {k : Nat} (h : k < rows.length) : rowAt (linS sp rows) (k / 6) (k % 6) = rows[k] := by
  have hj : k / 6 < cntP rows.length := cnt_lt.mpr (by omega)
  unfold rowAt
  rw [lin_pat hj, List.getD_eq_getElem?_getD, List.getElem?_take_of_lt (by omega), List.getElem?_drop, show 6 * (k / 6) + k % 6 = k by omega, List.getElem?_eq_getElem h]
  rfl
theorem lin_plen {j : Nat} (h : j < cntP rows.length) : (patAt (linS sp rows) j).length = min 6 (rows.length - 6 * j) := by
  rw [lin_pat h]
  simp
theorem lin_voices {v : Nat} (h1 : 1 ≤ rows.length) (hv : ∀ r ∈ rows, r.length = v) : voices (linS sp rows) = v := by
  obtain ⟨r, rest, rfl⟩ : ∃ r rest, rows = r :: rest := by
    cases rows with
    | nil => simp at h1
    | cons r rest => exact ⟨r, rest, rfl⟩
  have h0 : 0 < cntP (r :: rest).length := cnt_lt.mpr (by simp)
  unfold voices linS
  obtain ⟨c, hc⟩ : ∃ c, cntP (r :: rest).length = c + 1 := ⟨cntP (r :: rest).length - 1, by omega⟩
  rw [hc, List.range_succ_eq_map]
  exact hv r (List.mem_cons_self ..)
theorem lin_mem {p : Pat} (hp : p ∈ (linS sp rows).pats) : ∀ r ∈ p, r ∈ rows := by
  obtain ⟨j, _, rfl⟩ := List.mem_map.mp hp
  exact fun r hr => List.mem_of_mem_drop (List.mem_of_mem_take hr)
theorem lin_wf {v : Nat} (h1 : 1 ≤ rows.length ∧ rows.length ≤ 36) (hs : 1 ≤ sp ∧ sp ≤ 4) (hv : 1 ≤ v ∧ v ≤ 3) (hl : ∀ r ∈ rows, r.length = v) (hb : ∀ r ∈ rows, ∀ b ∈ r, BoxOk 0 b) : WF (linS sp rows) := by
  have hc : 1 ≤ cntP rows.length ∧ cntP rows.length ≤ 6 := by unfold cntP; omega
  have el : (linS sp rows).order.length = cntP rows.length := by simp [linS]
  have ep : (linS sp rows).pats.length = cntP rows.length := by simp [linS]
  have vv : voices (linS sp rows) = v := lin_voices h1.1 hl
  refine ⟨?_, by rw [el]; exact hc, fun k hk => ?_, by rw [ep]; exact hc, fun p hp => ?_, by rw [vv]; exact hv, fun p hp r hr => ?_, fun p hp r hr b hbb => ?_⟩
  · show (1 : Int) ≤ sp ∧ (sp : Int) ≤ 4; omega
  · rw [ep]; exact List.mem_range.mp hk
  · obtain ⟨j, hj, rfl⟩ := List.mem_map.mp hp
    have := cnt_lt.mp (List.mem_range.mp hj)
    rw [List.length_take, List.length_drop]
    omega
  · rw [vv]; exact hl r (lin_mem hp r hr)
  · have h0 := hb r (lin_mem hp r hr) b hbb
    rw [el]
    refine ⟨h0.snd, fun w n e => ?_⟩
    have hd := h0.deed w n e
    cases w with
    | jump => have : 0 ≤ n ∧ n < ((0 : Nat) : Int) := hd; exact absurd this (by omega)
    | speed => exact hd
    | slide => exact hd
    | skip => exact hd
    | again => exact hd
def posR (R k : Nat) : Nat × Nat := if k = R then (0, 0) else (k / 6, k % 6)
end
section
variable {hs : List Hs1} {v : Nat} {rows : List Row} {sp : Nat}
theorem fit_rows (g : HsG hs v) : ∀ {a sp : Nat} {L : List Row}, Fit hs a sp L → ∀ r ∈ L, ∃ a m sp', (1 ≤ m ∧ m ≤ 4) ∧ a + m ≤ hs.length ∧ RowFor hs a m sp' r
  | _, _, [], _, _, h => by cases h
  | a, sp, row :: rest, ⟨m, h1, h2, h3, h4⟩, r, hr => by
    rcases List.mem_cons.mp hr with rfl | hr
    · exact ⟨a, m, sp, h1, h2, row_for h3⟩
    · exact fit_rows g h4 r hr
theorem rowFor_ok (g : HsG hs v) {a m sp' : Nat} {r : Row} (h1 : 1 ≤ m ∧ m ≤ 4) (h2 : a + m ≤ hs.length) (R : RowFor hs a m sp' r) : r.length = v ∧ ∀ b ∈ r, BoxOk 0 b := by
  have hrv : r.length = v := by rw [R.len, (g.get (k := a) (by omega)).1]
  refine ⟨hrv, fun b hb => ?_⟩
  obtain ⟨u, hu, e⟩ := List.mem_iff_getElem.mp hb
  obtain ⟨b', c, b1, b2, b3, b4⟩ := R.bx u hu
  rw [List.getElem?_eq_getElem hu, e] at b1
  cases b1
  obtain ⟨hc, _⟩ := slide_plays (p := partOf hs a m u) (fun k i hi => by
      by_cases hk : k < m
      · exact part_ok g h2 hk i hi
      · rw [List.getD_eq_getElem?_getD, List.getElem?_eq_none (by rw [part_len]; omega)] at hi; cases hi) b2
  refine ⟨?_, fun w n hd => ?_⟩
  · rw [b3]
    cases hx : (partOf hs a m u).getD 0 none with
    | none => trivial
    | some x => exact part_ok g h2 (by omega) x hx
  · rcases b4 with ⟨q, _⟩ | q | ⟨q, _⟩ <;> rw [q] at hd <;> cases hd
    · exact ⟨by omega, by omega⟩
    · exact ⟨by omega, by omega⟩
theorem fit_wf (g : HsG hs v) (hs4 : 1 ≤ sp ∧ sp ≤ 4) (F : Fit hs 0 sp rows) (h36 : rows.length ≤ 36) : WF (linS sp rows) ∧ voices (linS sp rows) = v := by
  have h1 : 1 ≤ rows.length := by
    cases rows with
    | nil => have : 0 = hs.length := F; have := g.hn; omega
    | cons r l => simp
  have hl : ∀ r ∈ rows, r.length = v := fun r hr => by
    obtain ⟨a, m, sp', q1, q2, R⟩ := fit_rows g F r hr
    exact (rowFor_ok g q1 q2 R).1
  exact ⟨lin_wf ⟨h1, h36⟩ hs4 g.hv hl fun r hr => by
    obtain ⟨a, m, sp', q1, q2, R⟩ := fit_rows g F r hr
    exact (rowFor_ok g q1 q2 R).2, lin_voices h1 hl⟩
/-- row by row -/
theorem lin_at (g : HsG hs v) (hs4 : 1 ≤ sp ∧ sp ≤ 4) (F : Fit hs 0 sp rows) (h36 : rows.length ≤ 36) : ∀ k, k ≤ rows.length → ∃ a sp', Fit hs a sp' (rows.drop k) ∧ rowMo (linS sp rows) k = a ∧ a ≤ hs.length ∧ (rowSt (linS sp rows) k).place = (posR rows.length k).1 ∧ (rowSt (linS sp rows) k).row = (posR rows.length k).2 ∧ (rowSt (linS sp rows) k).times = 0 ∧
    (rowSt (linS sp rows) k).speed = (sp' : Int) ∧ hear (linS sp rows) a (firstS (linS sp rows)) = hs.take a := by
  obtain ⟨wf, vv⟩ := fit_wf g hs4 F h36
  have h1 : 1 ≤ rows.length := by
    cases rows with
    | nil => have : 0 = hs.length := F; have := g.hn; omega
    | cons r l => simp
  intro k
  induction k with
  | zero =>
    intro _
    refine ⟨0, sp, F, rfl, Nat.zero_le _, ?_, ?_, rfl, rfl, by simp [hear]⟩
    · unfold posR; rw [if_neg (by omega)]; rfl
    · unfold posR; rw [if_neg (by omega)]; rfl
  | succ k ih =>
    intro hk
    obtain ⟨a, sp', f1, f2, f3, f4, f5, f6, f7, f8⟩ := ih (by omega)
    have hkl : k < rows.length := by omega
    rw [List.drop_eq_getElem_cons hkl] at f1
    obtain ⟨m, m1, m2, m3, m4⟩ := f1
    have R := row_for m3
    have pos : posR rows.length k = (k / 6, k % 6) := by unfold posR; rw [if_neg (by omega)]
    rw [pos] at f4 f5
    have er : rowAt (linS sp rows) (rowSt (linS sp rows) k).place (rowSt (linS sp rows) k).row = rows[k] := by
      rw [f4, f5]
      exact lin_row hkl
    have m0 := rowSt_m0 wf k
    have ok := rowSt_ok wf k
    have sa : spAt (linS sp rows) (rowSt (linS sp rows) k) = (m : Int) := by
      unfold spAt
      rw [if_pos m0, er, f7]
      exact R.hsp
    have rn : rowN (linS sp rows) k = m := by
      unfold rowN
      rw [sa]
      rfl
    have mo : rowMo (linS sp rows) (k + 1) = a + m := by rw [rowMo_succ, f2, rn]
    have so := row_sounds g R m2 m1.1 er (by rw [ok.hl, vv])
    have st : rowSt (linS sp rows) (k + 1) = stateOn (linS sp rows) { rowSt (linS sp rows) k with moment := m, speed := m, hs := rowHs (linS sp rows) (rowSt (linS sp rows) k) (m - 1) } := by
      rw [rowSt_succ, rn]
      exact run_row m0 sa m1.1
    have n1 : ∀ w, w ≠ .slide → w ≠ .speed → lastBy (rowAt (linS sp rows) (rowSt (linS sp rows) k).place (rowSt (linS sp rows) k).row) w = none := fun w h h' => by rw [er]; exact R.no w h h'
    have hcl : k / 6 < cntP rows.length := cnt_lt.mpr (by omega)
    have ol : (linS sp rows).order.length = cntP rows.length := by simp [linS]
    have pb : placeBehind (linS sp rows) (rowSt (linS sp rows) k).place (rowSt (linS sp rows) k).row = posR rows.length (k + 1) := by
      unfold placeBehind
      rw [n1 .jump (by decide) (by decide), n1 .skip (by decide) (by decide)]
      dsimp only
      rw [f4, f5, lin_plen hcl, ol]
      unfold posR
      by_cases hend : k + 1 = rows.length
      · rw [if_pos hend, if_neg (by omega)]
        have : k / 6 + 1 = cntP rows.length := by unfold cntP; omega
        rw [this, Nat.mod_self]
      · rw [if_neg hend]
        by_cases h6 : k % 6 + 1 < 6
        · rw [if_pos (by omega), show (k + 1) / 6 = k / 6 by omega, show (k + 1) % 6 = k % 6 + 1 by omega]
        · rw [if_neg (by omega), show (k + 1) / 6 = k / 6 + 1 by omega, show (k + 1) % 6 = 0 by omega, Nat.mod_eq_of_lt]
          exact cnt_lt.mpr (by omega)
    have fin : stateOn (linS sp rows) { rowSt (linS sp rows) k with moment := m, speed := m, hs := rowHs (linS sp rows) (rowSt (linS sp rows) k) (m - 1) } = ⟨(posR rows.length (k + 1)).1, (posR rows.length (k + 1)).2, 0, 0, m, rowHs (linS sp rows) (rowSt (linS sp rows) k) (m - 1)⟩ := by
      unfold stateOn
      dsimp only
      rw [n1 .again (by decide) (by decide)]
      dsimp only
      rw [pb]
    rw [fin] at st
    refine ⟨a + m, m, m4, mo, m2, by rw [st], by rw [st], by rw [st], by rw [st], ?_⟩
    rw [hear_add, f8, ← f2]
    show _ ++ hear (linS sp rows) m (rowSt (linS sp rows) k) = _
    rw [f2, hear_row m0 sa m (Nat.le_refl _), List.take_add]
    congr 1
    apply List.ext_getElem?
    intro i
    by_cases hi : i < m
    · rw [List.getElem?_map, List.getElem?_range hi, List.getElem?_take_of_lt hi, List.getElem?_drop, List.getElem?_eq_getElem (by omega)]
      show some (rowHs _ _ i) = _
      rw [so i hi, List.getD_eq_getElem?_getD, List.getElem?_eq_getElem (by omega)]
      rfl
    · rw [List.getElem?_eq_none (by simp; omega), List.getElem?_eq_none (by rw [List.length_take]; omega)]
theorem lin_end (g : HsG hs v) (hs4 : 1 ≤ sp ∧ sp ≤ 4) (F : Fit hs 0 sp rows) (h36 : rows.length ≤ 36) : rowMo (linS sp rows) rows.length = hs.length ∧ hear (linS sp rows) hs.length (firstS (linS sp rows)) = hs ∧
    (rowSt (linS sp rows) rows.length).place = 0 ∧ (rowSt (linS sp rows) rows.length).row = 0 ∧ (rowSt (linS sp rows) rows.length).times = 0 := by
  obtain ⟨a, sp', f1, f2, f3, f4, f5, f6, f7, f8⟩ := lin_at g hs4 F h36 rows.length (Nat.le_refl _)
  rw [List.drop_eq_nil_of_le (Nat.le_refl _)] at f1
  have ea : a = hs.length := f1
  have pos : posR rows.length rows.length = (0, 0) := by unfold posR; rw [if_pos rfl]
  rw [pos] at f4 f5
  subst ea
  exact ⟨f2, by rw [f8, List.take_of_length_le (Nat.le_refl _)], f4, f5, f6⟩
end
/-! ### rows that play tell a way -/
section
variable {s : Song}
theorem slid_itS {b : Box} {x : Option Int} (hx : ∀ i, x = some i → 0 ≤ i ∧ i < 12) : ∃ c : Int, ((∃ n, b.deed = some (.slide, n) ∧ c = n) ∨ ((∀ n, b.deed ≠ some (.slide, n)) ∧ c = 0)) ∧ ∀ k, slidS (itS c k x) b = itS c (k + 1) x := by
  rcases b with ⟨sn, _ | ⟨w, n⟩⟩
  · refine ⟨0, .inr ⟨fun n z => (by cases z), rfl⟩, fun k => ?_⟩
    rw [itS_zero hx, itS_zero hx]
    cases x <;> rfl
  · cases w with
    | slide =>
      refine ⟨n, .inl ⟨n, rfl, rfl⟩, fun k => ?_⟩
      rw [itS]
      cases itS n k x <;> rfl
    | _ =>
      refine ⟨0, .inr ⟨fun n z => (by cases z), rfl⟩, fun k => ?_⟩
      rw [itS_zero hx, itS_zero hx]
      cases x <;> rfl
theorem row_found (h : WF s) {k m : Nat} (hk : k < m) (ok : ∀ j x, x ∈ hear s j (firstS s) → ∀ z ∈ x, ∀ i, z = some i → 0 ≤ i ∧ i < 12) {q : Nat} (hq : (rowSt s k).speed = (q : Int)) : ∃ r, boxesFor (hear s (rowMo s m) (firstS s)) (rowMo s k) (rowN s k) q = some r := by
  have hm0 := rowSt_m0 h k
  have hok := rowSt_ok h k
  have hn := rowN_le h k
  have hsp := rowN_sp h k
  have mono : ∀ d, rowMo s (k + 1) ≤ rowMo s (k + 1 + d) := by
    intro d
    induction d with
    | zero => exact Nat.le_refl _
    | succ d ih => exact Nat.le_trans ih (by show rowMo s (k + 1 + d) ≤ rowMo s (k + 1 + d) + rowN s (k + 1 + d); omega)
  have hle : rowMo s k + rowN s k ≤ rowMo s m := by
    have := mono (m - (k + 1))
    rw [show k + 1 + (m - (k + 1)) = m by omega, rowMo_succ] at this
    exact this
  generalize hH : hear s (rowMo s m) (firstS s) = hs
  have lH : hs.length = rowMo s m := by rw [← hH, hear_len]
  have at_ : ∀ i, i < rowN s k → hs.getD (rowMo s k + i) [] = rowHs s (rowSt s k) i := fun i hi => by
    rw [← hH, List.getD_eq_getElem?_getD, hear_get s _ _ _ (by omega), show rowMo s k + i + 1 = rowMo s k + (i + 1) by omega, rowSt_run, run_hs hm0 hsp hi]
    rfl
  have rl := rowHs_len h hok
  have vlen : (hs.getD (rowMo s k) []).length = voices s := by
    have := at_ 0 (by omega)
    rw [Nat.add_zero] at this
    rw [this, rl]
  have rwl : (rowAt s (rowSt s k).place (rowSt s k).row).length = voices s := row_len h hok.pl hok.rw
  have okp : ∀ u i, i < rowN s k → ∀ x, (partOf hs (rowMo s k) (rowN s k) u).getD i none = some x → 0 ≤ x ∧ x < 12 := fun u i hi x hx => by
    rw [part_get hs hi] at hx
    rw [List.getD_eq_getElem?_getD (l := hs), List.getElem?_eq_getElem (by omega)] at hx
    have hx : hs[rowMo s k + i].getD u none = some x := hx
    rw [List.getD_eq_getElem?_getD] at hx
    cases hz : hs[rowMo s k + i][u]? with
    | none => rw [hz] at hx; cases hx
    | some z =>
      rw [hz] at hx
      have hm : hs[rowMo s k + i] ∈ hear s (rowMo s m) (firstS s) := by rw [hH]; exact List.getElem_mem _
      exact ok _ _ hm z (List.mem_of_getElem? hz) x hx
  -- each voice
  have voice : ∀ u, u < voices s → ∃ c, slideFor (partOf hs (rowMo s k) (rowN s k) u) = some c ∧ ((∀ n, ((rowAt s (rowSt s k).place (rowSt s k).row).getD u ⟨.non, none⟩).deed ≠ some (.slide, n)) → c = 0) := by
    intro u hu
    generalize hb : (rowAt s (rowSt s k).place (rowSt s k).row).getD u ⟨.non, none⟩ = b
    have hbu : (rowAt s (rowSt s k).place (rowSt s k).row)[u]? = some b := by
      rw [← hb, List.getD_eq_getElem?_getD, List.getElem?_eq_getElem (by omega)]
      rfl
    have pk : ∀ i, i < rowN s k → (rowHs s (rowSt s k) i)[u]? = some ((partOf hs (rowMo s k) (rowN s k) u).getD i none) := fun i hi => by
      rw [part_get hs hi, at_ i hi, List.getD_eq_getElem?_getD, List.getElem?_eq_getElem (by rw [rl]; exact hu)]
      rfl
    obtain ⟨c, hc, hit⟩ := slid_itS (b := b) (x := (partOf hs (rowMo s k) (rowN s k) u).getD 0 none) (fun i hi => okp u 0 (by omega) i hi)
    have play : ∀ i, i < rowN s k → (partOf hs (rowMo s k) (rowN s k) u).getD i none = itS c i ((partOf hs (rowMo s k) (rowN s k) u).getD 0 none) := by
      intro i
      induction i with
      | zero => intro _; rfl
      | succ i ih =>
        intro hi
        have h1 := pk (i + 1) hi
        have h0 := pk i (by omega)
        rw [show rowHs s (rowSt s k) (i + 1) = List.zipWith slidS (rowHs s (rowSt s k) i) (rowAt s (rowSt s k).place (rowSt s k).row) from rfl, List.getElem?_zipWith, h0, hbu] at h1
        have h1 : some (slidS ((partOf hs (rowMo s k) (rowN s k) u).getD i none) b) = _ := h1
        rw [← Option.some.inj h1, ih (by omega), hit]
    have cb : -6 ≤ c ∧ c ≤ 6 := by
      rcases hc with ⟨n, hd, rfl⟩ | ⟨_, rfl⟩
      · obtain ⟨_, _, _, hmm⟩ := pat_get h hok.pl
        have := (h.bx _ hmm _ (row_get hok.rw).2 b (List.mem_of_getElem? hbu)).deed _ _ hd
        exact this
      · omega
    obtain ⟨c', e1, e2⟩ := slide_found (p := partOf hs (rowMo s k) (rowN s k) u) (c := c) (by rw [part_len]; exact hn) cb (fun i hi => okp u 0 (by omega) i hi) (fun i hi => play i (by rw [part_len] at hi; exact hi))
    refine ⟨c', e1, fun hno => ?_⟩
    rcases hc with ⟨n, hd, _⟩ | ⟨_, h0⟩
    · exact absurd hd (hno n)
    · exact e2 h0
  have made : ∃ r, madeFor hs (rowMo s k) (rowN s k) = some r := by
    unfold madeFor
    refine allB_of fun x hx => ?_
    obtain ⟨u, hu, rfl⟩ := List.mem_map.mp hx
    obtain ⟨c, hc, _⟩ := voice u (by rw [← vlen]; exact List.mem_range.mp hu)
    unfold boxFor
    rw [hc]
    exact fun z => by cases z
  obtain ⟨r, hr⟩ := made
  unfold boxesFor
  rw [hr]
  show ∃ r', (if rowN s k = q then some r else putSp (rowN s k) r) = some r'
  by_cases hq' : rowN s k = q
  · exact ⟨r, if_pos hq'⟩
  · rw [if_neg hq']
    apply put_of
    -- a voice tells the speed
    have : ∃ n, lastBy (rowAt s (rowSt s k).place (rowSt s k).row) .speed = some n := by
      cases hl : lastBy (rowAt s (rowSt s k).place (rowSt s k).row) .speed with
      | some n => exact ⟨n, rfl⟩
      | none =>
        exfalso
        have : spAt s (rowSt s k) = (q : Int) := by
          unfold spAt
          rw [if_pos hm0, hl, hq]
          rfl
        omega
    obtain ⟨n, hl⟩ := this
    rcases last_mem _ _ _ hl with z | ⟨b, hb, hd⟩
    · cases z
    · obtain ⟨u, hu, e⟩ := List.mem_iff_getElem.mp hb
      obtain ⟨hrl, hg⟩ := made_get hr
      obtain ⟨b', g1, g2⟩ := hg u (by omega)
      obtain ⟨c, hc, h0⟩ := voice u (by omega)
      have hbu : (rowAt s (rowSt s k).place (rowSt s k).row).getD u ⟨.non, none⟩ = b := by
        rw [List.getD_eq_getElem?_getD, List.getElem?_eq_getElem hu, e]
        rfl
      rw [hbu] at h0
      have hc0 := h0 fun n z => by rw [hd] at z; cases z
      refine ⟨b', List.mem_of_getElem? g1, ?_⟩
      unfold boxFor at g2
      rw [hc, hc0] at g2
      cases g2
      rfl
/-- so many rows tell a way of as many rows -/
theorem way_of (h : WF s) (ok : ∀ j x, x ∈ hear s j (firstS s) → ∀ z ∈ x, ∀ i, z = some i → 0 ≤ i ∧ i < 12) {m : Nat} : ∀ (d k : Nat), k + d = m → ∀ q : Nat, (rowSt s k).speed = (q : Int) → ∃ L : List Row, L.length = d ∧ Fit (hear s (rowMo s m) (firstS s)) (rowMo s k) q L
  | 0, k, hk, q, _ => ⟨[], rfl, by show _ = _; rw [hear_len, show k = m by omega]⟩
  | d + 1, k, hk, q, hq => by
    obtain ⟨r, hr⟩ := row_found h (k := k) (m := m) (by omega) ok hq
    have hn := rowN_le h k
    have e1 : (rowSt s (k + 1)).speed = (rowN s k : Int) := by
      rw [rowSt_succ, run_row (rowSt_m0 h k) (rowN_sp h k) hn.1, stateOn_speed]
    obtain ⟨L', l1, l2⟩ := way_of (m := m) h ok d (k + 1) (by omega) (rowN s k) e1
    refine ⟨r :: L', by simp [l1], rowN s k, hn, ?_, hr, ?_⟩
    · rw [hear_len]
      have mono : ∀ e, rowMo s (k + 1) ≤ rowMo s (k + 1 + e) := by
        intro e
        induction e with
        | zero => exact Nat.le_refl _
        | succ e ih => exact Nat.le_trans ih (by show rowMo s (k + 1 + e) ≤ rowMo s (k + 1 + e) + rowN s (k + 1 + e); omega)
      have := mono d
      rw [show k + 1 + d = m by omega, rowMo_succ] at this
      exact this
    · rw [rowMo_succ] at l2
      exact l2
end
end W

set_option Elab.async false
set_option linter.all false
set_option maxRecDepth 100000
set_option maxHeartbeats 2000000
/-! MFl: loops that are left by return. -/
namespace W
open PySem L2 PL
theorem forL_find {ft : DG} {body : DS} (P : Nat → Ev → Prop) (r : Nat → Option D) : ∀ (ds : List D) (k : Nat) (ε : Ev), P k ε →
    (∀ (i : Nat) (d : D) (ε : Ev), ds[i]? = some d → P (k + i) ε → ∃ ε1, ft d ε = some ε1 ∧ (∀ x, r (k + i) = some x → body ε1 = .rt x) ∧ (r (k + i) = none → ∃ ε2, body ε1 = .nx ε2 ∧ P (k + i + 1) ε2)) →
    (∃ i x, i < ds.length ∧ r (k + i) = some x ∧ (∀ j, j < i → r (k + j) = none) ∧ forL ft body ds ε = .rt x) ∨ ((∀ i, i < ds.length → r (k + i) = none) ∧ ∃ ε', forL ft body ds ε = .nx ε' ∧ P (k + ds.length) ε')
  | [], k, ε, h, _ => .inr ⟨fun i hi => absurd hi (by simp), ε, rfl, h⟩
  | d :: ds, k, ε, h, hs => by
    obtain ⟨ε1, h1, h2, h3⟩ := hs 0 d ε rfl h
    cases hr : r (k + 0) with
    | some x =>
      refine .inl ⟨0, x, by simp, hr, fun j hj => absurd hj (by omega), ?_⟩
      unfold forL
      rw [h1]
      dsimp only
      rw [h2 x hr]
    | none =>
      obtain ⟨ε2, h4, h5⟩ := h3 hr
      have e : forL ft body (d :: ds) ε = forL ft body ds ε2 := by
        conv => lhs; unfold forL
        rw [h1]
        dsimp only
        rw [h4]
      rw [e]
      rcases forL_find P r ds (k + 1) ε2 h5 (fun i d' ε' hd hp => by
        have := hs (i + 1) d' ε' (by simpa using hd) (by rw [show k + (i + 1) = k + 1 + i by omega]; exact hp)
        rw [show k + (i + 1) = k + 1 + i by omega] at this
        exact this) with ⟨i, x, a1, a2, a3, a4⟩ | ⟨a1, ε', a2, a3⟩
      · refine .inl ⟨i + 1, x, by simp; omega, by rw [show k + (i + 1) = k + 1 + i by omega]; exact a2, fun j hj => ?_, a4⟩
        cases j with
        | zero => exact hr
        | succ j => rw [show k + (j + 1) = k + 1 + j by omega]; exact a3 j (by omega)
      · refine .inr ⟨fun i hi => ?_, ε', a2, by rw [List.length_cons, show k + (ds.length + 1) = k + 1 + ds.length by omega]; exact a3⟩
        cases i with
        | zero => exact hr
        | succ i => rw [show k + (i + 1) = k + 1 + i by omega]; exact a1 i (by simp at hi; omega)
end W

set_option Elab.async false
set_option linter.all false
set_option maxRecDepth 100000
set_option maxHeartbeats 2000000
/-! MSo: slide_for, boxes_for, fewest_rows. -/
namespace W
open PySem L2 PL
theorem deq_oi (x : Option Int) : deq (encOI x) .non = x.isNone := by
  cases x with
  | none => exact deq_refl _
  | some i => rfl
theorem in_part (p : Hs1) : oIn .non (.lst (hsL p)) = some (.bl (p.any Option.isNone)) := by
  have h1 : eqok .non = true := pl_ok (n := 0) rfl
  have h2 : eqok (.lst (hsL p)) = true := pl_ok (n := 1) (pl_lst (pl_map pl_oi))
  show oInB id .non (.lst (hsL p)) = _
  rw [oInB_lst, h1, h2]
  have : (hsL p).any (fun z => deq z .non) = p.any Option.isNone := by
    unfold hsL
    rw [List.any_map]
    congr 1
    funext x
    exact deq_oi x
  rw [this]
  rfl
theorem eq_nones (p : Hs1) : oEq (.lst (hsL p)) (.lst (List.replicate p.length .non)) = some (.bl (p.all Option.isNone)) := by
  have e : List.replicate p.length D.non = hsL (List.replicate p.length none) := by simp [hsL]
  rw [e]
  have pl1 : ∀ q : Hs1, pl 1 (.lst (hsL q)) = true := fun q => pl_lst (pl_map pl_oi)
  cases ha : p.all Option.isNone with
  | true =>
    have : p = List.replicate p.length none := by
      apply List.ext_getElem?
      intro i
      by_cases hi : i < p.length
      · rw [List.getElem?_eq_getElem hi, List.getElem?_replicate, if_pos hi]
        have := List.all_eq_true.mp ha p[i] (List.getElem_mem hi)
        cases hx : p[i] with
        | none => rfl
        | some z => rw [hx] at this; cases this
      · rw [List.getElem?_eq_none (by omega), List.getElem?_replicate, if_neg hi]
    rw [← this]
    exact oEq_same (pl1 _)
  | false =>
    refine oEq_diff (pl1 _) (pl1 _) fun z => ?_
    have z : hsL p = hsL (List.replicate p.length none) := D.lst.inj z
    have inj : ∀ a b : Hs1, hsL a = hsL b → a = b := by
      intro a
      induction a with
      | nil => intro b h; cases b with
        | nil => rfl
        | cons _ _ => simp [hsL] at h
      | cons x a ih =>
        intro b h
        cases b with
        | nil => simp [hsL] at h
        | cons y b =>
          have h : encOI x :: hsL a = encOI y :: hsL b := h
          injection h with h1 h2
          rw [ih b h2]
          cases x <;> cases y <;> simp_all [encOI]
    have e2 := inj _ _ z
    have : p.all Option.isNone = true := by
      rw [e2, List.all_eq_true]
      intro x hx
      rw [List.eq_of_mem_replicate hx]
      rfl
    rw [this] at ha
    cases ha
theorem small_b {b : Int} (h : -1000 ≤ b ∧ b ≤ 1000) : small b = true := by
  unfold small
  rw [decide_eq_true (by omega), decide_eq_true (by omega)]
  rfl
theorem sl_elt (x0 : D) (b x j y : Int) (s2 : small b = true) (h0 : oIx x0 (.int 0) = some (.int x)) (hj : oIx x0 (.int j) = some (.int y)) : E_slide_for_1 [.val x0, .val (.int b), .val (.int j)] = .ok (.bl (decide (y = (x + b * j) % 12))) := by
  simp [h0, hj, s2]
theorem e_slide_for {p : Hs1} (h1 : 1 ≤ p.length ∧ p.length ≤ 4) : M_slide_for [.lst (hsL p)] = .ok (encOI (slideFor p)) := by
  have hl : oLen (.lst (hsL p)) = some (.int p.length) := by rw [oLen_lst, hsL_len]
  have hin := in_part p
  have heq := eq_nones p
  have hk : -1000 ≤ (p.length : Int) ∧ (p.length : Int) ≤ 1000 := by omega
  cases hany : p.any Option.isNone with
  | true =>
    rw [hany] at hin
    have mul : oMul (.lst [.non]) (.int p.length) = some (.lst (List.replicate p.length .non)) := by
      rw [oMul_lst, if_pos (by simp [hk]), show ((p.length : Int)).toNat = p.length by omega, rep_flat]
    cases hall : p.all Option.isNone with
    | true =>
      rw [hall] at heq
      simp [-oInB_lst, -oMul_lst, -oLen_lst, M_slide_for, B_slide_for, hin, hl, mul, heq, slideFor, hany, hall]
    | false =>
      rw [hall] at heq
      simp [-oInB_lst, -oMul_lst, -oLen_lst, M_slide_for, B_slide_for, hin, hl, mul, heq, slideFor, hany, hall]
  | false =>
    rw [hany] at hin
    by_cases hone : p.length = 1
    · have hone' : (p.length : Int) = 1 := by omega
      rw [hone'] at hl
      simp [-oInB_lst, -oLen_lst, M_slide_for, B_slide_for, hin, hl, slideFor, hany, hone]
    · have hone' : ¬ (p.length : Int) = 1 := by omega
      have ix : ∀ k : Nat, k < p.length → oIx (.lst (hsL p)) (.int k) = some (.int (pI p k)) := fun k hkl => by
        obtain ⟨i, hi⟩ := any_isNone hany k hkl
        rw [oIx_lst, atI_n]
        unfold hsL pI
        rw [hi, List.getElem?_map, List.getElem?_eq_getElem hkl]
        rw [List.getD_eq_getElem?_getD, List.getElem?_eq_getElem hkl] at hi
        have hi : p[k] = some i := hi
        show some (encOI p[k]) = _
        rw [hi]
        rfl
      have i0 : oIx (.lst (hsL p)) (.int 0) = some (.int (pI p 0)) := ix 0 (by omega)
      have i1 : oIx (.lst (hsL p)) (.int 1) = some (.int (pI p 1)) := ix 1 (by omega)
      have hw := wrap_bd (x := pI p 1 - pI p 0)
      generalize hb : wrap6 ((pI p 1 - pI p 0) % 12) = b at *
      have c : compL (tgN 2) dYes E_slide_for_1 [.val (.lst (hsL p)), .val (.int b), .un] (rng 0 p.length) = .ok ((List.range p.length).map fun (k : Nat) => D.bl (decide (pI p k = (pI p 0 + b * k) % 12))) := by
        unfold rng
        refine compL_map (enc := fun (k : Nat) => D.int (0 + k)) (g := fun (k : Nat) => D.bl (decide (pI p k = (pI p 0 + b * k) % 12))) (List.range p.length) fun k hkr => ⟨_, rfl, ?_⟩
        rw [Int.zero_add]
        exact sl_elt _ b (pI p 0) k (pI p k) (small_b (by omega)) i0 (ix k (List.mem_range.mp hkr))
      have all : oAll (.lst ((List.range p.length).map fun (k : Nat) => D.bl (decide (pI p k = (pI p 0 + b * k) % 12)))) = some (.bl ((List.range p.length).all fun k => decide (pI p k = (pI p 0 + b * k) % 12))) := by
        have e : ((List.range p.length).map fun (k : Nat) => D.bl (decide (pI p k = (pI p 0 + b * k) % 12))) = ((List.range p.length).map fun (k : Nat) => decide (pI p k = (pI p 0 + b * k) % 12)).map D.bl := by rw [List.map_map]; rfl
        rw [e]
        simp only [oAll, blsOf_map, Option.map]
        rw [List.all_map]
        rfl
      have hlim : p.length ≤ LIM := by show _ ≤ 100000; omega
      have hbd : -1000000 ≤ (p.length : Int) ∧ (p.length : Int) ≤ 1000000 := by omega
      have sf : slideFor p = if ((List.range p.length).all fun k => decide (pI p k = (pI p 0 + b * k) % 12)) = true then some b else none := by
        unfold slideFor
        rw [hb, if_neg (by rw [hany]; simp), if_neg hone]
      rw [sf]
      generalize ((List.range p.length).map fun (k : Nat) => D.bl (decide (pI p k = (pI p 0 + b * k) % 12))) = cl at *
      generalize ((List.range p.length).all fun k => decide (pI p k = (pI p 0 + b * k) % 12)) = tf at *
      have fin : ∀ y1, (sSeq (sIf (dTest (d1 oAll (dLst (lComp [2] (iR1 (d1 oLen (dVar 0))) (tgN 2) dYes E_slide_for_1))))
    (sRet (dVar 1))
    sNil)
    (sRet (dC .non))) [.val (.lst (hsL p)), .val (.int b), y1] = .rt (encOI (if tf = true then some b else none)) := by
        intro y1
        have t : (dTest (d1 oAll (dLst (lComp [2] (iR1 (d1 oLen (dVar 0))) (tgN 2) dYes E_slide_for_1)))) [.val (.lst (hsL p)), .val (.int b), y1] = .ok tf := by
          simp [-oLen_lst, hl, hbd, hlim, c, all, PL.tru_bl]
        cases tf with
        | true => rw [sSeq, sIf, t]; rfl
        | false => rw [sSeq, sIf, t]; rfl
      unfold M_slide_for B_slide_for
      have start : ∀ {r : Out D} {f : DS}, runF (f [.val (.lst (hsL p)), .un, .un]) = r → runD 3 f [.lst (hsL p)] = r := fun h => h
      refine start (run_step (ε' := [.val (.lst (hsL p)), .un, .un]) (by simp [-oInB_lst, hin]) ?_)
      refine run_step (ε' := [.val (.lst (hsL p)), .un, .un]) (by simp [-oLen_lst, hl, hone, hone']) ?_
      refine run_step (ε' := [.val (.lst (hsL p)), .val (.int ((pI p 1 - pI p 0) % 12)), .un]) (by simp [-oIx_lst, i0, i1]) ?_
      refine run_step (ε' := [.val (.lst (hsL p)), .val (.int b), .un]) (by
        rw [← hb]
        unfold wrap6
        by_cases h6 : 6 < (pI p 1 - pI p 0) % 12
        · simp [h6]
        · simp [h6]) ?_
      rw [fin]
      rfl
/-! ### boxes_for -/
def encHs1 (hs : List Hs1) : D := .lst (hs.map encHs)
theorem allB_map {l : List Nat} {f : Nat → Option Box} {g : Nat → Box} (h : ∀ u ∈ l, f u = some (g u)) : allB (l.map f) = some (l.map g) := by
  induction l with
  | nil => rfl
  | cons u l ih =>
    rw [List.map_cons, h u (List.mem_cons_self ..), allB, ih fun x hx => h x (List.mem_cons_of_mem _ hx)]
    rfl
theorem allB_no {l : List Nat} {f : Nat → Option Box} {u : Nat} (hu : u ∈ l) (h : f u = none) : allB (l.map f) = none := by
  induction l with
  | nil => cases hu
  | cons x l ih =>
    rw [List.map_cons]
    rcases List.mem_cons.mp hu with rfl | hu
    · rw [h]; rfl
    · cases hx : f x with
      | none => rfl
      | some b => rw [allB, ih hu]; rfl
def bxU (hs : List Hs1) (a m u : Nat) : Box := (boxFor (partOf hs a m u)).getD ⟨.non, none⟩
theorem put_first {m : Nat} : ∀ {r : Row} {u : Nat} {b : Box}, r[u]? = some b → b.deed = none → (∀ j b', j < u → r[j]? = some b' → b'.deed ≠ none) → putSp m r = some (r.set u ⟨b.snd, some (.speed, m)⟩)
  | [], _, _, h, _, _ => by simp at h
  | c :: r, 0, b, h, hd, _ => by
    cases h
    rw [putSp, if_pos hd]
    rfl
  | c :: r, u + 1, b, h, hd, hl => by
    rw [putSp, if_neg (hl 0 c (by omega) rfl), put_first (by simpa using h) hd fun j b' hj e => hl (j + 1) b' (by omega) (by simpa using e)]
    rfl
theorem put_none {m : Nat} : ∀ {r : Row}, (∀ (j : Nat) (b' : Box), r[j]? = some b' → b'.deed ≠ none) → putSp m r = none
  | [], _ => rfl
  | c :: r, hl => by
    rw [putSp, if_neg (hl 0 c rfl), put_none fun j b' e => hl (j + 1) b' (by simpa using e)]
    rfl
def encOR : Option Row → D
  | none => .non
  | some r => encRow r
section
variable {hs : List Hs1} {v : Nat}
theorem e_boxes_for (g : HsG hs v) {a m sp : Nat} (hm : 1 ≤ m ∧ m ≤ 4) (ham : a + m ≤ hs.length) : M_boxes_for [encHs1 hs, .int a, .int m, .int sp] = .ok (encOR (boxesFor hs a m sp)) := by
  have hv := g.hv
  obtain ⟨hav, _⟩ := g.get (k := a) (by omega)
  have row : ∀ k : Nat, k < hs.length → oIx (encHs1 hs) (.int k) = some (encHs (hs.getD k [])) := fun k hk => by
    unfold encHs1
    rw [oIx_lst, atI_n, List.getElem?_map, List.getD_eq_getElem?_getD, List.getElem?_eq_getElem hk]
    rfl
  have vox : ∀ k u : Nat, k < hs.length → u < v → oIx (encHs (hs.getD k [])) (.int u) = some (encOI ((hs.getD k []).getD u none)) := fun k u hk hu => by
    obtain ⟨hl, _⟩ := g.get hk
    unfold encHs hsL
    rw [oIx_tup, atI_n, List.getElem?_map, List.getD_eq_getElem?_getD (l := hs.getD k []), List.getElem?_eq_getElem (by omega)]
    rfl
  have hrl : oLen (encHs (hs.getD a [])) = some (.int v) := by
    show some (D.int (hsL _).length) = _
    rw [hsL_len, hav]
  have hmb : -1000000 ≤ (m : Int) ∧ (m : Int) ≤ 1000000 := by omega
  have hml : m ≤ LIM := by show _ ≤ 100000; omega
  -- the part of a voice
  have part : ∀ (u : Nat) (x2 : Int) (x3 x4 x6 x8 x9 : Sl), u < v → (sSet 6 (dLst (lComp [7] (iR1 (dVar 2)) (tgN 7) dYes E_boxes_for_1))) [.val (encHs1 hs), .val (.int a), .val (.int m), x3, x4, .val (.int u), x6, .un, x8, x9] = .nx [.val (encHs1 hs), .val (.int a), .val (.int m), x3, x4, .val (.int u), .val (.lst (hsL (partOf hs a m u))), .un, x8, x9] := by
    intro u x2 x3 x4 x6 x8 x9 hu
    have c : compL (tgN 7) dYes E_boxes_for_1 [.val (encHs1 hs), .val (.int a), .val (.int m), x3, x4, .val (.int u), x6, .un, x8, x9] (rng 0 m) = .ok (hsL (partOf hs a m u)) := by
      unfold rng partOf hsL
      rw [List.map_map]
      refine compL_map (enc := fun (k : Nat) => D.int (0 + k)) (List.range m) fun k hk => ⟨_, rfl, ?_⟩
      have hk := List.mem_range.mp hk
      rw [Int.zero_add]
      have r1 := row (a + k) (by omega)
      have v1 := vox (a + k) u (by omega) hu
      rw [show ((a + k : Nat) : Int) = (a : Int) + k by omega] at r1
      show E_boxes_for_1 [.val (encHs1 hs), .val (.int a), .val (.int m), x3, x4, .val (.int u), x6, .val (.int k), x8, x9] = .ok (encOI ((hs.getD (a + k) []).getD u none))
      generalize encOI ((hs.getD (a + k) []).getD u none) = ov at *
      generalize encHs (hs.getD (a + k) []) = eo at *
      simp [r1, v1]
    simp [hmb, hml, c]
  have L := forL_find (ft := tgN 5) (body := B_boxes_for_1) (fun i ε => ∃ y5 y6 y8 y9, ε = [.val (encHs1 hs), .val (.int a), .val (.int m), .val (.int sp), .own ((List.range i).map fun u => encBox (bxU hs a m u)), y5, y6, .un, y8, y9])
    (fun u => if boxFor (partOf hs a m u) = none then some .non else none) (rng 0 v) 0
    [.val (encHs1 hs), .val (.int a), .val (.int m), .val (.int sp), .own [], .un, .un, .un, .un, .un] ⟨_, _, _, _, rfl⟩ (by
      rintro u d ε hd ⟨y5, y6, y8, y9, rfl⟩
      obtain ⟨hu, rfl⟩ := rng_get hd
      rw [Nat.zero_add, Int.zero_add]
      have pl4 : 1 ≤ (partOf hs a m u).length ∧ (partOf hs a m u).length ≤ 4 := by rw [part_len]; exact hm
      have sf := e_slide_for pl4
      have p0 : oIx (.lst (hsL (partOf hs a m u))) (.int 0) = some (encOI ((partOf hs a m u).getD 0 none)) := by
        rw [oIx_lst, show (0 : Int) = ((0 : Nat) : Int) from rfl, atI_n]
        unfold hsL
        rw [List.getElem?_map, List.getD_eq_getElem?_getD, List.getElem?_eq_getElem (by omega)]
        rfl
      have st := fun x4 => part u 0 (.val (.int sp)) x4 y6 y8 y9 hu
      refine ⟨_, rfl, fun x hx => ?_, fun hx => ?_⟩
      · split at hx
        · rename_i hb
          cases hx
          have hsl : slideFor (partOf hs a m u) = none := by
            unfold boxFor at hb
            cases q : slideFor (partOf hs a m u) with
            | none => rfl
            | some c => rw [q] at hb; cases hb
          rw [hsl] at sf
          show sSeq _ _ [.val (encHs1 hs), .val (.int a), .val (.int m), .val (.int sp), _, .val (.int u), y6, .un, y8, y9] = _
          rw [seq_step (st _)]
          generalize hsL (partOf hs a m u) = hp at *
          simp [sf]
        · cases hx
      · split at hx
        · cases hx
        · rename_i hb
          obtain ⟨c, hsl⟩ : ∃ c, slideFor (partOf hs a m u) = some c := by
            unfold boxFor at hb
            cases q : slideFor (partOf hs a m u) with
            | none => rw [q] at hb; exact absurd rfl hb
            | some c => exact ⟨c, rfl⟩
          rw [hsl] at sf
          have hul : u < LIM := by show _ < 100000; omega
          have eb : encBox (bxU hs a m u) = .tup [encSnd (sndOf ((partOf hs a m u).getD 0 none)), encDeed (if c = 0 then none else some (.slide, c))] := by
            unfold bxU boxFor
            rw [hsl]
            rfl
          refine ⟨_, ?_, .val (.int u), .val (.lst (hsL (partOf hs a m u))), .val (.int c), .val (encSnd (sndOf ((partOf hs a m u).getD 0 none))), rfl⟩
          show sSeq _ _ [.val (encHs1 hs), .val (.int a), .val (.int m), .val (.int sp), _, .val (.int u), y6, .un, y8, y9] = _
          rw [seq_step (st _), List.range_succ, List.map_append, List.map_singleton, eb]
          generalize hsL (partOf hs a m u) = hp at *
          cases hz : (partOf hs a m u).getD 0 none with
          | none =>
            rw [hz] at p0
            by_cases hc : c = 0
            · simp [-oIx_lst, sf, p0, hc, hul, sndOf, encSnd, encDeed, PL.isNon]
            · simp [-oIx_lst, sf, p0, hc, hul, sndOf, encSnd, encDeed, PL.isNon, nm_slide]
          | some x =>
            rw [hz] at p0
            by_cases hc : c = 0
            · simp [-oIx_lst, sf, p0, hc, hul, sndOf, encSnd, encDeed, PL.isNon]
            · simp [-oIx_lst, sf, p0, hc, hul, sndOf, encSnd, encDeed, PL.isNon, nm_slide])
  rw [rng_len] at L
  have hvb : -1000000 ≤ (v : Int) ∧ (v : Int) ≤ 1000000 := by omega
  have r0 := row a (by omega)
  unfold M_boxes_for B_boxes_for
  have start : ∀ {r : Out D} {f : DS}, runF (f [.val (encHs1 hs), .val (.int a), .val (.int m), .val (.int sp), .un, .un, .un, .un, .un, .un]) = r → runD 10 f [encHs1 hs, .int a, .int m, .int sp] = r := fun h => h
  refine start (run_step (ε' := [.val (encHs1 hs), .val (.int a), .val (.int m), .val (.int sp), .own [], .un, .un, .un, .un, .un]) (by simp) ?_)
  have fst : (sFor (iR1 (d1 oLen (d2 oIx (dVar 0) (dVar 1)))) (tgN 5) B_boxes_for_1) [.val (encHs1 hs), .val (.int a), .val (.int m), .val (.int sp), .own [], .un, .un, .un, .un, .un] = forL (tgN 5) B_boxes_for_1 (rng 0 v) [.val (encHs1 hs), .val (.int a), .val (.int m), .val (.int sp), .own [], .un, .un, .un, .un, .un] := by
    generalize encHs (hs.getD a []) = eo at *
    simp [r0, hrl, hvb]
  rcases L with ⟨u, x, h1, h2, h3, h4⟩ | ⟨h1, ε', h2, y5, y6, y8, y9, h3⟩
  · rw [Nat.zero_add] at h2
    split at h2
    · rename_i hb
      cases h2
      have mf : madeFor hs a m = none := allB_no (List.mem_range.mpr (by rw [hav]; exact h1)) hb
      rw [sSeq, fst, h4]
      unfold boxesFor
      rw [mf]
      rfl
    · cases h2
  · have all : ∀ u, u < v → boxFor (partOf hs a m u) = some (bxU hs a m u) := fun u hu => by
      have := h1 u hu
      rw [Nat.zero_add] at this
      split at this
      · cases this
      · rename_i hb
        unfold bxU
        cases q : boxFor (partOf hs a m u) with
        | none => exact absurd q hb
        | some b => rfl
    have mf : madeFor hs a m = some ((List.range v).map (bxU hs a m)) := by
      unfold madeFor
      rw [hav]
      exact allB_map fun u hu => all u (List.mem_range.mp hu)
    rw [Nat.zero_add] at h3
    have er : ((List.range v).map fun u => encBox (bxU hs a m u)) = ((List.range v).map (bxU hs a m)).map encBox := by rw [List.map_map]; rfl
    rw [er] at h3
    have hr : ((List.range v).map (bxU hs a m)).length = v := by simp
    unfold boxesFor
    rw [mf]
    generalize (List.range v).map (bxU hs a m) = r at *
    subst h3
    refine run_step (by rw [fst]; exact h2) ?_
    show _ = Out.ok (encOR (if m = sp then some r else putSp m r))
    by_cases hms : m = sp
    · have hms' : (m : Int) = sp := by omega
      rw [if_pos hms]
      simp [hms, encOR, encRow]
    · have hms' : ¬ (m : Int) = sp := by omega
      rw [if_neg hms]
      refine run_step (ε' := [.val (encHs1 hs), .val (.int a), .val (.int m), .val (.int sp), .own (r.map encBox), y5, y6, .un, y8, y9]) (by simp [hms, hms']) ?_
      have gb : ∀ (u : Nat) (b : Box), r[u]? = some b → oIx (.lst (r.map encBox)) (.int u) = some (encBox b) := fun u b hb => by
        rw [oIx_lst, atI_n, List.getElem?_map, hb]
        rfl
      have L2 := forL_find (ft := tgN 5) (body := B_boxes_for_2) (fun i ε => ∃ y5, ε = [.val (encHs1 hs), .val (.int a), .val (.int m), .val (.int sp), .own (r.map encBox), y5, y6, .un, y8, y9])
        (fun u => match r[u]? with | some b => if b.deed = none then some (encRow (r.set u ⟨b.snd, some (.speed, m)⟩)) else none | none => none) (rng 0 v) 0
        [.val (encHs1 hs), .val (.int a), .val (.int m), .val (.int sp), .own (r.map encBox), y5, y6, .un, y8, y9] ⟨_, rfl⟩ (by
          rintro u d ε hd ⟨y5, rfl⟩
          obtain ⟨hu, rfl⟩ := rng_get hd
          rw [Nat.zero_add, Int.zero_add]
          have hru : r[u]? = some r[u] := List.getElem?_eq_getElem (by omega)
          have gu := gb u _ hru
          have hix : ixN (r.map encBox).length (u : Int) = some u := by
            rw [List.length_map]
            unfold ixN
            rw [if_pos (by omega), if_pos (by omega)]
            rfl
          rw [hru]
          dsimp only
          generalize r[u] = b at *
          rcases b with ⟨sn, dd⟩
          refine ⟨_, rfl, fun x hx => ?_, fun hx => ?_⟩
          · split at hx
            · rename_i hdd
              cases hx
              have hdd : dd = none := hdd
              subst hdd
              have e1 : oIx (encBox ⟨sn, none⟩) (.int 1) = some .non := rfl
              have e0 : oIx (encBox ⟨sn, none⟩) (.int 0) = some (encSnd sn) := rfl
              have es : encRow (r.set u ⟨sn, some (.speed, m)⟩) = .tup ((r.map encBox).set u (.tup [encSnd sn, .tup [.str "speed", .int m]])) := by
                unfold encRow
                rw [List.map_set]
                rfl
              rw [es]
              generalize r.map encBox = re at *
              simp [-oIx_lst, gu, e1, e0, PL.isNon, subF_int _ _ _ _ hix]
            · cases hx
          · split at hx
            · cases hx
            · rename_i hdd
              obtain ⟨w, hw⟩ : ∃ w, dd = some w := by
                cases dd with
                | none => exact absurd rfl hdd
                | some w => exact ⟨w, rfl⟩
              subst hw
              obtain ⟨ww, nn⟩ := w
              have e1 : oIx (encBox ⟨sn, some (ww, nn)⟩) (.int 1) = some (.tup [.str ww.nm, .int nn]) := rfl
              refine ⟨_, ?_, .val (.int u), rfl⟩
              generalize r.map encBox = re at *
              simp [-oIx_lst, gu, e1, PL.isNon])
      rw [rng_len] at L2
      have fst2 : (sFor (iR1 (d1 oLen (vVar 4))) (tgN 5) B_boxes_for_2) [.val (encHs1 hs), .val (.int a), .val (.int m), .val (.int sp), .own (r.map encBox), y5, y6, .un, y8, y9] = forL (tgN 5) B_boxes_for_2 (rng 0 v) [.val (encHs1 hs), .val (.int a), .val (.int m), .val (.int sp), .own (r.map encBox), y5, y6, .un, y8, y9] := by
        simp [hr, hvb]
      rcases L2 with ⟨u, x, q1, q2, q3, q4⟩ | ⟨q1, ε', q2, z5, q3⟩
      · rw [Nat.zero_add] at q2
        have hru : r[u]? = some r[u] := List.getElem?_eq_getElem (by omega)
        rw [hru] at q2
        dsimp only at q2
        split at q2
        · rename_i hdd
          cases q2
          rw [put_first hru hdd (fun j b' hj hb' hd' => by
            have := q3 j hj
            rw [Nat.zero_add, hb'] at this
            dsimp only at this
            rw [if_pos hd'] at this
            cases this)]
          rw [sSeq, fst2, q4]
          rfl
        · cases q2
      · rw [put_none (fun j b' hb' hd' => by
          have := q1 j (by have := lt_of_get hb'; omega)
          rw [Nat.zero_add, hb'] at this
          dsimp only at this
          rw [if_pos hd'] at this
          cases this)]
        subst q3
        refine run_step (by rw [fst2]; exact q2) ?_
        simp [encOR]
end
end W

set_option Elab.async false
set_option linter.all false
set_option maxRecDepth 100000
/-! MCut: slices of six. -/
namespace W
open PySem L2 PL
theorem cut_six (xs : List D) (i : Nat) : cut xs (some (i : Int)) (some ((i : Int) + 6)) = (xs.drop i).take 6 := by
  unfold cut
  rw [show ((i : Int) + 6) = ((i + 6 : Nat) : Int) by omega, HT.sIx_nat, HT.sIx_nat]
  by_cases h : i ≤ xs.length
  · rw [Nat.min_eq_left h, List.take_eq_take_iff, List.length_drop]
    omega
  · rw [List.drop_eq_nil_of_le (by omega), List.drop_eq_nil_of_le (by omega)]
    simp
theorem szC_six (m : Nat) : szC 0 (m : Int) = cntP m := by
  unfold szC cntP
  split <;> omega
end W

set_option Elab.async false
set_option linter.all false
set_option maxRecDepth 100000
set_option maxHeartbeats 2000000
/-! MSo2: fewest_rows, song_of. -/
namespace W
open PySem L2 PL
section
variable {hs : List Hs1} {v : Nat}
theorem fit_len : ∀ {L : List Row} {a sp : Nat}, Fit hs a sp L → L.length + a ≤ hs.length
  | [], a, sp, h => by have : a = hs.length := h; simp; omega
  | r :: L, a, sp, ⟨m, h1, h2, _, h4⟩ => by
    have := fit_len h4
    rw [List.length_cons]
    omega
def Best (hs : List Hs1) (a sp : Nat) (L : List Row) : Prop := Fit hs a sp L ∧ ∀ L', Fit hs a sp L' → L.length ≤ L'.length
theorem best_end (sp : Nat) : Best hs hs.length sp [] := ⟨rfl, fun L' _ => Nat.zero_le _⟩
theorem one_found (g : HsG hs v) {a sp : Nat} (ha : a < hs.length) : ∃ r, boxesFor hs a 1 sp = some r := by
  have bx : ∀ u, boxFor (partOf hs a 1 u) = some ⟨sndOf ((partOf hs a 1 u).getD 0 none), none⟩ := fun u => by
    have : slideFor (partOf hs a 1 u) = some 0 := by
      unfold slideFor
      cases hx : (partOf hs a 1 u).any Option.isNone with
      | true =>
        have ha : (partOf hs a 1 u).all Option.isNone = true := by
          unfold partOf at *
          simpa using hx
        rw [if_pos rfl, if_pos ha]
      | false => rw [if_neg (by simp), if_pos (part_len ..)]
    unfold boxFor
    rw [this]
    rfl
  obtain ⟨hl, _⟩ := g.get (k := a) ha
  have mf : madeFor hs a 1 = some ((List.range v).map fun u => ⟨sndOf ((partOf hs a 1 u).getD 0 none), none⟩) := by
    unfold madeFor
    rw [hl]
    exact allB_map fun u _ => bx u
  unfold boxesFor
  rw [mf]
  show ∃ r, (if 1 = sp then some _ else putSp 1 _) = some r
  by_cases h : 1 = sp
  · exact ⟨_, if_pos h⟩
  · rw [if_neg h]
    apply put_of
    have := g.hv
    exact ⟨⟨sndOf ((partOf hs a 1 0).getD 0 none), none⟩, List.mem_map.mpr ⟨0, List.mem_range.mpr (by omega), rfl⟩, rfl⟩
def encRows (L : List Row) : D := .lst (L.map encRow)
theorem eq_nil (L : List Row) : oEq (encRows L) (.lst []) = some (.bl (decide (L = []))) := by
  cases L with
  | nil => exact oEq_same (n := 1) rfl
  | cons r L => exact oEq_diff (n := 5) (m := 1) (pl_lst (pl_map pl_row)) rfl (fun z => by cases z)
/-- what the loop of fewest_rows knows behind m turns -/
def Upto (hs : List Hs1) (a sp : Nat) (B : Nat → Nat → List Row) (i : Nat) (L : List Row) : Prop :=
  (L = [] ∧ ∀ m, 1 ≤ m → m ≤ i → boxesFor hs a m sp = none) ∨ (L ≠ [] ∧ (∃ m row, (1 ≤ m ∧ m ≤ i) ∧ boxesFor hs a m sp = some row ∧ L = row :: B (a + m) m) ∧ ∀ m, 1 ≤ m → m ≤ i → boxesFor hs a m sp ≠ none → L.length ≤ (B (a + m) m).length + 1)
theorem upto_best (g : HsG hs v) {a sp : Nat} (ha : a < hs.length) {B : Nat → Nat → List Row} (hB : ∀ m, 1 ≤ m → m ≤ 4 → a + m ≤ hs.length → Best hs (a + m) m (B (a + m) m)) {L : List Row} (U : Upto hs a sp B (min 4 (hs.length - a)) L) : Best hs a sp L := by
  rcases U with ⟨_, h⟩ | ⟨hne, ⟨m, row, h1, h2, h3⟩, h4⟩
  · obtain ⟨r, hr⟩ := one_found g (sp := sp) ha
    rw [h 1 (by omega) (by omega)] at hr
    cases hr
  · subst h3
    have hb := hB m (by omega) (by omega) (by omega)
    refine ⟨⟨m, ⟨by omega, by omega⟩, by omega, h2, hb.1⟩, fun L' F => ?_⟩
    cases L' with
    | nil => have : a = hs.length := F; omega
    | cons r' L' =>
      obtain ⟨m', q1, q2, q3, q4⟩ := F
      have := h4 m' (by omega) (by omega) (by rw [q3]; simp)
      have hb' := (hB m' (by omega) (by omega) (by omega)).2 L' q4
      simp only [List.length_cons] at *
      omega
def keyD (a m : Nat) : D := .tup [.int a, .int m]
theorem key_ok (a m : Nat) : keyOk (keyD a m) = true := rfl
theorem e_fewest_rows (g : HsG hs v) (hn : hs.length ≤ 1000) {a sp : Nat} (ha : a < hs.length) {B : Nat → Nat → List Row} {kvs : List (D × D)} (hB : ∀ m, 1 ≤ m → m ≤ 4 → a + m ≤ hs.length → Best hs (a + m) m (B (a + m) m) ∧ lkD kvs (keyD (a + m) m) = some (encRows (B (a + m) m))) :
    ∃ L, Best hs a sp L ∧ M_fewest_rows [encHs1 hs, .int a, .int sp] kvs = .ok (encRows L) := by
  have hl : oLen (encHs1 hs) = some (.int hs.length) := by unfold encHs1; rw [oLen_lst, List.length_map]
  have cnt : (if (hs.length : Int) - a < 4 then (hs.length : Int) - a else 4) = ((min 4 (hs.length - a) : Nat) : Int) := by split <;> omega
  obtain ⟨ε', f1, L, y5, y6, y7, U, f2⟩ := forL_inv (ft := tgN 5) (body := B_fewest_rows_1)
    (fun i ε => ∃ L y5 y6 y7, Upto hs a sp B i L ∧ ε = [.val (encHs1 hs), .val (.int a), .val (.int sp), .vdc kvs, .val (encRows L), y5, y6, y7]) (rng 1 (min 4 (hs.length - a))) 0
    [.val (encHs1 hs), .val (.int a), .val (.int sp), .vdc kvs, .val (encRows []), .un, .un, .un] ⟨[], _, _, _, .inl ⟨rfl, fun m h1 h2 => by omega⟩, rfl⟩ (by
      rintro i d ε hd ⟨L, y5, y6, y7, U, rfl⟩
      rw [Nat.zero_add] at U ⊢
      obtain ⟨hi, rfl⟩ := rng_get hd
      have hbx := e_boxes_for g (a := a) (m := i + 1) (sp := sp) (by omega) (by omega)
      obtain ⟨hb, hlk⟩ := hB (i + 1) (by omega) (by omega) (by omega)
      have flen := fit_len hb.1
      rw [show ((i + 1 : Nat) : Int) = 1 + (i : Int) by omega] at hbx
      have ek : keyD (a + (i + 1)) (i + 1) = .tup [.int ((a : Int) + (1 + i)), .int (1 + i)] := by
        unfold keyD
        rw [show ((a + (i + 1) : Nat) : Int) = (a : Int) + (1 + i) by omega, show ((i + 1 : Nat) : Int) = 1 + (i : Int) by omega]
      rw [ek] at hlk
      have kok : keyOk (.tup [.int ((a : Int) + (1 + i)), .int (1 + i)]) = true := rfl
      have lr : oLen (encRows (B (a + (i + 1)) (i + 1))) = some (.int (B (a + (i + 1)) (i + 1)).length) := by unfold encRows; rw [oLen_lst, List.length_map]
      have lL : oLen (encRows L) = some (.int L.length) := by unfold encRows; rw [oLen_lst, List.length_map]
      have en := eq_nil L
      generalize hBe : B (a + (i + 1)) (i + 1) = Bm at *
      cases hrow : boxesFor hs a (i + 1) sp with
      | none =>
        rw [hrow] at hbx
        refine ⟨_, _, rfl, ?_, L, .val (.int (1 + i)), .val .non, .val (encRows Bm), ?_, rfl⟩
        · simp [hbx, kok, hlk, encOR, PL.isNon]
        · rcases U with ⟨h1, h2⟩ | ⟨h1, ⟨m, row, q1, q2, q3⟩, h3⟩
          · refine .inl ⟨h1, fun m a1 a2 => ?_⟩
            by_cases hm : m = i + 1
            · rw [hm]; exact hrow
            · exact h2 m a1 (by omega)
          · refine .inr ⟨h1, ⟨m, row, ⟨q1.1, by omega⟩, q2, q3⟩, fun m a1 a2 a3 => ?_⟩
            by_cases hm : m = i + 1
            · rw [hm] at a3; exact absurd hrow a3
            · exact h3 m a1 (by omega) a3
      | some row =>
        rw [hrow] at hbx
        have nrow : PL.isNon (encRow row) = false := rfl
        have add : oAdd (.lst [encRow row]) (encRows Bm) = some (encRows (row :: Bm)) := by
          unfold encRows
          rw [oAdd_lst, if_pos (by simp; show _ ≤ 100000; omega)]
          rfl
        have hbx : M_boxes_for [encHs1 hs, .int a, .int (1 + i), .int sp] = .ok (encRow row) := hbx
        by_cases hL : L = []
        · refine ⟨_, _, rfl, ?_, row :: Bm, .val (.int (1 + i)), .val (encRow row), .val (encRows Bm), ?_, rfl⟩
          · subst hL
            simp [-oAdd_lst, hbx, kok, hlk, nrow, en, add]
          · refine .inr ⟨by simp, ⟨i + 1, row, ⟨by omega, Nat.le_refl _⟩, hrow, by rw [hBe]⟩, fun m a1 a2 a3 => ?_⟩
            by_cases hm : m = i + 1
            · rw [hm, hBe]; simp
            · rcases U with ⟨_, h2⟩ | ⟨h1, _⟩
              · exact absurd (h2 m a1 (by omega)) a3
              · exact absurd hL h1
        · have hLd : decide (L = []) = false := by simp [hL]
          rw [hLd] at en
          rcases U with ⟨h1, _⟩ | ⟨_, ⟨m0, row0, q1, q2, q3⟩, h3⟩
          · exact absurd h1 hL
          · by_cases hlt : Bm.length + 1 < L.length
            · have hlt' : (Bm.length : Int) + 1 < (L.length : Int) := by omega
              refine ⟨_, _, rfl, ?_, row :: Bm, .val (.int (1 + i)), .val (encRow row), .val (encRows Bm), ?_, rfl⟩
              · simp [-oAdd_lst, hbx, kok, hlk, nrow, en, lr, lL, hlt', add]
              · refine .inr ⟨by simp, ⟨i + 1, row, ⟨by omega, Nat.le_refl _⟩, hrow, by rw [hBe]⟩, fun m a1 a2 a3 => ?_⟩
                by_cases hm : m = i + 1
                · rw [hm, hBe]; simp
                · have := h3 m a1 (by omega) a3
                  simp only [List.length_cons]
                  omega
            · have hlt' : ¬ (Bm.length : Int) + 1 < (L.length : Int) := by omega
              refine ⟨_, _, rfl, ?_, L, .val (.int (1 + i)), .val (encRow row), .val (encRows Bm), ?_, rfl⟩
              · simp [-oAdd_lst, hbx, kok, hlk, nrow, en, lr, lL, hlt']
              · refine .inr ⟨hL, ⟨m0, row0, ⟨q1.1, by omega⟩, q2, q3⟩, fun m a1 a2 a3 => ?_⟩
                by_cases hm : m = i + 1
                · rw [hm, hBe]; omega
                · exact h3 m a1 (by omega) a3)
  rw [rng_len, Nat.zero_add] at U
  subst f2
  refine ⟨L, upto_best g ha (fun m a1 a2 a3 => (hB m a1 a2 a3).1) U, ?_⟩
  have hb2 : ((-1000000 : Int) ≤ 1 ∧ (1 : Int) ≤ 1000000) ∧ -1000000 ≤ ((min 4 (hs.length - a) : Nat) : Int) + 1 ∧ ((min 4 (hs.length - a) : Nat) : Int) + 1 ≤ 1000000 := by omega
  have ht : (((min 4 (hs.length - a) : Nat) : Int) + 1 - 1).toNat = min 4 (hs.length - a) := by omega
  have it : (iR2 (dC (.int 1)) (d2 oAdd (d2 oMin2 (dC (.int 4)) (d2 oSub (d1 oLen (dVar 0)) (dVar 1))) (dC (.int 1)))) [.val (encHs1 hs), .val (.int a), .val (.int sp), .vdc kvs, .val (encRows []), .un, .un, .un] = .ok (rng 1 (min 4 (hs.length - a))) := by
    have e : (iR2 (dC (.int 1)) (d2 oAdd (d2 oMin2 (dC (.int 4)) (d2 oSub (d1 oLen (dVar 0)) (dVar 1))) (dC (.int 1)))) [.val (encHs1 hs), .val (.int a), .val (.int sp), .vdc kvs, .val (encRows []), .un, .un, .un] = r2F (.int 1) (.int ((if (hs.length : Int) - a < 4 then (hs.length : Int) - a else 4) + 1)) := by
      simp only [iR2, dC, d2, d1, dVar, List.getElem?_cons_succ, List.getElem?_cons_zero, getV_val, bind_ok, hl, of_some]
      rfl
    rw [e, cnt, r2F_int, if_pos hb2, ht]
  unfold M_fewest_rows B_fewest_rows
  have start : ∀ {r : Out D} {f : DS}, runF (f [.val (encHs1 hs), .val (.int a), .val (.int sp), .vdc kvs, .un, .un, .un, .un]) = r → runV 8 f [encHs1 hs, .int a, .int sp] kvs = r := fun h => h
  refine start (run_step (ε' := [.val (encHs1 hs), .val (.int a), .val (.int sp), .vdc kvs, .val (encRows []), .un, .un, .un]) (by simp [encRows]) ?_)
  refine run_step (by rw [sFor, it, bindS_ok]; exact f1) ?_
  simp
end
end W

set_option Elab.async false
set_option linter.all false
set_option maxRecDepth 100000
set_option maxHeartbeats 2000000
/-! MSo3: song_of. -/
namespace W
open PySem L2 PL
theorem lk_nk : ∀ (kvs : List (D × D)) {k k' : D}, nkD k = nkD k' → lkD kvs k = lkD kvs k'
  | [], _, _, _ => rfl
  | p :: kvs, k, k', h => by
    unfold lkD
    rw [h, lk_nk kvs h]
theorem lk_map (k v : D) : ∀ (kvs : List (D × D)) (k' : D), lkD (kvs.map fun p => if nkD p.1 = nkD k then (p.1, v) else p) k' = if nkD k = nkD k' then (lkD kvs k').map (fun _ => v) else lkD kvs k'
  | [], k' => by split <;> rfl
  | p :: kvs, k' => by
    have ih := lk_map k v kvs k'
    rw [List.map_cons]
    unfold lkD
    by_cases h1 : nkD p.1 = nkD k
    · rw [if_pos h1]
      dsimp only
      by_cases h2 : nkD p.1 = nkD k'
      · rw [if_pos h2, if_pos h2, if_pos (h1.symm.trans h2)]
        rfl
      · rw [if_neg h2, if_neg h2, ih]
    · rw [if_neg h1]
      by_cases h2 : nkD p.1 = nkD k'
      · rw [if_pos h2, if_pos h2, if_neg (fun e => h1 (h2.trans e.symm))]
      · rw [if_neg h2, if_neg h2, ih]
theorem lk_app (k v : D) : ∀ (kvs : List (D × D)) (k' : D), lkD (kvs ++ [(k, v)]) k' = (lkD kvs k').or (if nkD k = nkD k' then some v else none)
  | [], k' => by
    rw [List.nil_append]
    unfold lkD
    split <;> rfl
  | p :: kvs, k' => by
    rw [List.cons_append]
    unfold lkD
    split
    · rfl
    · exact lk_app k v kvs k'
theorem lk_st (kvs : List (D × D)) (k v k' : D) : lkD (stD kvs k v) k' = if nkD k = nkD k' then some v else lkD kvs k' := by
  unfold stD
  cases hs : lkD kvs k with
  | some x =>
    rw [if_pos (show (some x).isSome = true from rfl), lk_map]
    by_cases h : nkD k = nkD k'
    · rw [if_pos h, if_pos h, ← lk_nk kvs h, hs]
      rfl
    · rw [if_neg h, if_neg h]
  | none =>
    rw [if_neg (by simp), lk_app]
    by_cases h : nkD k = nkD k'
    · rw [if_pos h, if_pos h, ← lk_nk kvs h, hs]
      rfl
    · rw [if_neg h, if_neg h]
      cases lkD kvs k' <;> rfl
theorem st_len (kvs : List (D × D)) (k v : D) : (stD kvs k v).length ≤ kvs.length + 1 := by
  unfold stD
  split
  · rw [List.length_map]; omega
  · simp
theorem key_inj {a m a' m' : Nat} : nkD (keyD a m) = nkD (keyD a' m') ↔ a = a' ∧ m = m' := by
  constructor
  · intro h
    unfold keyD at h
    simp only [nkD, nkAll] at h
    injection h with h
    injection h with h1 h2
    injection h2 with h2 _
    injection h1 with h1
    injection h2 with h2
    omega
  · rintro ⟨rfl, rfl⟩; rfl
/-- the book from a place on -/
def Book (hs : List Hs1) (B : Nat → Nat → List Row) (kvs : List (D × D)) (P : Nat → Nat → Prop) : Prop := ∀ a sp, (1 ≤ sp ∧ sp ≤ 4) → P a sp → Best hs a sp (B a sp) ∧ lkD kvs (keyD a sp) = some (encRows (B a sp))
section
variable {hs : List Hs1} {v : Nat}
theorem Book.put {B : Nat → Nat → List Row} {kvs : List (D × D)} {P : Nat → Nat → Prop} (b : Book hs B kvs P) {a sp : Nat} {L : List Row} (hL : Best hs a sp L) {Q : Nat → Nat → Prop} (hQ : ∀ a' sp', Q a' sp' → P a' sp' ∨ (a' = a ∧ sp' = sp)) :
    Book hs (fun a' sp' => if a' = a ∧ sp' = sp then L else B a' sp') (stD kvs (keyD a sp) (encRows L)) Q := by
  intro a' sp' h1 h2
  dsimp only
  by_cases e : a' = a ∧ sp' = sp
  · obtain ⟨rfl, rfl⟩ := e
    rw [if_pos ⟨rfl, rfl⟩, lk_st, if_pos rfl]
    exact ⟨hL, rfl⟩
  · rw [if_neg e, lk_st, if_neg (fun z => e (by have := key_inj.mp z; exact ⟨this.1.symm, this.2.symm⟩))]
    rcases hQ a' sp' h2 with q | q
    · exact b a' sp' h1 q
    · exact absurd q e
theorem rng14 : rng 1 4 = [.int 1, .int 2, .int 3, .int 4] := rfl
theorem range14 (ε : Ev) : (iR2 (dC (.int 1)) (d2 oAdd (dC (.int 4)) (dC (.int 1)))) ε = .ok (rng 1 4) := rfl
def minS (f : Nat → Nat) : Int × Int := minP ((f 1 : Int), 1) [((f 2 : Int), 2), ((f 3 : Int), 3), ((f 4 : Int), 4)]
theorem minS_ok (f : Nat → Nat) : ∃ sp : Nat, (1 ≤ sp ∧ sp ≤ 4) ∧ minS f = ((f sp : Int), (sp : Int)) ∧ ∀ sp', 1 ≤ sp' → sp' ≤ 4 → f sp ≤ f sp' := by
  have key : ∃ sp : Nat, (sp = 1 ∨ sp = 2 ∨ sp = 3 ∨ sp = 4) ∧ minS f = ((f sp : Int), (sp : Int)) ∧ f sp ≤ f 1 ∧ f sp ≤ f 2 ∧ f sp ≤ f 3 ∧ f sp ≤ f 4 := by
    unfold minS minP
    simp only [List.foldl_cons, List.foldl_nil]
    by_cases a : ltP ((f 2 : Int), 2) ((f 1 : Int), 1) = true
    · rw [if_pos a]
      have a' : f 2 < f 1 := by simpa [ltP] using a
      by_cases b : ltP ((f 3 : Int), 3) ((f 2 : Int), 2) = true
      · rw [if_pos b]
        have b' : f 3 < f 2 := by simpa [ltP] using b
        by_cases c : ltP ((f 4 : Int), 4) ((f 3 : Int), 3) = true
        · rw [if_pos c]
          have c' : f 4 < f 3 := by simpa [ltP] using c
          exact ⟨4, by omega, rfl, by omega, by omega, by omega, by omega⟩
        · rw [if_neg c]
          have c' : ¬ f 4 < f 3 := by simpa [ltP] using c
          exact ⟨3, by omega, rfl, by omega, by omega, by omega, by omega⟩
      · rw [if_neg b]
        have b' : ¬ f 3 < f 2 := by simpa [ltP] using b
        by_cases c : ltP ((f 4 : Int), 4) ((f 2 : Int), 2) = true
        · rw [if_pos c]
          have c' : f 4 < f 2 := by simpa [ltP] using c
          exact ⟨4, by omega, rfl, by omega, by omega, by omega, by omega⟩
        · rw [if_neg c]
          have c' : ¬ f 4 < f 2 := by simpa [ltP] using c
          exact ⟨2, by omega, rfl, by omega, by omega, by omega, by omega⟩
    · rw [if_neg a]
      have a' : ¬ f 2 < f 1 := by simpa [ltP] using a
      by_cases b : ltP ((f 3 : Int), 3) ((f 1 : Int), 1) = true
      · rw [if_pos b]
        have b' : f 3 < f 1 := by simpa [ltP] using b
        by_cases c : ltP ((f 4 : Int), 4) ((f 3 : Int), 3) = true
        · rw [if_pos c]
          have c' : f 4 < f 3 := by simpa [ltP] using c
          exact ⟨4, by omega, rfl, by omega, by omega, by omega, by omega⟩
        · rw [if_neg c]
          have c' : ¬ f 4 < f 3 := by simpa [ltP] using c
          exact ⟨3, by omega, rfl, by omega, by omega, by omega, by omega⟩
      · rw [if_neg b]
        have b' : ¬ f 3 < f 1 := by simpa [ltP] using b
        by_cases c : ltP ((f 4 : Int), 4) ((f 1 : Int), 1) = true
        · rw [if_pos c]
          have c' : f 4 < f 1 := by simpa [ltP] using c
          exact ⟨4, by omega, rfl, by omega, by omega, by omega, by omega⟩
        · rw [if_neg c]
          have c' : ¬ f 4 < f 1 := by simpa [ltP] using c
          exact ⟨1, by omega, rfl, by omega, by omega, by omega, by omega⟩
  obtain ⟨sp, h1, h2, h3, h4, h5, h6⟩ := key
  refine ⟨sp, by omega, h2, fun sp' a b => ?_⟩
  have : sp' = 1 ∨ sp' = 2 ∨ sp' = 3 ∨ sp' = 4 := by omega
  rcases this with rfl | rfl | rfl | rfl <;> assumption
theorem e_song_of (g : HsG hs v) (hn : hs.length ≤ 1000) : ∃ (sp : Nat) (rows : List Row), (1 ≤ sp ∧ sp ≤ 4) ∧ Fit hs 0 sp rows ∧ (∀ sp' L, 1 ≤ sp' → sp' ≤ 4 → Fit hs 0 sp' L → rows.length ≤ L.length) ∧
    M_song_of [encHs1 hs] = if 36 < rows.length then .rs "TooLong" else .ok (encSong (linS sp rows)) := by
  have h1n := g.hn
  have hl : oLen (encHs1 hs) = some (.int hs.length) := by unfold encHs1; rw [oLen_lst, List.length_map]
  -- the end
  obtain ⟨ε1, f1, kv1, B1, y1, len1, bk1, e1⟩ := forL_inv (ft := tgN 2) (body := B_song_of_1)
    (fun i ε => ∃ kvs B y2, kvs.length ≤ i ∧ Book hs B kvs (fun a sp => a = hs.length ∧ sp ≤ i) ∧ ε = [.val (encHs1 hs), .dct kvs, y2, .un, .un, .un, .un]) (rng 1 4) 0
    [.val (encHs1 hs), .dct [], .un, .un, .un, .un, .un] ⟨[], fun _ _ => [], .un, Nat.le_refl _, fun a sp h1 h2 => by omega, rfl⟩ (by
      rintro i d ε hd ⟨kvs, B, y2, len, bk, rfl⟩
      rw [Nat.zero_add] at len bk ⊢
      obtain ⟨hi, rfl⟩ := rng_get hd
      have hk : keyOk (.tup [.int hs.length, .int (1 + i)]) = true := rfl
      have ek : (D.tup [.int hs.length, .int (1 + (i : Int))]) = keyD hs.length (i + 1) := by
        unfold keyD
        rw [show ((i + 1 : Nat) : Int) = 1 + (i : Int) by omega]
      have hdl : kvs.length < DLIM := by show _ < 10000000; omega
      refine ⟨_, _, rfl, ?_, stD kvs (keyD hs.length (i + 1)) (encRows []), _, .val (.int (1 + i)), ?_, bk.put (best_end (i + 1)) (fun a' sp' q => ?_), rfl⟩
      · simp [hl, hk, hdl, ek, encRows, key_ok]
      · have := st_len kvs (keyD hs.length (i + 1)) (encRows [])
        omega
      · by_cases hz : sp' ≤ i
        · exact .inl ⟨q.1, hz⟩
        · exact .inr ⟨q.1, by omega⟩)
  rw [rng_len, Nat.zero_add] at len1 bk1
  subst e1
  -- place by place
  obtain ⟨ε2, f2, kv2, B2, y2, y3, len2, bk2, e2⟩ := forL_inv (ft := tgN 3) (body := B_song_of_3)
    (fun i ε => ∃ kvs B y2 y3, kvs.length ≤ 4 + 4 * i ∧ Book hs B kvs (fun a sp => hs.length - i ≤ a ∧ a ≤ hs.length) ∧ ε = [.val (encHs1 hs), .dct kvs, y2, y3, .un, .un, .un]) (rngC ((hs.length : Int) - 1) (-1) hs.length) 0
    [.val (encHs1 hs), .dct kv1, y1, .un, .un, .un, .un] ⟨kv1, B1, y1, .un, len1, fun a sp q1 q2 => bk1 a sp q1 ⟨by omega, by omega⟩, rfl⟩ (by
      rintro i d ε hd ⟨kvs, B, y2, y3, len, bk, rfl⟩
      rw [Nat.zero_add] at len bk ⊢
      have hi : i < hs.length := by simpa [rngC] using lt_of_get hd
      obtain ⟨a, ha⟩ : ∃ a, a = hs.length - 1 - i := ⟨_, rfl⟩
      obtain rfl : d = .int a := by
        unfold rngC at hd
        rw [List.getElem?_map, List.getElem?_range hi] at hd
        have e : (hs.length : Int) - 1 + (i : Int) * -1 = (a : Int) := by omega
        rw [← e]
        exact (Option.some.inj hd).symm
      -- speed by speed
      obtain ⟨ε3, g1, kv3, B3, y4, len3, bk3, e3⟩ := forL_inv (ft := tgN 2) (body := B_song_of_2)
        (fun j ε => ∃ kvs B y2, kvs.length ≤ 4 + 4 * i + j ∧ Book hs B kvs (fun a' sp => (hs.length - i ≤ a' ∧ a' ≤ hs.length) ∨ (a' = a ∧ sp ≤ j)) ∧ ε = [.val (encHs1 hs), .dct kvs, y2, .val (.int a), .un, .un, .un]) (rng 1 4) 0
        [.val (encHs1 hs), .dct kvs, y2, .val (.int a), .un, .un, .un] ⟨kvs, B, y2, by omega, fun a' sp q1 q2 => bk a' sp q1 (by rcases q2 with q2 | q2 <;> omega), rfl⟩ (by
          rintro j d ε hd ⟨kvs, B, y2, len, bk, rfl⟩
          rw [Nat.zero_add] at len bk ⊢
          obtain ⟨hj, rfl⟩ := rng_get hd
          obtain ⟨L, bL, eL⟩ := e_fewest_rows g hn (a := a) (sp := j + 1) (B := B) (kvs := kvs) (by omega) (fun m m1 m2 m3 => bk (a + m) m ⟨m1, m2⟩ (.inl ⟨by omega, m3⟩))
          rw [show ((j + 1 : Nat) : Int) = 1 + (j : Int) by omega] at eL
          have hk : keyOk (.tup [.int a, .int (1 + j)]) = true := rfl
          have ek : (D.tup [.int a, .int (1 + (j : Int))]) = keyD a (j + 1) := by
            unfold keyD
            rw [show ((j + 1 : Nat) : Int) = 1 + (j : Int) by omega]
          have hdl : kvs.length < DLIM := by show _ < 10000000; omega
          refine ⟨_, _, rfl, ?_, stD kvs (keyD a (j + 1)) (encRows L), _, .val (.int (1 + j)), ?_, bk.put bL (fun a' sp' q => ?_), rfl⟩
          · simp [aAll, aCons, aDct, eL, hk, hdl, ek, key_ok]
          · have := st_len kvs (keyD a (j + 1)) (encRows L)
            omega
          · rcases q with q | ⟨q1, q2⟩
            · exact .inl (.inl q)
            · by_cases hz : sp' ≤ j
              · exact .inl (.inr ⟨q1, hz⟩)
              · exact .inr ⟨q1, by omega⟩)
      rw [rng_len, Nat.zero_add] at len3 bk3
      subst e3
      refine ⟨_, _, rfl, ?_, kv3, B3, y4, .val (.int a), by omega, fun a' sp q1 q2 => bk3 a' sp q1 ?_, rfl⟩
      · show (sFor _ _ _) [.val (encHs1 hs), .dct kvs, y2, .val (.int a), .un, .un, .un] = _
        rw [sFor, range14, bindS_ok]
        exact g1
      · by_cases hz : hs.length - i ≤ a'
        · exact .inl ⟨hz, q2.2⟩
        · exact .inr ⟨by omega, q1.2⟩)
  have lenR : (rngC ((hs.length : Int) - 1) (-1) hs.length).length = hs.length := by simp [rngC]
  rw [lenR, Nat.zero_add] at len2 bk2
  subst e2
  have bk : ∀ sp, 1 ≤ sp → sp ≤ 4 → Best hs 0 sp (B2 0 sp) ∧ lkD kv2 (keyD 0 sp) = some (encRows (B2 0 sp)) := fun sp a b => bk2 0 sp ⟨a, b⟩ ⟨by omega, by omega⟩
  obtain ⟨sp, hsp, hmin, hle⟩ := minS_ok fun sp => (B2 0 sp).length
  refine ⟨sp, B2 0 sp, hsp, (bk sp hsp.1 hsp.2).1.1, fun sp' L a b F => Nat.le_trans (hle sp' a b) ((bk sp' a b).1.2 L F), ?_⟩
  -- the list of pairs
  have lR : ∀ sp, oLen (encRows (B2 0 sp)) = some (.int (B2 0 sp).length) := fun sp => by unfold encRows; rw [oLen_lst, List.length_map]
  have c1 : compL (tgN 2) dYes E_song_of_1 [.val (encHs1 hs), .dct kv2, .un, y3, .un, .un, .un] (rng 1 4) = .ok ([(((B2 0 1).length : Int), (1 : Int)), (((B2 0 2).length : Int), 2), (((B2 0 3).length : Int), 3), (((B2 0 4).length : Int), 4)].map prD2) := by
    have l1 := (bk 1 (by omega) (by omega)).2
    have l2 := (bk 2 (by omega) (by omega)).2
    have l3 := (bk 3 (by omega) (by omega)).2
    have l4 := (bk 4 (by omega) (by omega)).2
    unfold keyD at l1 l2 l3 l4
    have k : ∀ i : Int, keyOk (.tup [.int 0, .int i]) = true := fun _ => rfl
    simp at l1 l2 l3 l4
    rw [rng14]
    simp [compL, l1, l2, l3, l4, k, lR, prD2]
  have mn : oMinP (.lst ([(((B2 0 1).length : Int), (1 : Int)), (((B2 0 2).length : Int), 2), (((B2 0 3).length : Int), 3), (((B2 0 4).length : Int), 4)].map prD2)) = some (.tup [.int (B2 0 sp).length, .int sp]) := by
    rw [oMinP_lst, prsOf_map]
    show some (prD2 (minS fun sp => (B2 0 sp).length)) = _
    rw [hmin]
    rfl
  generalize ([(((B2 0 1).length : Int), (1 : Int)), (((B2 0 2).length : Int), 2), (((B2 0 3).length : Int), 3), (((B2 0 4).length : Int), 4)].map prD2) = prs at *
  have lk := (bk sp hsp.1 hsp.2).2
  have fl := fit_len (bk sp hsp.1 hsp.2).1.1
  have lRs := lR sp
  generalize B2 0 sp = rows at *
  have h6 : small 6 = true := by decide
  unfold M_song_of B_song_of
  have start : ∀ {r : Out D} {f : DS}, runXF (f [.val (encHs1 hs), .un, .un, .un, .un, .un, .un]) = r → runX 7 f [encHs1 hs] = r := fun h => h
  have step : ∀ {f g : DS} {ε ε' : Ev} {r : Out D}, f ε = .nx ε' → runXF (g ε') = r → runXF (sSeq f g ε) = r := fun h h2 => by rw [seq_step h]; exact h2
  refine start (step (ε' := [.val (encHs1 hs), .dct [], .un, .un, .un, .un, .un]) (by simp) ?_)
  refine step (by rw [sFor, range14, bindS_ok]; exact f1) ?_
  have it2 : (iRd (d2 oSub (d1 oLen (dVar 0)) (dC (.int 1))) (d1 oNeg (dC (.int 1))) (d1 oNeg (dC (.int 1)))) [.val (encHs1 hs), .dct kv1, y1, .un, .un, .un, .un] = .ok (rngC ((hs.length : Int) - 1) (-1) hs.length) := by
    have hb : (-1 : Int) = -1 ∧ (-1000000 ≤ (hs.length : Int) - 1 ∧ (hs.length : Int) - 1 ≤ 1000000) ∧ (-1000000 : Int) ≤ -1 ∧ (-1 : Int) ≤ 1000000 := by omega
    have e : (iRd (d2 oSub (d1 oLen (dVar 0)) (dC (.int 1))) (d1 oNeg (dC (.int 1))) (d1 oNeg (dC (.int 1)))) [.val (encHs1 hs), .dct kv1, y1, .un, .un, .un, .un] = r3dF (.int ((hs.length : Int) - 1)) (.int (-1)) (.int (-1)) := by
      simp only [iRd, d2, d1, dVar, dC, List.getElem?_cons_zero, getV_val, bind_ok, hl, of_some]
      rfl
    rw [e, r3dF_int, if_pos hb, show ((hs.length : Int) - 1 - -1).toNat = hs.length by omega]
  refine step (by rw [sFor, it2, bindS_ok]; exact f2) ?_
  refine step (ε' := [.val (encHs1 hs), .dct kv2, .val (.int sp), y3, .val (.int rows.length), .un, .un]) (by
    have hlim : (4 : Nat) ≤ LIM := by decide
    have e : (d1 oMinP (dLst (lComp [2] (iR2 (dC (.int 1)) (d2 oAdd (dC (.int 4)) (dC (.int 1)))) (tgN 2) dYes E_song_of_1))) [.val (encHs1 hs), .dct kv2, y2, y3, .un, .un, .un] = .ok (.tup [.int rows.length, .int sp]) := by
      simp only [d1, dLst, lComp]
      rw [range14, bind_ok, rng_len, if_pos hlim]
      show (((nrm (compL (tgN 2) dYes E_song_of_1 [.val (encHs1 hs), .dct kv2, .un, y3, .un, .un, .un] (rng 1 4))).bind _).bind _) = _
      rw [c1, nrm_ok, bind_ok, bind_ok, mn, of_some]
    rw [sAsg, e, bindS_ok]
    rfl) ?_
  by_cases h36 : 36 < rows.length
  · have h36' : (36 : Int) < (rows.length : Int) := by omega
    rw [if_pos h36]
    simp [h6, h36, h36']
  · have h36' : ¬ (36 : Int) < (rows.length : Int) := by omega
    rw [if_neg h36]
    refine step (ε' := [.val (encHs1 hs), .dct kv2, .val (.int sp), y3, .val (.int rows.length), .un, .un]) (by simp [h6, h36, h36']) ?_
    refine step (ε' := [.val (encHs1 hs), .dct kv2, .val (.int sp), y3, .val (.int rows.length), .val (encRows rows), .un]) (by
      unfold keyD at lk
      have k : keyOk (.tup [.int 0, .int (sp : Int)]) = true := rfl
      simp at lk
      simp [k, lk]) ?_
    have hcnt : cntP rows.length ≤ 6 := by unfold cntP; omega
    have c2 : compL (tgN 3) dYes E_song_of_2 [.val (encHs1 hs), .dct kv2, .val (.int sp), .un, .val (.int rows.length), .val (encRows rows), .un] (rngC 0 6 (cntP rows.length)) = .ok ((List.range (cntP rows.length)).map fun j => encPat ((rows.drop (6 * j)).take 6)) := by
      unfold rngC
      refine compL_map (enc := fun (k : Nat) => D.int (0 + k * 6)) (g := fun j => encPat ((rows.drop (6 * j)).take 6)) (List.range (cntP rows.length)) fun j hj => ⟨_, rfl, ?_⟩
      have ec := cut_six (rows.map encRow) (6 * j)
      rw [show ((6 * j : Nat) : Int) = 0 + (j : Int) * 6 by omega] at ec
      have sl : oSl (encRows rows) (some (0 + (j : Int) * 6)) (some (0 + (j : Int) * 6 + 6)) = some (.lst (((rows.map encRow).drop (6 * j)).take 6)) := by
        unfold encRows
        rw [oSl_lst, ec]
      have ep : encPat ((rows.drop (6 * j)).take 6) = .tup (((rows.map encRow).drop (6 * j)).take 6) := by
        unfold encPat
        rw [List.map_take, List.map_drop]
      rw [ep]
      generalize 0 + (j : Int) * 6 = z at *
      generalize ((rows.map encRow).drop (6 * j)).take 6 = w at *
      simp [sl]
    have hb3 : (6 : Int) = 6 ∧ ((-1000000 : Int) ≤ 0 ∧ (0 : Int) ≤ 1000000) ∧ -1000000 ≤ (rows.length : Int) ∧ (rows.length : Int) ≤ 1000000 := by omega
    have szc : szC 0 (rows.length : Int) = cntP rows.length := szC_six _
    have hlc : (rngC 0 6 (cntP rows.length)).length ≤ LIM := by
      unfold rngC
      simp
      show _ ≤ 100000
      omega
    refine step (ε' := [.val (encHs1 hs), .dct kv2, .val (.int sp), y3, .val (.int rows.length), .val (encRows rows), .val (.lst ((List.range (cntP rows.length)).map fun j => encPat ((rows.drop (6 * j)).take 6)))]) (by
      have e : (lComp [3] (iR3 (dC (.int 0)) (dVar 4) (dC (.int 6))) (tgN 3) dYes E_song_of_2) [.val (encHs1 hs), .dct kv2, .val (.int sp), y3, .val (.int rows.length), .val (encRows rows), .un] = .ok ((List.range (cntP rows.length)).map fun j => encPat ((rows.drop (6 * j)).take 6)) := by
        have i3 : (iR3 (dC (.int 0)) (dVar 4) (dC (.int 6))) [.val (encHs1 hs), .dct kv2, .val (.int sp), y3, .val (.int rows.length), .val (encRows rows), .un] = .ok (rngC 0 6 (cntP rows.length)) := by
          show r3F (.int 0) (.int rows.length) (.int 6) = _
          rw [r3F_int, if_pos hb3, szc]
        rw [lComp, i3, bind_ok, if_pos hlc]
        show nrm (compL (tgN 3) dYes E_song_of_2 [.val (encHs1 hs), .dct kv2, .val (.int sp), .un, .val (.int rows.length), .val (encRows rows), .un] (rngC 0 6 (cntP rows.length))) = _
        rw [c2]
        rfl
      rw [sSet, dLst, e]
      rfl) ?_
    have lp : ((List.range (cntP rows.length)).map fun j => encPat ((rows.drop (6 * j)).take 6)).length = cntP rows.length := by simp
    have eS : encSong (linS sp rows) = .tup [.int sp, .tup (rng 0 (cntP rows.length)), .tup ((List.range (cntP rows.length)).map fun j => encPat ((rows.drop (6 * j)).take 6))] := by
      unfold encSong linS encOrd rng
      simp only [List.map_map]
      congr 1
      simp [Function.comp]
    rw [eS]
    generalize ((List.range (cntP rows.length)).map fun j => encPat ((rows.drop (6 * j)).take 6)) = pp at *
    have hbc : -1000000 ≤ ((cntP rows.length : Nat) : Int) ∧ ((cntP rows.length : Nat) : Int) ≤ 1000000 := by omega
    simp [lRg1, lp, hbc]
end
end W

set_option Elab.async false
set_option linter.all false
set_option maxRecDepth 100000
set_option maxHeartbeats 1000000
/-! MH: heard_from, heard. -/
namespace W
open PySem L2 PL
theorem e_heard_from {s : Song} (h : WF s) {t : Stt} (ht : StOk s t) (n : Nat) (hn : n ≤ 100000) : M_heard_from [encSong s, encStt t, .int n] = .ok (encHss (hear s n t)) := by
  obtain ⟨ε', h1, y4, h2⟩ := for_rng (ft := tgN 4) (body := (sSeq (sSet 1 (dCall M_next_state (dArgs [(dVar 0), (dVar 1)]))) (sApp 3 (d2 oIx (dVar 1) (dC (.int 5))))))
    (fun i ε => ∃ y4, ε = [.val (encSong s), .val (encStt (run s i t)), .val (.int n), .own ((hear s i t).map encHs), y4]) n
    [.val (encSong s), .val (encStt t), .val (.int n), .own [], .un] ⟨.un, rfl⟩ (by
      rintro i ε hi ⟨y4, rfl⟩
      have hl : i < LIM := by show i < 100000; omega
      refine ⟨_, _, rfl, ?_, .val (.int i), rfl⟩
      simp [e_next_state h (run_ok h i ht), run_succ, hear_succ, e_hs, hear_len, hl])
  subst h2
  have hb : -1000000 ≤ (n : Int) ∧ (n : Int) ≤ 1000000 := by omega
  simp [M_heard_from, B_heard_from, hb, h1, encHss]
theorem e_heard {s : Song} (h : WF s) (n : Nat) (hn : n ≤ 100000) : M_heard [encSong s, .int n] = .ok (encHss (hear s n (firstS s))) := by
  simp [M_heard, B_heard, e_first_state h, e_heard_from h (first_ok h) n hn]
end W

set_option Elab.async false
set_option linter.all false
set_option maxRecDepth 100000
set_option maxHeartbeats 2000000
/-! MCY: states come round. -/
namespace W
open PySem L2 PL
/-! ### plain -/
theorem nodup_le : ∀ (n : Nat) (l : List Nat), l.Nodup → (∀ x ∈ l, x < n) → l.length ≤ n
  | 0, l, _, h => by
    cases l with
    | nil => exact Nat.le_refl _
    | cons x l => exact absurd (h x (List.mem_cons_self ..)) (by omega)
  | n + 1, l, hn, h => by
    by_cases hm : n ∈ l
    · have h1 := nodup_le n (l.erase n) (hn.erase n) fun x hx => by
        have h2 := (hn.mem_erase_iff).mp hx
        have h3 := h x h2.2
        have h4 : x ≠ n := h2.1
        omega
      rw [List.length_erase_of_mem hm] at h1
      omega
    · have h1 := nodup_le n l hn fun x hx => by
        have h3 := h x hx
        have h4 : x ≠ n := fun z => hm (z ▸ hx)
        omega
      omega
/-- pigeons -/
theorem pigeon (f : Nat → Nat) (n : Nat) (h : ∀ i, f i < n) : ∃ i j, i < j ∧ j ≤ n ∧ f i = f j := by
  by_cases hd : ∃ i j, i < j ∧ j ≤ n ∧ f i = f j
  · exact hd
  · exfalso
    have hn : ((List.range (n + 1)).map f).Nodup := by
      rw [List.Nodup, List.pairwise_map]
      refine List.Pairwise.imp_of_mem ?_ List.pairwise_lt_range
      intro i j hi hj hlt he
      exact hd ⟨i, j, hlt, by have := List.mem_range.mp hj; omega, he⟩
    have := nodup_le n _ hn fun x hx => by
      obtain ⟨i, _, rfl⟩ := List.mem_map.mp hx
      exact h i
    simp at this
    omega
theorem least {P : Nat → Prop} (h : ∃ n, P n) : ∃ n, P n ∧ ∀ m, m < n → ¬ P m := by
  obtain ⟨n, hn⟩ := h
  induction n using Nat.strongRecOn with
  | ind n ih =>
    by_cases hm : ∃ m, m < n ∧ P m
    · obtain ⟨m, h1, h2⟩ := hm
      exact ih m h1 h2
    · exact ⟨n, hn, fun m h1 h2 => hm ⟨m, h1, h2⟩⟩
/-! ### what a moment does to a height -/
inductive Mp where
  | cst (o : Option Int) | sh (c : Int)
def Mp.app : Mp → Option Int → Option Int
  | .cst o, _ => o
  | .sh _, none => none
  | .sh c, some x => some ((x + c) % 12)
def Mp.comp : Mp → Mp → Mp
  | .cst o, _ => .cst o
  | .sh c, .cst o => .cst ((Mp.sh c).app o)
  | .sh c, .sh d => .sh (d + c)
theorem app_comp (f g : Mp) (h : Option Int) : (f.comp g).app h = f.app (g.app h) := by
  cases f with
  | cst o => rfl
  | sh c =>
    cases g with
    | cst o => rfl
    | sh d =>
      cases h with
      | none => rfl
      | some x =>
        show some ((x + (d + c)) % 12) = some (((x + d) % 12 + c) % 12)
        congr 1
        omega
def HOk1 (h : Option Int) : Prop := ∀ x, h = some x → 0 ≤ x ∧ x < 12
def MpOk : Mp → Prop
  | .cst o => HOk1 o
  | .sh _ => True
theorem app_ok {f : Mp} (hf : MpOk f) (h : Option Int) : HOk1 (f.app h) := by
  cases f with
  | cst o => exact hf
  | sh c =>
    cases h with
    | none => intro x e; cases e
    | some y =>
      intro x e
      cases e
      exact ⟨Int.emod_nonneg _ (by decide), Int.emod_lt_of_pos _ (by decide)⟩
theorem comp_ok {f g : Mp} (hf : MpOk f) (hg : MpOk g) : MpOk (f.comp g) := by
  cases f with
  | cst o => exact hf
  | sh c =>
    cases g with
    | cst o => exact app_ok (f := .sh c) trivial o
    | sh d => trivial
def it (f : Mp) : Nat → Option Int → Option Int
  | 0, h => h
  | k + 1, h => f.app (it f k h)
theorem it_sh (c : Int) (x : Int) (hx : 0 ≤ x ∧ x < 12) : ∀ k : Nat, it (.sh c) k (some x) = some ((x + k * c) % 12)
  | 0 => by
    show some x = _
    congr 1
    simp
    omega
  | k + 1 => by
    show (Mp.sh c).app (it (.sh c) k (some x)) = _
    rw [it_sh c x hx k]
    show some (((x + k * c) % 12 + c) % 12) = _
    congr 1
    have e : ((k + 1 : Nat) : Int) * c = (k : Int) * c + c := by
      rw [Int.natCast_add, Int.add_mul]
      simp
    rw [e]
    omega
theorem it_none (c : Int) : ∀ k : Nat, it (.sh c) k none = none
  | 0 => rfl
  | k + 1 => by
    show (Mp.sh c).app (it (.sh c) k none) = _
    rw [it_none c k]
    rfl
theorem it_cst (o h : Option Int) (k : Nat) : it (.cst o) (k + 1) h = o := rfl
/-- behind 13 turns it is as behind one -/
theorem it_13 (f : Mp) (h : Option Int) (hh : HOk1 h) : it f 13 h = it f 1 h := by
  cases f with
  | cst o => rfl
  | sh c =>
    cases h with
    | none => rw [it_none, it_none]
    | some x =>
      rw [it_sh c x (hh x rfl), it_sh c x (hh x rfl)]
      congr 1
      omega
def mpB (m : Nat) (b : Box) : Mp := if m = 0 then (match b.snd with | .non => .sh 0 | .off => .cst none | .h i => .cst (some i)) else (match b.deed with | some (.slide, n) => .sh n | _ => .sh 0)
theorem mpB_ok {n m : Nat} {b : Box} (h : BoxOk n b) : MpOk (mpB m b) := by
  unfold mpB
  split
  · rcases b with ⟨_ | _ | i, d⟩
    · trivial
    · intro x e; cases e
    · intro x e; cases e; exact h.snd
  · rcases b with ⟨x, _ | ⟨w, k⟩⟩
    · trivial
    · cases w <;> trivial
theorem mpB_app (m : Nat) (b : Box) (h : Option Int) (hh : HOk1 h) : (if m = 0 then struckS else slidS) h b = (mpB m b).app h := by
  have id0 : (Mp.sh 0).app h = h := by
    cases h with
    | none => rfl
    | some x =>
      show some ((x + 0) % 12) = some x
      have := hh x rfl
      congr 1
      omega
  unfold mpB
  by_cases hm : m = 0
  · rw [if_pos hm, if_pos hm]
    rcases b with ⟨_ | _ | i, d⟩
    · exact id0.symm
    · rfl
    · rfl
  · rw [if_neg hm, if_neg hm]
    rcases b with ⟨x, _ | ⟨w, k⟩⟩
    · show slidS h ⟨x, none⟩ = (Mp.sh 0).app h
      rw [id0]
      cases h <;> rfl
    · cases w with
      | slide => cases h <;> rfl
      | _ =>
        show slidS h _ = (Mp.sh 0).app h
        rw [id0]
        cases h <;> rfl
/-! ### the control -/
structure Eqc (t u : Stt) : Prop where
  p : t.place = u.place
  r : t.row = u.row
  i : t.times = u.times
  m : t.moment = u.moment
  s : t.speed = u.speed
section
variable {s : Song}
theorem Eqc.next {t u : Stt} (e : Eqc t u) : Eqc (nextS s t) (nextS s u) := by
  obtain ⟨a, b, c, d, sp, hs⟩ := t
  obtain ⟨a', b', c', d', sp', hs'⟩ := u
  obtain ⟨h1, h2, h3, h4, h5⟩ := e
  dsimp only at h1 h2 h3 h4 h5
  subst h1 h2 h3 h4 h5
  have e1 : spAt s ⟨a, b, c, d, sp, hs⟩ = spAt s ⟨a, b, c, d, sp, hs'⟩ := rfl
  unfold nextS
  rw [e1]
  split
  · unfold stateOn
    dsimp only
    split
    · split
      · exact ⟨rfl, rfl, rfl, rfl, rfl⟩
      · exact ⟨rfl, rfl, rfl, rfl, rfl⟩
    · exact ⟨rfl, rfl, rfl, rfl, rfl⟩
  · exact ⟨rfl, rfl, rfl, rfl, rfl⟩
theorem Eqc.run : ∀ (n : Nat) {t u : Stt}, Eqc t u → Eqc (W.run s n t) (W.run s n u)
  | 0, _, _, e => e
  | n + 1, _, _, e => Eqc.run n e.next
/-- the map of a voice over n moments -/
def mv (s : Song) (v : Nat) : Nat → Stt → Mp
  | 0, _ => .sh 0
  | n + 1, t => (mpB (W.run s n t).moment ((rowAt s (W.run s n t).place (W.run s n t).row).getD v ⟨.non, none⟩)).comp (mv s v n t)
theorem mv_eqc (v : Nat) {t u : Stt} (e : Eqc t u) : ∀ n, mv s v n t = mv s v n u
  | 0 => rfl
  | n + 1 => by
    have h := e.run (s := s) n
    show Mp.comp _ (mv s v n t) = Mp.comp _ (mv s v n u)
    rw [mv_eqc v e n, h.m, h.p, h.r]
def HsOk (hs : List (Option Int)) : Prop := ∀ h ∈ hs, HOk1 h
theorem hs_get (h : WF s) {t : Stt} (ht : StOk s t) (ho : HsOk t.hs) {v : Nat} (hv : v < voices s) : ∃ x, t.hs[v]? = some x ∧ HOk1 x ∧ (nextS s t).hs[v]? = some ((mpB t.moment ((rowAt s t.place t.row).getD v ⟨.non, none⟩)).app x) := by
  have hl := row_len h ht.pl ht.rw
  have h1 : v < t.hs.length := by rw [ht.hl]; exact hv
  have h2 : v < (rowAt s t.place t.row).length := by omega
  refine ⟨t.hs[v], List.getElem?_eq_getElem h1, ho _ (List.getElem_mem h1), ?_⟩
  rw [nextS_hs]
  unfold hsAt
  rw [List.getElem?_zipWith, List.getElem?_eq_getElem h1, List.getElem?_eq_getElem h2]
  dsimp only
  rw [mpB_app _ _ _ (ho _ (List.getElem_mem h1)), List.getD_eq_getElem?_getD, List.getElem?_eq_getElem h2]
  rfl
theorem box_at (h : WF s) {t : Stt} (ht : StOk s t) {v : Nat} (hv : v < voices s) : BoxOk s.order.length ((rowAt s t.place t.row).getD v ⟨.non, none⟩) := by
  have hl := row_len h ht.pl ht.rw
  have h2 : v < (rowAt s t.place t.row).length := by omega
  rw [List.getD_eq_getElem?_getD, List.getElem?_eq_getElem h2]
  obtain ⟨_, _, _, hm⟩ := pat_get h ht.pl
  exact h.bx _ hm _ (row_get ht.rw).2 _ (List.getElem_mem h2)
theorem hs_next (h : WF s) {t : Stt} (ht : StOk s t) (ho : HsOk t.hs) : HsOk (nextS s t).hs := by
  intro x hx
  obtain ⟨v, hv, rfl⟩ := List.getElem_of_mem hx
  have hvv : v < voices s := by rw [← (next_ok h ht).hl]; exact hv
  obtain ⟨y, h1, h2, h3⟩ := hs_get h ht ho hvv
  rw [List.getElem?_eq_getElem hv] at h3
  rw [Option.some.inj h3]
  exact app_ok (mpB_ok (box_at h ht hvv)) y
theorem hs_run (h : WF s) : ∀ (n : Nat) {t : Stt}, StOk s t → HsOk t.hs → HsOk (W.run s n t).hs
  | 0, _, _, ho => ho
  | n + 1, _, ht, ho => hs_run h n (next_ok h ht) (hs_next h ht ho)
theorem mv_run (h : WF s) {t : Stt} (ht : StOk s t) (ho : HsOk t.hs) {v : Nat} (hv : v < voices s) {x : Option Int} (hx : t.hs[v]? = some x) : ∀ n, (W.run s n t).hs[v]? = some ((mv s v n t).app x)
  | 0 => by
    show t.hs[v]? = _
    rw [hx]
    have hh : HOk1 x := ho x (List.mem_of_getElem? hx)
    cases x with
    | none => rfl
    | some y =>
      have := hh y rfl
      show some (some y) = some (some ((y + 0) % 12))
      congr 2
      omega
  | n + 1 => by
    obtain ⟨y, h1, _, h3⟩ := hs_get h (run_ok h n ht) (hs_run h n ht ho) hv
    rw [run_succ, h3]
    rw [mv_run h ht ho hv hx n] at h1
    cases h1
    show _ = some ((Mp.comp _ _).app x)
    rw [app_comp]
/-- turns of a control that comes round -/
theorem turns (h : WF s) {t : Stt} (ht : StOk s t) (ho : HsOk t.hs) {P : Nat} (he : Eqc t (W.run s P t)) {v : Nat} (hv : v < voices s) {x : Option Int} (hx : t.hs[v]? = some x) : ∀ k, Eqc t (W.run s (k * P) t) ∧ (W.run s (k * P) t).hs[v]? = some (it (mv s v P t) k x)
  | 0 => by rw [Nat.zero_mul]; exact ⟨⟨rfl, rfl, rfl, rfl, rfl⟩, hx⟩
  | k + 1 => by
    obtain ⟨e1, e2⟩ := turns h ht ho he hv hx k
    rw [show (k + 1) * P = k * P + P by rw [Nat.add_mul, Nat.one_mul], run_add]
    have e3 := e1.run (s := s) P
    refine ⟨⟨he.p.trans e3.p, he.r.trans e3.r, he.i.trans e3.i, he.m.trans e3.m, he.s.trans e3.s⟩, ?_⟩
    have e4 := mv_run h (run_ok h (k * P) ht) (hs_run h (k * P) ht ho) hv e2 P
    rw [e4, ← mv_eqc v e1 P]
    rfl
theorem stt_ext {t u : Stt} (e : Eqc t u) (h : t.hs = u.hs) : t = u := by
  obtain ⟨a, b, c, d, sp, hs⟩ := t
  obtain ⟨a', b', c', d', sp', hs'⟩ := u
  obtain ⟨h1, h2, h3, h4, h5⟩ := e
  dsimp only at h1 h2 h3 h4 h5 h
  subst h1 h2 h3 h4 h5 h
  rfl
theorem come_13 (h : WF s) {t : Stt} (ht : StOk s t) (ho : HsOk t.hs) {P : Nat} (he : Eqc t (W.run s P t)) : W.run s (13 * P) t = W.run s (1 * P) t := by
  have l1 := (run_ok h (13 * P) ht).hl
  have l2 := (run_ok h (1 * P) ht).hl
  have ec : Eqc (W.run s (13 * P) t) (W.run s (1 * P) t) := by
    have hv : 0 < voices s := h.nv.1
    obtain ⟨x, hx⟩ : ∃ x, t.hs[0]? = some x := ⟨_, List.getElem?_eq_getElem (by rw [ht.hl]; exact hv)⟩
    obtain ⟨a, _⟩ := turns h ht ho he hv hx 13
    obtain ⟨b, _⟩ := turns h ht ho he hv hx 1
    exact ⟨a.p.symm.trans b.p, a.r.symm.trans b.r, a.i.symm.trans b.i, a.m.symm.trans b.m, a.s.symm.trans b.s⟩
  refine stt_ext ec ?_
  apply List.ext_getElem?
  intro v
  by_cases hv : v < voices s
  · obtain ⟨x, hx⟩ : ∃ x, t.hs[v]? = some x := ⟨_, List.getElem?_eq_getElem (by rw [ht.hl]; exact hv)⟩
    rw [(turns h ht ho he hv hx 13).2, (turns h ht ho he hv hx 1).2, it_13 _ _ (ho _ (List.mem_of_getElem? hx))]
  · rw [List.getElem?_eq_none (by omega), List.getElem?_eq_none (by omega)]
/-! ### how many controls there are -/
structure CtOk (s : Song) (t : Stt) : Prop where
  ti : t.times ≤ 3
  mo : t.moment < 4 ∧ (t.moment = 0 ∨ (t.moment : Int) < t.speed)
theorem ct_first : CtOk s (firstS s) := ⟨Nat.zero_le _, by show 0 < 4; decide, .inl rfl⟩
theorem ct_next (h : WF s) {t : Stt} (ht : StOk s t) (hs : SpOk t) (hc : CtOk s t) : CtOk s (nextS s t) := by
  have hsp := spAt_ok h ht hs
  unfold nextS
  split
  · unfold stateOn
    dsimp only
    cases ha : lastBy (rowAt s t.place t.row) .again with
    | none => exact ⟨Nat.zero_le _, by show 0 < 4; decide, .inl rfl⟩
    | some n =>
      dsimp only
      have hn : 1 ≤ n ∧ n ≤ 3 := last_ok h ht.pl ht.rw ha
      split
      · rename_i hlt
        exact ⟨by show t.times + 1 ≤ 3; omega, by show 0 < 4; decide, .inl rfl⟩
      · exact ⟨Nat.zero_le _, by show 0 < 4; decide, .inl rfl⟩
  · rename_i hne
    refine ⟨hc.ti, ?_⟩
    show t.moment + 1 < 4 ∧ (t.moment + 1 = 0 ∨ ((t.moment + 1 : Nat) : Int) < spAt s t)
    by_cases h0 : t.moment = 0
    · rw [h0] at hne ⊢
      omega
    · have e : spAt s t = t.speed := by
        unfold spAt
        rw [if_neg h0]
      have := hc.mo.2
      omega
theorem ct_run (h : WF s) : ∀ (n : Nat) {t : Stt}, StOk s t → SpOk t → CtOk s t → CtOk s (W.run s n t)
  | 0, _, _, _, hc => hc
  | n + 1, _, ht, hs, hc => ct_run h n (next_ok h ht) (sp_next h ht hs) (ct_next h ht hs hc)
def code (t : Stt) : Nat := (((t.place * 6 + t.row) * 4 + t.times) * 4 + t.moment) * 4 + (t.speed - 1).toNat
theorem code_lt (h : WF s) {t : Stt} (ht : StOk s t) (hs : SpOk t) (hc : CtOk s t) : code t < 2304 := by
  have h1 := ht.pl
  have h2 := h.on
  have h3 := pat_len h ht.pl
  have h4 := ht.rw
  have h5 := hc.ti
  have h6 := hc.mo.1
  unfold SpOk at hs
  unfold code
  omega
theorem code_inj (h : WF s) {t u : Stt} (ht : StOk s t) (hs : SpOk t) (hc : CtOk s t) (hu : StOk s u) (hs' : SpOk u) (hc' : CtOk s u) (e : code t = code u) : Eqc t u := by
  have h2 := h.on
  have h3 := pat_len h ht.pl
  have h4 := ht.rw
  have h3' := pat_len h hu.pl
  have h4' := hu.rw
  have h5 := hc.ti
  have h6 := hc.mo.1
  have h5' := hc'.ti
  have h6' := hc'.mo.1
  unfold SpOk at hs hs'
  unfold code at e
  refine ⟨?_, ?_, ?_, ?_, ?_⟩ <;> omega
theorem hs_first : HsOk (firstS s).hs := by
  intro x hx
  rw [List.eq_of_mem_replicate (show x ∈ List.replicate (voices s) none from hx)]
  intro y e
  cases e
/-- a state comes again -/
theorem comes (h : WF s) : ∃ i j, i < j ∧ j ≤ 32256 ∧ W.run s i (firstS s) = W.run s j (firstS s) := by
  have f0 := first_ok h
  have f1 := sp_first h
  have f2 := ct_first (s := s)
  obtain ⟨i, j, h1, h2, h3⟩ := pigeon (fun n => code (W.run s n (firstS s))) 2304 fun n => code_lt h (run_ok h n f0) (sp_run h n f0 f1) (ct_run h n f0 f1 f2)
  have e := code_inj h (run_ok h i f0) (sp_run h i f0 f1) (ct_run h i f0 f1 f2) (run_ok h j f0) (sp_run h j f0 f1) (ct_run h j f0 f1 f2) h3
  obtain ⟨P, rfl⟩ : ∃ P, j = i + P := ⟨j - i, by omega⟩
  rw [run_add] at e
  have e2 := come_13 h (run_ok h i f0) (hs_run h i f0 hs_first) e
  rw [← run_add, ← run_add] at e2
  exact ⟨i + 1 * P, i + 13 * P, by omega, by omega, e2.symm⟩
/-- the round: the first that comes again, and how soon -/
theorem round_ex (h : WF s) : ∃ a q, 1 ≤ q ∧ a + q ≤ 32256 ∧ W.run s a (firstS s) = W.run s (a + q) (firstS s) ∧ ∀ i j, i < j → j < a + q → W.run s i (firstS s) ≠ W.run s j (firstS s) := by
  obtain ⟨i, j, h1, h2, h3⟩ := comes h
  obtain ⟨J, ⟨a, ha, ea⟩, hmin⟩ := least (P := fun j => ∃ i, i < j ∧ W.run s i (firstS s) = W.run s j (firstS s)) ⟨j, i, h1, h3⟩
  have hJ : J ≤ j := Nat.le_of_not_lt fun z => hmin j z ⟨i, h1, h3⟩
  refine ⟨a, J - a, by omega, by omega, ?_, fun i j hij hj e => hmin j (by omega) ⟨i, hij, e⟩⟩
  rw [show a + (J - a) = J by omega]
  exact ea
theorem round_on {a q : Nat} (e : W.run s a (firstS s) = W.run s (a + q) (firstS s)) (n : Nat) (hn : a ≤ n) : W.run s (n + q) (firstS s) = W.run s n (firstS s) := by
  obtain ⟨k, rfl⟩ : ∃ k, n = a + k := ⟨n - a, by omega⟩
  rw [show a + k + q = a + q + k by omega, run_add, ← e, ← run_add]
end
end W

set_option Elab.async false
set_option linter.all false
set_option maxRecDepth 100000
set_option maxHeartbeats 2000000
/-! MSo4: what a song sounds is made by its rows. -/
namespace W
open PySem L2 PL
theorem hear_ok {s : Song} (h : WF s) : ∀ j x, x ∈ hear s j (firstS s) → ∀ z ∈ x, ∀ i, z = some i → 0 ≤ i ∧ i < 12 := fun j x hx z hz i e => by
  obtain ⟨k, hk, ek⟩ := List.mem_iff_getElem.mp hx
  have hk' : k < j := by rw [hear_len] at hk; exact hk
  have := hear_get s (firstS s) j k hk'
  rw [List.getElem?_eq_getElem hk, ek] at this
  have hs := hs_run h (k + 1) (first_ok h) hs_first
  rw [← Option.some.inj this] at hs
  exact hs z hz i e
theorem hear_good {s : Song} (h : WF s) {n : Nat} (hn : 1 ≤ n) : HsG (hear s n (firstS s)) (voices s) := by
  refine ⟨by rw [hear_len]; exact hn, h.nv, fun x hx => ?_, fun x hx => hear_ok h n x hx⟩
  obtain ⟨k, hk, ek⟩ := List.mem_iff_getElem.mp hx
  have hk' : k < n := by rw [hear_len] at hk; exact hk
  have := hear_get s (firstS s) n k hk'
  rw [List.getElem?_eq_getElem hk, ek] at this
  rw [Option.some.inj this]
  exact (run_ok h (k + 1) (first_ok h)).hl
/-- a song's rows are a way -/
theorem way_song {s : Song} (h : WF s) (m : Nat) : ∃ (q : Nat) (L : List Row), (1 ≤ q ∧ q ≤ 4) ∧ L.length = m ∧ Fit (hear s (rowMo s m) (firstS s)) 0 q L := by
  have hsp := h.sp
  obtain ⟨q, hq⟩ := Int.eq_ofNat_of_zero_le (show 0 ≤ s.speed by omega)
  obtain ⟨L, l1, l2⟩ := way_of h (hear_ok h) (m := m) m 0 (by omega) q hq
  exact ⟨q, L, by omega, l1, l2⟩
end W

set_option Elab.async false
set_option linter.all false
set_option maxRecDepth 100000
set_option maxHeartbeats 2000000
/-! K80a: _law_slides. -/
namespace W
open PySem L2 PL
def stp : Option Int → Option Int → Option Int
  | none, none => some 0
  | some a, some b => some ((b - a) % 12)
  | _, _ => none
def stepsF : Hs1 → Option (List Int)
  | [] => some []
  | [_] => some []
  | a :: b :: r => (stp a b).bind fun z => (stepsF (b :: r)).map (z :: ·)
def slR : Option (List Int) → D
  | none => .non
  | some ss => if ss = [] ∨ ss = List.replicate ss.length 0 then .int 0 else if ss = List.replicate ss.length (ss.getD 0 0) then .int 1 else .non
theorem rng_cons (lo : Int) (n : Nat) : rng lo (n + 1) = .int lo :: rng (lo + 1) n := by
  unfold rng
  rw [List.range_succ_eq_map, List.map_cons, List.map_map]
  congr 1
  · simp
  · apply List.map_congr_left
    intro k _
    show D.int (lo + ((k + 1 : Nat) : Int)) = D.int (lo + 1 + k)
    congr 1
    omega
theorem ix_pre (pre : List D) (d : D) (r : List D) : oIx (.lst (pre ++ d :: r)) (.int (pre.length : Int)) = some d := by
  rw [oIx_lst, atI_n]
  simp
theorem sl_step (pre : Hs1) (a b : Option Int) (r : Hs1) (l : List D) (hl : l.length < LIM) :
    B_L_slides_1 [.val (.lst ((pre ++ a :: b :: r).map encOI)), .own l, .val (.int ((pre.length : Int) + 1))] =
      match stp a b with
      | some z => .nx [.val (.lst ((pre ++ a :: b :: r).map encOI)), .own (l ++ [.int z]), .val (.int ((pre.length : Int) + 1))]
      | none => .rt .non := by
  have e1 : oIx (.lst ((pre ++ a :: b :: r).map encOI)) (.int ((pre.length : Int) + 1)) = some (encOI b) := by
    have := ix_pre ((pre ++ [a]).map encOI) (encOI b) (r.map encOI)
    rw [List.length_map, List.length_append, List.length_singleton] at this
    simp only [List.map_append, List.map_cons, List.map_nil, List.append_assoc, List.cons_append, List.nil_append] at this ⊢
    rw [show ((pre.length + 1 : Nat) : Int) = (pre.length : Int) + 1 by omega] at this
    exact this
  have e2 : oIx (.lst ((pre ++ a :: b :: r).map encOI)) (.int (pre.length : Int)) = some (encOI a) := by
    have := ix_pre (pre.map encOI) (encOI a) ((b :: r).map encOI)
    rw [List.length_map] at this
    simpa only [List.map_append, List.map_cons] using this
  have nb : ∀ x y : Bool, oNe (.bl x) (.bl y) = some (.bl (x != y)) := fun x y => by cases x <;> cases y <;> rfl
  generalize D.lst ((pre ++ a :: b :: r).map encOI) = L at *
  cases a with
  | none => cases b with
    | none => simp [e1, e2, stp, PL.isNon, hl, nb]
    | some y => simp [e1, e2, stp, PL.isNon, hl, nb]
  | some x => cases b with
    | none => simp [e1, e2, stp, PL.isNon, hl, nb]
    | some y => simp [e1, e2, stp, PL.isNon, hl, nb]
theorem sl_loop : ∀ (r pre : Hs1) (a : Option Int) (l : List D) (x2 : Sl), l.length + r.length < 1000 → ∃ y2,
    forL (tgN 2) B_L_slides_1 (rng ((pre.length : Int) + 1) r.length) [.val (.lst ((pre ++ a :: r).map encOI)), .own l, x2] =
      match stepsF (a :: r) with
      | some ss => .nx [.val (.lst ((pre ++ a :: r).map encOI)), .own (l ++ ss.map .int), y2]
      | none => .rt .non
  | [], pre, a, l, x2, _ => ⟨x2, by simp [rng, forL, stepsF]⟩
  | b :: r, pre, a, l, x2, hl => by
    rw [List.length_cons] at hl
    have st := sl_step pre a b r l (by show _ < 100000; omega)
    rw [List.length_cons, rng_cons]
    have tg : tgN 2 (.int ((pre.length : Int) + 1)) [.val (.lst ((pre ++ a :: b :: r).map encOI)), .own l, x2] = some [.val (.lst ((pre ++ a :: b :: r).map encOI)), .own l, .val (.int ((pre.length : Int) + 1))] := rfl
    cases hs : stp a b with
    | none =>
      rw [hs] at st
      refine ⟨x2, ?_⟩
      unfold forL
      rw [tg]
      dsimp only
      rw [st]
      simp [stepsF, hs]
    | some z =>
      rw [hs] at st
      obtain ⟨y2, ih⟩ := sl_loop r (pre ++ [a]) b (l ++ [.int z]) (.val (.int ((pre.length : Int) + 1))) (by simp; omega)
      refine ⟨y2, ?_⟩
      conv => lhs; unfold forL
      rw [tg]
      dsimp only
      rw [st]
      dsimp only
      rw [List.length_append, List.length_singleton, show ((pre.length + 1 : Nat) : Int) + 1 = (pre.length : Int) + 1 + 1 by omega, List.append_assoc, List.singleton_append] at ih
      rw [ih]
      simp only [stepsF, hs, Option.bind_some]
      cases stepsF (b :: r) with
      | none => rfl
      | some ss => simp
theorem eq_intsL (l m : List Int) : oEq (.lst (l.map D.int)) (.lst (m.map D.int)) = some (.bl (decide (l = m))) := by
  by_cases h : l = m
  · subst h
    rw [decide_eq_true rfl]
    exact oEq_same (n := 1) (pl_lst (pl_map fun _ => rfl))
  · rw [decide_eq_false h]
    refine oEq_diff (n := 1) (m := 1) (pl_lst (pl_map fun _ => rfl)) (pl_lst (pl_map fun _ => rfl)) fun z => h ?_
    have z : l.map D.int = m.map D.int := D.lst.inj z
    exact (List.map_inj_right (fun a b e => by cases e; rfl)).mp z
theorem r2_one (n : Int) (h0 : 0 ≤ n) (h1 : n ≤ 1000) : r2F (.int 1) (.int (n + 1)) = .ok (rng 1 n.toNat) := by
  have hb : -1000000 ≤ n + 1 ∧ n + 1 ≤ 1000000 := by omega
  have hs : n + 1 - 1 = n := by omega
  simp [hb, hs]
end W

set_option Elab.async false
set_option linter.all false
set_option maxRecDepth 100000
set_option maxHeartbeats 2000000
/-! K80b: _law_slides, whole; what it says of parts. -/
namespace W
open PySem L2 PL
theorem sl_all (a : Option Int) (r : Hs1) (h2 : ([] : List D).length + r.length < 1000) : ∃ y2, (∀ ss, stepsF (a :: r) = some ss → forL (tgN 2) B_L_slides_1 (rng 1 r.length) [.val (.lst ((a :: r).map encOI)), .own [], .un] = .nx [.val (.lst ((a :: r).map encOI)), .own (ss.map .int), y2]) ∧
    (stepsF (a :: r) = none → forL (tgN 2) B_L_slides_1 (rng 1 r.length) [.val (.lst ((a :: r).map encOI)), .own [], .un] = .rt .non) := by
  obtain ⟨y2, e⟩ := sl_loop r [] a [] .un h2
  have h01 : (((([] : Hs1).length : Nat) : Int) + 1) = 1 := rfl
  rw [h01] at e
  refine ⟨y2, fun ss hs => ?_, fun hs => ?_⟩
  · rw [hs] at e
    exact e
  · rw [hs] at e
    exact e
theorem sl_for (L : D) (N : Int) (R : List D) (z : Fl) (ln : oLen L = some (.int N)) (rg : r2F (.int 1) (.int N) = .ok R) (e : forL (tgN 2) B_L_slides_1 R [.val L, .own [], .un] = z) :
    sFor (iR2 (dC (.int 1)) (d1 oLen (dVar 0))) (tgN 2) B_L_slides_1 [.val L, .own [], .un] = z := by
  simp [-r2F_int, ln, rg, e]
theorem mul_one (x : D) (n : Nat) (h : n ≤ 1000) : oMul (.lst [x]) (.int (n : Int)) = some (.lst (List.replicate n x)) := by
  have h1 : decide (-1000 ≤ (n : Int)) = true := decide_eq_true (by omega)
  have h2 : decide ((n : Int) ≤ 1000) = true := decide_eq_true (by omega)
  have h3 : (List.replicate n [x]).flatten = List.replicate n x := by
    induction n with
    | zero => rfl
    | succ n ih => rw [List.replicate_succ, List.flatten_cons, ih (by omega) (decide_eq_true (by omega)) (decide_eq_true (by omega))]; rfl
  rw [oMul_lst, h1, h2, Int.toNat_natCast, h3]
  rfl
theorem sl_end (L : D) (ss : List Int) (y2 : Sl) (h : ss.length ≤ 1000) : runF ((sSeq (sIf (dOrT (dTestB (d2 oEq (vVar 1) (dLst (lLst [])))) (dTestB (d2 oEq (vVar 1) (d2 oMul (dLst (lLst [(dC (.int 0))])) (d1 oLen (vVar 1))))))
    (sRet (dC (.int 0)))
    sNil)
    (sRet (dIf (dTestB (d2 oEq (vVar 1) (d2 oMul (dLst (lLst [(d2 oIx (vVar 1) (dC (.int 0)))])) (d1 oLen (vVar 1))))) (dC (.int 1)) (dC .non)))) [.val L, .own (ss.map .int), y2]) = .ok (slR (some ss)) := by
  have q1 := eq_intsL ss []
  have q2 := eq_intsL ss (List.replicate ss.length 0)
  have q3 := eq_intsL ss (List.replicate ss.length (ss.getD 0 0))
  have m1 := mul_one (.int 0) ss.length h
  have m2 := mul_one (.int (ss.getD 0 0)) ss.length h
  have ln : oLen (.lst (ss.map D.int)) = some (.int (ss.length : Int)) := by rw [oLen_lst, List.length_map]
  rw [List.map_nil] at q1
  rw [List.map_replicate] at q2 q3
  have er : slR (some ss) = if ss = [] ∨ ss = List.replicate ss.length 0 then .int 0 else if ss = List.replicate ss.length (ss.getD 0 0) then .int 1 else .non := rfl
  rw [er]
  clear er
  by_cases h1 : ss = []
  · subst h1
    rw [if_pos (.inl rfl)]
    simp at q1
    simp [q1]
  · have ix : oIx (.lst (ss.map D.int)) (.int 0) = some (.int (ss.getD 0 0)) := by
      cases ss with
      | nil => exact absurd rfl h1
      | cons x r => simp
    rw [decide_eq_false h1] at q1
    generalize ss.map D.int = sl at *
    generalize List.replicate ss.length (D.int 0) = z1 at *
    generalize List.replicate ss.length (D.int (ss.getD 0 0)) = z2 at *
    by_cases h2 : ss = List.replicate ss.length 0
    · rw [if_pos (.inr h2)]
      rw [decide_eq_true h2] at q2
      simp [-oLen_lst, -oMul_lst, q1, ln, m1, q2]
    · rw [if_neg (by rintro (z | z); exact h1 z; exact h2 z)]
      rw [decide_eq_false h2] at q2
      by_cases h3 : ss = List.replicate ss.length (ss.getD 0 0)
      · rw [if_pos h3]
        rw [decide_eq_true h3] at q3
        generalize ss.getD 0 0 = g0 at *
        simp [-oLen_lst, -oMul_lst, -oIx_lst, q1, ln, m1, q2, ix, m2, q3]
      · rw [if_neg h3]
        rw [decide_eq_false h3] at q3
        generalize ss.getD 0 0 = g0 at *
        simp [-oLen_lst, -oMul_lst, -oIx_lst, q1, ln, m1, q2, ix, m2, q3]
theorem steps_len : ∀ (p : Hs1) (ss : List Int), stepsF p = some ss → ss.length + 1 = p.length ∨ p = []
  | [], _, _ => .inr rfl
  | [_], ss, h => by
    cases h
    exact .inl rfl
  | a :: b :: r, ss, h => by
    unfold stepsF at h
    cases hz : stp a b with
    | none => rw [hz] at h; cases h
    | some z =>
      rw [hz] at h
      cases hr : stepsF (b :: r) with
      | none => rw [hr] at h; cases h
      | some s2 =>
        rw [hr] at h
        cases h
        rcases steps_len (b :: r) s2 hr with e | e
        · left
          simp only [List.length_cons] at *
          omega
        · cases e
theorem e_slides (p : Hs1) (h1 : 1 ≤ p.length) (h2 : p.length < 1000) : M_L_slides [.lst (p.map encOI)] = .ok (slR (stepsF p)) := by
  cases p with
  | nil => simp at h1
  | cons a r =>
    rw [List.length_cons] at h2
    obtain ⟨y2, e1, e2⟩ := sl_all a r (by rw [List.length_nil]; omega)
    have rg := r2_one (r.length : Int) (by omega) (by omega)
    rw [Int.toNat_natCast] at rg
    have ln : oLen (.lst ((a :: r).map encOI)) = some (.int ((r.length : Int) + 1)) := by rw [oLen_lst, List.length_map, List.length_cons]; rfl
    generalize D.lst ((a :: r).map encOI) = L at *
    have start : ∀ {o : Out D} {f : DS}, runF (f [.val L, .un, .un]) = o → runD 3 f [L] = o := fun h => h
    unfold M_L_slides B_L_slides
    refine start (run_step (ε' := [.val L, .own [], .un]) (by simp) ?_)
    cases hs : stepsF (a :: r) with
    | none =>
      have s2 := sl_for L _ _ _ ln rg (e2 hs)
      have : ∀ (f g : DS) (ε : Ev) (d : D), f ε = .rt d → runF (sSeq f g ε) = .ok d := fun f g ε d h => by simp [h]
      exact this _ _ _ _ s2
    | some ss =>
      refine run_step (sl_for L _ _ _ ln rg (e1 ss hs)) ?_
      refine sl_end L ss y2 ?_
      rcases steps_len (a :: r) ss hs with e | e
      · rw [List.length_cons] at e
        omega
      · cases e
end W

set_option Elab.async false
set_option linter.all false
set_option maxRecDepth 100000
set_option maxHeartbeats 2000000
/-! K80c: what _law_slides says of a part. -/
namespace W
open PySem L2 PL
theorem sl2 {a b : Int} (ha : 0 ≤ a ∧ a < 12) (hb : 0 ≤ b ∧ b < 12) : slideFor [some a, some b] = some (wrap6 ((b - a) % 12)) := by
  unfold slideFor
  rw [if_neg (by simp), if_neg (by simp)]
  refine if_pos ?_
  show (([0, 1] : List Nat).all fun k => decide (pI [some a, some b] k = (pI [some a, some b] 0 + wrap6 ((pI [some a, some b] 1 - pI [some a, some b] 0) % 12) * k) % 12)) = true
  have e0 : pI [some a, some b] 0 = a := rfl
  have e1 : pI [some a, some b] 1 = b := rfl
  rw [e0, e1]
  simp only [List.all_cons, List.all_nil, Bool.and_true, Bool.and_eq_true, decide_eq_true_eq, e0, e1]
  unfold wrap6
  split <;> omega
theorem sl3 {a b c : Int} (ha : 0 ≤ a ∧ a < 12) (hb : 0 ≤ b ∧ b < 12) (hc : 0 ≤ c ∧ c < 12) : slideFor [some a, some b, some c] = if (b - a) % 12 = (c - b) % 12 then some (wrap6 ((b - a) % 12)) else none := by
  unfold slideFor
  rw [if_neg (by simp), if_neg (by simp)]
  have e0 : pI [some a, some b, some c] 0 = a := rfl
  have e1 : pI [some a, some b, some c] 1 = b := rfl
  have e2 : pI [some a, some b, some c] 2 = c := rfl
  have q : ((List.range [some a, some b, some c].length).all fun k => decide (pI [some a, some b, some c] k = (pI [some a, some b, some c] 0 + wrap6 ((pI [some a, some b, some c] 1 - pI [some a, some b, some c] 0) % 12) * k) % 12)) = true ↔ (b - a) % 12 = (c - b) % 12 := by
    show (([0, 1, 2] : List Nat).all _) = true ↔ _
    rw [e0, e1]
    simp only [List.all_cons, List.all_nil, Bool.and_true, Bool.and_eq_true, decide_eq_true_eq, e0, e1, e2]
    unfold wrap6
    split <;> omega
  rw [e0, e1] at *
  by_cases h : (b - a) % 12 = (c - b) % 12
  · rw [if_pos (q.mpr h), if_pos h]
  · rw [if_neg (fun z => h (q.mp z)), if_neg h]
theorem sl4 {a b c d : Int} (ha : 0 ≤ a ∧ a < 12) (hb : 0 ≤ b ∧ b < 12) (hc : 0 ≤ c ∧ c < 12) (hd : 0 ≤ d ∧ d < 12) : slideFor [some a, some b, some c, some d] = if (b - a) % 12 = (c - b) % 12 ∧ (b - a) % 12 = (d - c) % 12 then some (wrap6 ((b - a) % 12)) else none := by
  unfold slideFor
  rw [if_neg (by simp), if_neg (by simp)]
  have e0 : pI [some a, some b, some c, some d] 0 = a := rfl
  have e1 : pI [some a, some b, some c, some d] 1 = b := rfl
  have e2 : pI [some a, some b, some c, some d] 2 = c := rfl
  have e3 : pI [some a, some b, some c, some d] 3 = d := rfl
  have q : ((List.range [some a, some b, some c, some d].length).all fun k => decide (pI [some a, some b, some c, some d] k = (pI [some a, some b, some c, some d] 0 + wrap6 ((pI [some a, some b, some c, some d] 1 - pI [some a, some b, some c, some d] 0) % 12) * k) % 12)) = true ↔ ((b - a) % 12 = (c - b) % 12 ∧ (b - a) % 12 = (d - c) % 12) := by
    show (([0, 1, 2, 3] : List Nat).all _) = true ↔ _
    rw [e0, e1]
    simp only [List.all_cons, List.all_nil, Bool.and_true, Bool.and_eq_true, decide_eq_true_eq, e0, e1, e2, e3]
    unfold wrap6
    split <;> omega
  rw [e0, e1] at *
  by_cases h : (b - a) % 12 = (c - b) % 12 ∧ (b - a) % 12 = (d - c) % 12
  · rw [if_pos (q.mpr h), if_pos h]
  · rw [if_neg (fun z => h (q.mp z)), if_neg h]
theorem wrap_0 {x : Int} : wrap6 (x % 12) = 0 ↔ x % 12 = 0 := by
  unfold wrap6
  split <;> omega
def Says (p : Hs1) : Prop := (slR (stepsF p) = .non ∧ slideFor p = none) ∨ (slR (stepsF p) = .int 0 ∧ slideFor p = some 0) ∨ (slR (stepsF p) = .int 1 ∧ ∃ b, slideFor p = some b ∧ b ≠ 0)
theorem slR1 (s : Int) : slR (some [s]) = if s = 0 then .int 0 else .int 1 := by
  simp [slR]
theorem slR2 (s t : Int) : slR (some [s, t]) = if s = 0 ∧ t = 0 then .int 0 else if t = s then .int 1 else .non := by
  simp [slR, List.replicate]
theorem slR3 (s t u : Int) : slR (some [s, t, u]) = if s = 0 ∧ t = 0 ∧ u = 0 then .int 0 else if t = s ∧ u = s then .int 1 else .non := by
  simp [slR, List.replicate]
theorem says2 {a b : Int} (ha : 0 ≤ a ∧ a < 12) (hb : 0 ≤ b ∧ b < 12) : Says [some a, some b] := by
  unfold Says
  have e : stepsF [some a, some b] = some [(b - a) % 12] := rfl
  rw [e, sl2 ha hb, slR1]
  by_cases h : (b - a) % 12 = 0
  · rw [if_pos h]
    exact .inr (.inl ⟨rfl, by rw [wrap_0.mpr h]⟩)
  · rw [if_neg h]
    exact .inr (.inr ⟨rfl, _, rfl, fun z => h (wrap_0.mp z)⟩)
theorem says3 {a b c : Int} (ha : 0 ≤ a ∧ a < 12) (hb : 0 ≤ b ∧ b < 12) (hc : 0 ≤ c ∧ c < 12) : Says [some a, some b, some c] := by
  unfold Says
  have e : stepsF [some a, some b, some c] = some [(b - a) % 12, (c - b) % 12] := rfl
  rw [e, sl3 ha hb hc, slR2]
  by_cases h : (b - a) % 12 = 0 ∧ (c - b) % 12 = 0
  · rw [if_pos h, if_pos (by omega), wrap_0.mpr h.1]
    exact .inr (.inl ⟨rfl, rfl⟩)
  · rw [if_neg h]
    by_cases h2 : (c - b) % 12 = (b - a) % 12
    · rw [if_pos h2, if_pos h2.symm]
      exact .inr (.inr ⟨rfl, _, rfl, fun z => h ⟨wrap_0.mp z, by rw [h2]; exact wrap_0.mp z⟩⟩)
    · rw [if_neg h2, if_neg (fun z => h2 z.symm)]
      exact .inl ⟨rfl, rfl⟩
theorem says4 {a b c d : Int} (ha : 0 ≤ a ∧ a < 12) (hb : 0 ≤ b ∧ b < 12) (hc : 0 ≤ c ∧ c < 12) (hd : 0 ≤ d ∧ d < 12) : Says [some a, some b, some c, some d] := by
  unfold Says
  have e : stepsF [some a, some b, some c, some d] = some [(b - a) % 12, (c - b) % 12, (d - c) % 12] := rfl
  rw [e, sl4 ha hb hc hd, slR3]
  by_cases h : (b - a) % 12 = 0 ∧ (c - b) % 12 = 0 ∧ (d - c) % 12 = 0
  · rw [if_pos h, if_pos (by omega), wrap_0.mpr h.1]
    exact .inr (.inl ⟨rfl, rfl⟩)
  · rw [if_neg h]
    by_cases h2 : (c - b) % 12 = (b - a) % 12 ∧ (d - c) % 12 = (b - a) % 12
    · rw [if_pos h2, if_pos ⟨h2.1.symm, h2.2.symm⟩]
      exact .inr (.inr ⟨rfl, _, rfl, fun z => h ⟨wrap_0.mp z, by rw [h2.1]; exact wrap_0.mp z, by rw [h2.2]; exact wrap_0.mp z⟩⟩)
    · rw [if_neg h2, if_neg (fun z => h2 ⟨z.1.symm, z.2.symm⟩)]
      exact .inl ⟨rfl, rfl⟩
theorem slides_all (p : Hs1) (h1 : 1 ≤ p.length ∧ p.length ≤ 4) (hp : ∀ x ∈ p, ∀ i, x = some i → 0 ≤ i ∧ i < 12) : Says p := by
  match p, h1, hp with
  | [a], _, hp =>
    cases a with
    | none => exact .inr (.inl ⟨rfl, rfl⟩)
    | some x => exact .inr (.inl ⟨rfl, rfl⟩)
  | [a, b], _, hp =>
    cases a with
    | none => cases b with
      | none => exact .inr (.inl ⟨rfl, rfl⟩)
      | some y => exact .inl ⟨rfl, rfl⟩
    | some x => cases b with
      | none => exact .inl ⟨rfl, rfl⟩
      | some y => exact says2 (hp _ (by simp) x rfl) (hp (some y) (by simp) y rfl)
  | [a, b, c], _, hp =>
    cases a with
    | none => cases b with
      | none => cases c with
        | none => exact .inr (.inl ⟨rfl, rfl⟩)
        | some z => exact .inl ⟨rfl, rfl⟩
      | some y => cases c with
        | none => exact .inl ⟨rfl, rfl⟩
        | some z => exact .inl ⟨rfl, rfl⟩
    | some x => cases b with
      | none => cases c with
        | none => exact .inl ⟨rfl, rfl⟩
        | some z => exact .inl ⟨rfl, rfl⟩
      | some y => cases c with
        | none => exact .inl ⟨rfl, rfl⟩
        | some z => exact says3 (hp _ (by simp) x rfl) (hp (some y) (by simp) y rfl) (hp (some z) (by simp) z rfl)
  | [a, b, c, d], _, hp =>
    cases a with
    | none => cases b with
      | none => cases c with
        | none => cases d with
          | none => exact .inr (.inl ⟨rfl, rfl⟩)
          | some u => exact .inl ⟨rfl, rfl⟩
        | some z => cases d <;> exact .inl ⟨rfl, rfl⟩
      | some y => cases c <;> cases d <;> exact .inl ⟨rfl, rfl⟩
    | some x => cases b with
      | none => cases c <;> cases d <;> exact .inl ⟨rfl, rfl⟩
      | some y => cases c with
        | none => cases d <;> exact .inl ⟨rfl, rfl⟩
        | some z => cases d with
          | none => exact .inl ⟨rfl, rfl⟩
          | some u => exact says4 (hp _ (by simp) x rfl) (hp (some y) (by simp) y rfl) (hp (some z) (by simp) z rfl) (hp (some u) (by simp) u rfl)
  | [], h, _ => exact absurd h.1 (by simp)
  | _ :: _ :: _ :: _ :: _ :: _, h, _ => exact absurd h.2 (by simp)
end W

set_option Elab.async false
set_option linter.all false
set_option maxRecDepth 100000
set_option maxHeartbeats 2000000
/-! K80d: rows for a part, by what _law_slides says. -/
namespace W
open PySem L2 PL
theorem cut_at (xs : List D) (a m : Nat) : cut xs (some (a : Int)) (some ((a : Int) + m)) = (xs.drop a).take m := by
  unfold cut
  rw [show ((a : Int) + m) = ((a + m : Nat) : Int) by omega, HT.sIx_nat, HT.sIx_nat]
  by_cases h : a ≤ xs.length
  · rw [Nat.min_eq_left h, List.take_eq_take_iff, List.length_drop]
    omega
  · rw [List.drop_eq_nil_of_le (by omega), List.drop_eq_nil_of_le (by omega)]
    simp
section
variable {hs : List Hs1} {v : Nat}
theorem part_eq {a m : Nat} (h : a + m ≤ hs.length) (u : Nat) : ((hs.drop a).take m).map (fun x => x.getD u none) = partOf hs a m u := by
  unfold partOf
  refine List.ext_getElem? fun k => ?_
  rw [List.getElem?_map, List.getElem?_map, List.getElem?_take]
  by_cases hk : k < m
  · rw [if_pos hk, List.getElem?_range hk, List.getElem?_drop, List.getElem?_eq_getElem (show a + k < hs.length by omega)]
    show some (List.getD hs[a + k] u none) = some (List.getD (hs.getD (a + k) []) u none)
    rw [List.getD_eq_getElem?_getD (l := hs), List.getElem?_eq_getElem (show a + k < hs.length by omega)]
    rfl
  · rw [if_neg hk, List.getElem?_eq_none (by simpa using hk)]
    rfl
theorem boxes_iff (g : HsG hs v) {a m sp : Nat} (h1 : 1 ≤ m) (h2 : a + m ≤ hs.length) :
    (∃ r, boxesFor hs a m sp = some r) ↔ ((∀ u, u < v → slideFor (partOf hs a m u) ≠ none) ∧ (m = sp ∨ ∃ u, u < v ∧ slideFor (partOf hs a m u) = some 0)) := by
  have hv := (g.get (k := a) (by omega)).1
  constructor
  · rintro ⟨r, hr⟩
    have R := row_for hr
    have rl := R.len
    rw [hv] at rl
    refine ⟨fun u hu => ?_, ?_⟩
    · obtain ⟨b, c, _, e, _⟩ := R.bx u (by omega)
      rw [e]
      exact fun z => by cases z
    · by_cases hm : m = sp
      · exact .inl hm
      · right
        unfold boxesFor at hr
        cases hmf : madeFor hs a m with
        | none => rw [hmf] at hr; cases hr
        | some r0 =>
          rw [hmf] at hr
          have hr : (if m = sp then some r0 else putSp m r0) = some r := hr
          rw [if_neg hm] at hr
          obtain ⟨u, b, q1, q2, _⟩ := put_get hr
          obtain ⟨l0, gt⟩ := made_get hmf
          obtain ⟨b', w1, w2⟩ := gt u (lt_of_get q1)
          rw [q1] at w1
          cases w1
          refine ⟨u, by rw [← hv, ← l0]; exact lt_of_get q1, ?_⟩
          unfold boxFor at w2
          cases hsl : slideFor (partOf hs a m u) with
          | none => rw [hsl] at w2; cases w2
          | some c =>
            rw [hsl] at w2
            cases w2
            by_cases hc : c = 0
            · rw [hc]
            · have q2 : (if c = 0 then none else some (Wd.slide, c)) = none := q2
              rw [if_neg hc] at q2
              cases q2
  · rintro ⟨q1, q2⟩
    obtain ⟨r0, hr0⟩ := allB_of (l := (List.range (hs.getD a []).length).map fun u => boxFor (partOf hs a m u)) (fun x hx => by
      obtain ⟨u, hu, rfl⟩ := List.mem_map.mp hx
      have hu := List.mem_range.mp hu
      rw [hv] at hu
      unfold boxFor
      cases hsl : slideFor (partOf hs a m u) with
      | none => exact absurd hsl (q1 u hu)
      | some c => exact fun z => by cases z)
    have hmf : madeFor hs a m = some r0 := hr0
    unfold boxesFor
    rw [hmf]
    show ∃ r, (if m = sp then some r0 else putSp m r0) = some r
    by_cases hm : m = sp
    · rw [if_pos hm]
      exact ⟨r0, rfl⟩
    · rw [if_neg hm]
      obtain ⟨u, hu, hs0⟩ := q2.resolve_left hm
      obtain ⟨l0, gt⟩ := made_get hmf
      obtain ⟨b, w1, w2⟩ := gt u (by rw [l0, hv]; exact hu)
      refine put_of ⟨b, List.mem_of_getElem? w1, ?_⟩
      unfold boxFor at w2
      rw [hs0] at w2
      cases w2
      rfl
/-! ### the slides of all voices -/
def slD (hs : List Hs1) (v a m : Nat) : List D := (List.range v).map fun u => slR (stepsF (partOf hs a m u))
def nonB : D → Bool
  | .non => true
  | _ => false
def zeroB : D → Bool
  | .int i => decide (i = 0)
  | _ => false
theorem in_slides (g : HsG hs v) {a m : Nat} (h1 : 1 ≤ m ∧ m ≤ 4) (h2 : a + m ≤ hs.length) :
    oNotIn .non (.lst (slD hs v a m)) = some (.bl (!(slD hs v a m).any nonB)) ∧ oIn (.int 0) (.lst (slD hs v a m)) = some (.bl ((slD hs v a m).any zeroB)) := by
  have all : ∀ d ∈ slD hs v a m, d = .non ∨ d = .int 0 ∨ d = .int 1 := fun d hd => by
    obtain ⟨u, hu, rfl⟩ := List.mem_map.mp hd
    rcases slides_all (partOf hs a m u) (by rw [part_len]; exact h1) (fun x hx i e => by
      obtain ⟨k, hk, ek⟩ := List.mem_iff_getElem.mp hx
      rw [part_len] at hk
      refine part_ok g h2 (u := u) hk i ?_
      rw [List.getD_eq_getElem?_getD, List.getElem?_eq_getElem (by rw [part_len]; exact hk), ek]
      exact e) with q | q | q
    · exact .inl q.1
    · exact .inr (.inl q.1)
    · exact .inr (.inr q.1)
  generalize slD hs v a m = ds at all
  have hok : eqok (.lst ds) = true := pl_ok (n := 1) (pl_lst fun d hd => by rcases all d hd with rfl | rfl | rfl <;> rfl)
  have e1 : ds.any (fun z => deq z .non) = ds.any nonB := by
    induction ds with
    | nil => rfl
    | cons d ds ih =>
      rw [List.any_cons, List.any_cons, ih (fun x hx => all x (List.mem_cons_of_mem _ hx)) (pl_ok (n := 1) (pl_lst fun x hx => by rcases all x (List.mem_cons_of_mem _ hx) with rfl | rfl | rfl <;> rfl))]
      congr 1
      rcases all d (List.mem_cons_self ..) with rfl | rfl | rfl <;> rfl
  have e2 : ds.any (fun z => deq z (.int 0)) = ds.any zeroB := by
    clear e1
    induction ds with
    | nil => rfl
    | cons d ds ih =>
      rw [List.any_cons, List.any_cons, ih (fun x hx => all x (List.mem_cons_of_mem _ hx)) (pl_ok (n := 1) (pl_lst fun x hx => by rcases all x (List.mem_cons_of_mem _ hx) with rfl | rfl | rfl <;> rfl))]
      congr 1
      rcases all d (List.mem_cons_self ..) with rfl | rfl | rfl <;> rfl
  constructor
  · unfold oNotIn
    rw [oInB_lst, hok, e1]
    rfl
  · unfold oIn
    rw [oInB_lst, hok, e2]
    rfl
def okM (hs : List Hs1) (v a m sp : Nat) : Bool := !(slD hs v a m).any nonB && (decide (m = sp) || (slD hs v a m).any zeroB)
theorem okM_iff (g : HsG hs v) {a m sp : Nat} (h1 : 1 ≤ m ∧ m ≤ 4) (h2 : a + m ≤ hs.length) : okM hs v a m sp = true ↔ ∃ r, boxesFor hs a m sp = some r := by
  have say : ∀ u, Says (partOf hs a m u) := fun u => slides_all (partOf hs a m u) (by rw [part_len]; exact h1) (fun x hx i e => by
      obtain ⟨k, hk, ek⟩ := List.mem_iff_getElem.mp hx
      rw [part_len] at hk
      refine part_ok g h2 (u := u) hk i ?_
      rw [List.getD_eq_getElem?_getD, List.getElem?_eq_getElem (by rw [part_len]; exact hk), ek]
      exact e)
  have n1 : ∀ u, nonB (slR (stepsF (partOf hs a m u))) = true ↔ slideFor (partOf hs a m u) = none := fun u => by
    rcases say u with ⟨q1, q2⟩ | ⟨q1, q2⟩ | ⟨q1, b, q2, q3⟩
    · rw [q1, q2]; simp [nonB]
    · rw [q1, q2]; simp [nonB]
    · rw [q1, q2]; simp [nonB]
  have z1 : ∀ u, zeroB (slR (stepsF (partOf hs a m u))) = true ↔ slideFor (partOf hs a m u) = some 0 := fun u => by
    rcases say u with ⟨q1, q2⟩ | ⟨q1, q2⟩ | ⟨q1, b, q2, q3⟩
    · rw [q1, q2]; simp [zeroB]
    · rw [q1, q2]; simp [zeroB]
    · rw [q1, q2]; simp [zeroB, q3]
  rw [boxes_iff g h1.1 h2]
  unfold okM slD
  rw [Bool.and_eq_true, Bool.or_eq_true, decide_eq_true_eq, Bool.not_eq_true', List.any_eq_false, List.any_eq_true]
  constructor
  · rintro ⟨q1, q2⟩
    refine ⟨fun u hu e => q1 _ (List.mem_map.mpr ⟨u, List.mem_range.mpr hu, rfl⟩) ((n1 u).mpr e), ?_⟩
    rcases q2 with q2 | ⟨d, hd, q2⟩
    · exact .inl q2
    · obtain ⟨u, hu, rfl⟩ := List.mem_map.mp hd
      exact .inr ⟨u, List.mem_range.mp hu, (z1 u).mp q2⟩
  · rintro ⟨q1, q2⟩
    refine ⟨fun d hd e => ?_, ?_⟩
    · obtain ⟨u, hu, rfl⟩ := List.mem_map.mp hd
      exact q1 u (List.mem_range.mp hu) ((n1 u).mp e)
    · rcases q2 with q2 | ⟨u, hu, q2⟩
      · exact .inl q2
      · exact .inr ⟨_, List.mem_map.mpr ⟨u, List.mem_range.mpr hu, rfl⟩, (z1 u).mpr q2⟩
end
end W

set_option Elab.async false
set_option linter.all false
set_option maxRecDepth 100000
set_option maxHeartbeats 2000000
/-! K80e: _law_fewest. -/
namespace W
open PySem L2 PL
abbrev I_few : DS := (sIf (dAndT (dTestB (d2 oNotIn (dC .non) (dVar 10))) (dOrT (dTestB (d2 oEq (dVar 6) (dVar 3))) (dTestB (d2 oIn (dC (.int 0)) (dVar 10)))))
    (sApp 5 (d2 oAdd (dC (.int 1)) (dDGet 2 (dTup [(d2 oAdd (dVar 4) (dVar 6)), (dVar 6)]))))
    sNil)
theorem few_if (H : D) (n a m sp x : Int) (kvs : List (D × D)) (l : List D) (S : D) (y7 : Sl) (b1 b2 : Bool) (h1 : oNotIn .non S = some (.bl b1)) (h2 : oIn (.int 0) S = some (.bl b2)) (hk : lkD kvs (.tup [.int (a + m), .int m]) = some (.int x)) (hko : keyOk (.tup [.int (a + m), .int m]) = true) (hl : l.length < LIM) :
    I_few [.val H, .val (.int n), .dct kvs, .val (.int sp), .val (.int a), .own l, .val (.int m), y7, .un, .un, .val S, .un] =
    .nx [.val H, .val (.int n), .dct kvs, .val (.int sp), .val (.int a), .own (if (b1 && (decide (m = sp) || b2)) = true then l ++ [.int (1 + x)] else l), .val (.int m), y7, .un, .un, .val S, .un] := by
  by_cases e : m = sp
  · subst e
    cases b1 <;> cases b2 <;> simp [h1, h2, hk, hko, hl]
  · cases b1 <;> cases b2 <;> simp [h1, h2, hk, hko, hl, e]
section
variable {hs : List Hs1} {v : Nat}
theorem few_row {u : Nat} (hu : u < v) {x : Hs1} (hx : x.length = v) : oIx (encHs x) (.int (u : Int)) = some (encOI (x.getD u none)) := by
  unfold encHs hsL
  rw [oIx_tup, atI_n, List.getElem?_map, List.getElem?_eq_getElem (by omega), List.getD_eq_getElem?_getD, List.getElem?_eq_getElem (by omega)]
  rfl
theorem few_part (g : HsG hs v) {a m u : Nat} (hu : u < v) (h1 : 1 ≤ m ∧ m ≤ 4) (h2 : a + m ≤ hs.length) (x1 x2 x3 x5 x7 x10 x11 : Sl) :
    E_L_fewest_3 [.val (encHs1 hs), x1, x2, x3, .val (.int a), x5, .val (.int m), x7, .un, .val (.int u), x10, x11] = .ok (.lst ((partOf hs a m u).map encOI)) := by
  have c := compL_map (ft := tgN 8) (elt := E_L_fewest_2) (ε := [.val (encHs1 hs), x1, x2, x3, .val (.int a), x5, .val (.int m), x7, .un, .val (.int u), x10, x11]) (enc := encHs) (g := fun x => encOI (x.getD u none)) ((hs.drop a).take m) (fun x hx => by
    have hx' : x ∈ hs := List.mem_of_mem_drop (List.mem_of_mem_take hx)
    have := few_row hu (g.l x hx')
    exact ⟨_, rfl, by simp [this]⟩)
  have e0 : (((hs.drop a).take m).map fun x => encOI (x.getD u none)) = (partOf hs a m u).map encOI := by
    rw [← part_eq h2 u, List.map_map]
    rfl
  rw [e0] at c
  have sl : oSl (encHs1 hs) (some (a : Int)) (some ((a : Int) + m)) = some (.lst (((hs.drop a).take m).map encHs)) := by
    unfold encHs1
    rw [oSl_lst, cut_at, List.map_take, List.map_drop]
  have ln : (((hs.drop a).take m).map encHs).length ≤ LIM := by
    rw [List.length_map, List.length_take]
    show _ ≤ 100000
    omega
  generalize ((hs.drop a).take m).map encHs = ls at *
  generalize encHs1 hs = H at *
  simp [sl, ln, c]
theorem few_body (g : HsG hs v) (hn : hs.length ≤ 1000) {a m sp x : Nat} (h1 : 1 ≤ m ∧ m ≤ 4) (h2 : a + m ≤ hs.length) {kvs : List (D × D)} (hk : lkD kvs (keyD (a + m) m) = some (.int x)) (l : List D) (hl : l.length < 100) (y7 y10 : Sl) : ∃ z7 z10,
    B_L_fewest_1 [.val (encHs1 hs), .val (.int hs.length), .dct kvs, .val (.int sp), .val (.int a), .own l, .val (.int m), y7, .un, .un, y10, .un] =
    .nx [.val (encHs1 hs), .val (.int hs.length), .dct kvs, .val (.int sp), .val (.int a), .own (if okM hs v a m sp = true then l ++ [.int (1 + x)] else l), .val (.int m), z7, .un, .un, z10, .un] := by
  have hv := g.hv
  have hp : ∀ u, u < v → ∀ i y, y ∈ partOf hs a m u → y = some i → 0 ≤ i ∧ i < 12 := fun u hu i y hy e => by
    obtain ⟨k, hk, ek⟩ := List.mem_iff_getElem.mp hy
    rw [part_len] at hk
    refine part_ok g h2 (u := u) hk i ?_
    rw [List.getD_eq_getElem?_getD, List.getElem?_eq_getElem (by rw [part_len]; exact hk), ek]
    exact e
  have h0 : oIx (encHs1 hs) (.int 0) = some (encHs (hs.getD 0 [])) := by
    unfold encHs1
    have := atI_n (hs.map encHs) 0
    rw [oIx_lst]
    have e : atI (hs.map encHs) ((0 : Nat) : Int) = some (encHs (hs.getD 0 [])) := by
      rw [this, List.getElem?_map, List.getElem?_eq_getElem (show 0 < hs.length by have := g.hn; omega), List.getD_eq_getElem?_getD, List.getElem?_eq_getElem (show 0 < hs.length by have := g.hn; omega)]
      rfl
    exact e
  have hl0 : oLen (encHs (hs.getD 0 [])) = some (.int (v : Int)) := by
    unfold encHs
    rw [oLen_tup, hsL_len, (g.get (k := 0) (by have := g.hn; omega)).1]
  have hvb : -1000000 ≤ (v : Int) ∧ (v : Int) ≤ 1000000 := by omega
  have c1 := compL_map (ft := tgN 9) (elt := E_L_fewest_3) (ε := [.val (encHs1 hs), .val (.int hs.length), .dct kvs, .val (.int sp), .val (.int a), .own l, .val (.int m), y7, .un, .un, y10, .un]) (enc := fun u : Nat => D.int (0 + (u : Int))) (g := fun u => D.lst ((partOf hs a m u).map encOI)) (List.range v) (fun u hu => by
    rw [Int.zero_add]
    exact ⟨_, rfl, few_part g (List.mem_range.mp hu) h1 h2 _ _ _ _ _ _ _⟩)
  have c2 := fun z7 => compL_map (ft := tgN 11) (elt := E_L_fewest_4) (ε := [.val (encHs1 hs), .val (.int hs.length), .dct kvs, .val (.int sp), .val (.int a), .own l, .val (.int m), z7, .un, .un, y10, .un]) (enc := fun u => D.lst ((partOf hs a m u).map encOI)) (g := fun u => slR (stepsF (partOf hs a m u))) (List.range v) (fun u hu => by
    have := e_slides (partOf hs a m u) (by rw [part_len]; exact h1.1) (by rw [part_len]; omega)
    generalize D.lst ((partOf hs a m u).map encOI) = pd at *
    exact ⟨_, rfl, by simp [this]⟩)
  have rg : rng 0 v = (List.range v).map fun u : Nat => D.int (0 + (u : Int)) := rfl
  obtain ⟨i1, i2⟩ := in_slides g h1 h2
  have ek : keyD (a + m) m = .tup [.int ((a : Int) + m), .int m] := by
    unfold keyD
    rw [show ((a + m : Nat) : Int) = (a : Int) + m by omega]
  have hko : keyOk (.tup [.int ((a : Int) + m), .int m]) = true := rfl
  rw [ek] at hk
  have fi := few_if (encHs1 hs) hs.length a m sp x kvs l (.lst (slD hs v a m)) (.val (.lst ((List.range v).map fun u => D.lst ((partOf hs a m u).map encOI)))) _ _ i1 i2 hk hko (by show _ < 100000; omega)
  have eo : (!(slD hs v a m).any nonB && (decide ((m : Int) = sp) || (slD hs v a m).any zeroB)) = okM hs v a m sp := by
    unfold okM
    congr 2
    exact decide_eq_decide.mpr (by omega)
  rw [eo] at fi
  refine ⟨_, _, (seq_step (ε' := [.val (encHs1 hs), .val (.int hs.length), .dct kvs, .val (.int sp), .val (.int a), .own l, .val (.int m), .val (.lst ((List.range v).map fun u => D.lst ((partOf hs a m u).map encOI))), .un, .un, y10, .un]) ?_).trans ((seq_step ?_).trans fi)⟩
  · have lv : (rng 0 v).length = v := rng_len 0 v
    generalize encHs1 hs = H at *
    simp only [← rg] at c1
    have lv2 : v ≤ LIM := by show _ ≤ 100000; omega
    generalize encHs (hs.getD 0 []) = H0 at *
    simp [-oIx_lst, h0, hl0, hvb, lv2, c1]
  · have c2' := c2 (.val (.lst ((List.range v).map fun u => D.lst ((partOf hs a m u).map encOI))))
    have lp : ((List.range v).map fun u => D.lst ((partOf hs a m u).map encOI)).length ≤ LIM := by
      rw [List.length_map, List.length_range]
      show _ ≤ 100000
      omega
    have es : ((List.range v).map fun u => slR (stepsF (partOf hs a m u))) = slD hs v a m := rfl
    rw [es] at c2'
    generalize slD hs v a m = sd at *
    generalize (List.range v).map (fun u => D.lst ((partOf hs a m u).map encOI)) = pl at *
    generalize encHs1 hs = H at *
    simp [lp, c2']
end
end W

set_option Elab.async false
set_option linter.all false
set_option maxRecDepth 100000
set_option maxHeartbeats 2000000
/-! K80f: _law_fewest, whole. -/
namespace W
open PySem L2 PL
section
variable {hs : List Hs1} {v : Nat}
def Lens (hs : List Hs1) (v a sp i : Nat) (l : List Int) : Prop := (∀ x ∈ l, ∃ m L, (1 ≤ m ∧ m ≤ i) ∧ okM hs v a m sp = true ∧ Best hs (a + m) m L ∧ x = 1 + (L.length : Int)) ∧
  (∀ m, 1 ≤ m → m ≤ i → okM hs v a m sp = true → ∀ L, Best hs (a + m) m L → 1 + (L.length : Int) ∈ l)
theorem few_best (g : HsG hs v) {a sp i : Nat} (ha : a < hs.length) (hi : i ≤ 4 ∧ a + i ≤ hs.length ∧ 1 ≤ i) (hi2 : ∀ m, 1 ≤ m → m ≤ 4 → a + m ≤ hs.length → m ≤ i) (hB : ∀ m, 1 ≤ m → m ≤ 4 → a + m ≤ hs.length → ∃ L, Best hs (a + m) m L) {l : List Int} (hl : Lens hs v a sp i l) :
    ∃ x xs L, l = x :: xs ∧ Best hs a sp L ∧ lmin x xs = (L.length : Int) := by
  obtain ⟨q1, q2⟩ := hl
  obtain ⟨L1, b1⟩ := hB 1 (by omega) (by omega) (by omega)
  have m1 := q2 1 (by omega) hi.2.2 ((okM_iff g (by omega) (by omega)).mpr (one_found g ha)) L1 b1
  cases l with
  | nil => cases m1
  | cons x xs =>
    obtain ⟨le1, le2⟩ := lmin_le xs x
    obtain ⟨m, L, hm, ok, bL, e⟩ := q1 _ (lmin_mem xs x)
    obtain ⟨r, hr⟩ := (okM_iff g (by omega) (by omega)).mp ok
    refine ⟨x, xs, r :: L, rfl, ⟨⟨m, ⟨hm.1, by omega⟩, by omega, hr, bL.1⟩, fun L' F => ?_⟩, by rw [e, List.length_cons]; omega⟩
    cases L' with
    | nil => have : a = hs.length := F; omega
    | cons r' L' =>
      obtain ⟨m', w1, w2, w3, w4⟩ := F
      obtain ⟨L4, b4⟩ := hB m' w1.1 w1.2 w2
      have := q2 m' w1.1 (hi2 m' w1.1 w1.2 w2) ((okM_iff g w1 w2).mpr ⟨r', w3⟩) L4 b4
      have h5 := b4.2 L' w4
      have h6 : lmin x xs ≤ 1 + (L4.length : Int) := by
        rcases List.mem_cons.mp this with z | z
        · rw [z]; exact le1
        · exact le2 _ z
      simp only [List.length_cons] at *
      omega
theorem min_ints (x : Int) (xs : List Int) : oMinL (.lst ((x :: xs).map .int)) = some (.int (lmin x xs)) := by
  rw [oMinL_lst, intsOf_map]
theorem few_range (n a N : Int) (R : List D) (hc : (if n - a < 4 then n - a else 4) = N) (rg : r2F (.int 1) (.int (N + 1)) = .ok R) (H : D) (x2 x3 x5 x6 x7 x8 x9 x10 x11 : Sl) : (iR2 (dC (.int 1)) (d2 oAdd (d2 oMin2 (dC (.int 4)) (d2 oSub (dVar 1) (dVar 4))) (dC (.int 1)))) [.val H, .val (.int n), x2, x3, .val (.int a), x5, x6, x7, x8, x9, x10, x11] = .ok R := by
  simp [-r2F_int, hc, rg]
theorem best_uniq {a sp : Nat} {L L' : List Row} (h : Best hs a sp L) (h' : Best hs a sp L') : L.length = L'.length := Nat.le_antisymm (h.2 L' h'.1) (h'.2 L h.1)
theorem few_speed (g : HsG hs v) (hn : hs.length ≤ 1000) {a sp : Nat} (ha : a < hs.length) {kvs : List (D × D)} (hkl : kvs.length < DLIM) (hB : ∀ m, 1 ≤ m → m ≤ 4 → a + m ≤ hs.length → ∃ L, Best hs (a + m) m L ∧ lkD kvs (keyD (a + m) m) = some (.int L.length)) (x5 x6 x7 x10 : Sl) :
    ∃ L y5 y6 y7 y10, Best hs a sp L ∧ B_L_fewest_2 [.val (encHs1 hs), .val (.int hs.length), .dct kvs, .val (.int sp), .val (.int a), x5, x6, x7, .un, .un, x10, .un] =
      .nx [.val (encHs1 hs), .val (.int hs.length), .dct (stD kvs (keyD a sp) (.int L.length)), .val (.int sp), .val (.int a), y5, y6, y7, .un, .un, y10, .un] := by
  obtain ⟨c, hc⟩ : ∃ c, c = min 4 (hs.length - a) := ⟨_, rfl⟩
  obtain ⟨ε1, f1, l, y6, y7, y10, ll, Ln, rfl⟩ := forL_inv (ft := tgN 6) (body := B_L_fewest_1)
    (fun i ε => ∃ l y6 y7 y10, l.length ≤ i ∧ Lens hs v a sp i l ∧ ε = [.val (encHs1 hs), .val (.int hs.length), .dct kvs, .val (.int sp), .val (.int a), .own (l.map .int), y6, y7, .un, .un, y10, .un]) (rng 1 c) 0
    [.val (encHs1 hs), .val (.int hs.length), .dct kvs, .val (.int sp), .val (.int a), .own [], x6, x7, .un, .un, x10, .un] ⟨[], x6, x7, x10, Nat.le_refl _, ⟨fun x hx => (by cases hx), fun m h1 h2 => (by omega)⟩, rfl⟩ (by
      rintro i d ε hd ⟨l, y6, y7, y10, ll, Ln, rfl⟩
      rw [Nat.zero_add] at ll Ln ⊢
      obtain ⟨hi, rfl⟩ := rng_get hd
      obtain ⟨L, bL, hk⟩ := hB (i + 1) (by omega) (by omega) (by omega)
      obtain ⟨z7, z10, e⟩ := few_body g hn (a := a) (m := i + 1) (sp := sp) (x := L.length) (by omega) (by omega) hk (l.map .int) (by rw [List.length_map]; omega) y7 y10
      rw [show ((i + 1 : Nat) : Int) = 1 + (i : Int) by omega] at e
      refine ⟨_, _, rfl, e, if okM hs v a (i + 1) sp = true then l ++ [1 + (L.length : Int)] else l, .val (.int (1 + (i : Int))), z7, z10, ?_, ?_, ?_⟩
      · split
        · rw [List.length_append, List.length_singleton]; omega
        · omega
      · refine ⟨fun x hx => ?_, fun m h1 h2 ok L' b' => ?_⟩
        · have old : x ∈ l → ∃ m L, (1 ≤ m ∧ m ≤ i + 1) ∧ okM hs v a m sp = true ∧ Best hs (a + m) m L ∧ x = 1 + (L.length : Int) := fun hx => by
            obtain ⟨m, L2, w1, w2, w3, w4⟩ := Ln.1 x hx
            exact ⟨m, L2, by omega, w2, w3, w4⟩
          by_cases ok : okM hs v a (i + 1) sp = true
          · rw [if_pos ok] at hx
            rcases List.mem_append.mp hx with hx | hx
            · exact old hx
            · exact ⟨i + 1, L, by omega, ok, bL, by simpa using hx⟩
          · rw [if_neg ok] at hx
            exact old hx
        · by_cases hm : m = i + 1
          · subst hm
            rw [if_pos ok]
            refine List.mem_append.mpr (.inr ?_)
            rw [best_uniq b' bL]
            simp
          · have := Ln.2 m h1 (by omega) ok L' b'
            split
            · exact List.mem_append.mpr (.inl this)
            · exact this
      · split
        · rw [List.map_append]; rfl
        · rfl)
  rw [rng_len, Nat.zero_add] at ll Ln
  obtain ⟨x, xs, L, rfl, bL, em⟩ := few_best g ha (i := c) (by omega) (fun m h1 h2 h3 => by omega) (fun m h1 h2 h3 => by obtain ⟨L, b, _⟩ := hB m h1 h2 h3; exact ⟨L, b⟩) Ln
  have mn := min_ints x xs
  rw [em] at mn
  have r1 := r2_one (c : Int) (by omega) (by omega)
  rw [Int.toNat_natCast] at r1
  have rg := few_range (hs.length : Int) (a : Int) (c : Int) _ (by split <;> omega) r1 (encHs1 hs) (.dct kvs) (.val (.int sp)) (.own []) x6 x7 .un .un x10 .un
  have hko : keyOk (.tup [.int (a : Int), .int (sp : Int)]) = true := rfl
  refine ⟨L, .own ((x :: xs).map .int), y6, y7, y10, bL, ?_⟩
  refine (seq_step (ε' := [.val (encHs1 hs), .val (.int hs.length), .dct kvs, .val (.int sp), .val (.int a), .own [], x6, x7, .un, .un, x10, .un]) rfl).trans ?_
  refine (seq_step (ε' := [.val (encHs1 hs), .val (.int hs.length), .dct kvs, .val (.int sp), .val (.int a), .own ((x :: xs).map .int), y6, y7, .un, .un, y10, .un]) ?_).trans ?_
  · show bindS _ _ = _
    rw [rg, bindS_ok]
    exact f1
  · generalize (x :: xs).map D.int = ml at *
    generalize encHs1 hs = H at *
    unfold keyD
    simp [mn, hko, hkl]
end
end W

set_option Elab.async false
set_option linter.all false
set_option maxRecDepth 100000
set_option maxHeartbeats 2000000
/-! K80g: _law_fewest, joined. -/
namespace W
open PySem L2 PL
def BookN (hs : List Hs1) (kvs : List (D × D)) (P : Nat → Nat → Prop) : Prop := ∀ a sp, (1 ≤ sp ∧ sp ≤ 4) → P a sp → ∃ L, Best hs a sp L ∧ lkD kvs (keyD a sp) = some (.int L.length)
section
variable {hs : List Hs1} {v : Nat}
theorem BookN.put {kvs : List (D × D)} {P : Nat → Nat → Prop} (b : BookN hs kvs P) {a sp : Nat} {L : List Row} (hL : Best hs a sp L) {Q : Nat → Nat → Prop} (hQ : ∀ a' sp', (1 ≤ sp' ∧ sp' ≤ 4) → Q a' sp' → P a' sp' ∨ (a' = a ∧ sp' = sp)) :
    BookN hs (stD kvs (keyD a sp) (.int L.length)) Q := by
  intro a' sp' h1 h2
  by_cases e : a' = a ∧ sp' = sp
  · obtain ⟨rfl, rfl⟩ := e
    refine ⟨L, hL, ?_⟩
    rw [lk_st, if_pos rfl]
  · rw [lk_st, if_neg (fun z => e (by have := key_inj.mp z; exact ⟨this.1.symm, this.2.symm⟩))]
    rcases hQ a' sp' h1 h2 with q | q
    · exact b a' sp' h1 q
    · exact absurd q e
theorem range15 (ε : Ev) : (iR2 (dC (.int 1)) (dC (.int 5))) ε = .ok (rng 1 4) := rfl
def ps0 (n : Nat) : List (D × D) := [(keyD n 1, .int 0), (keyD n 2, .int 0), (keyD n 3, .int 0), (keyD n 4, .int 0)]
theorem book0 : BookN hs (stAll [] (ps0 hs.length)) (fun a sp => a = hs.length) ∧ (stAll [] (ps0 hs.length)).length ≤ 4 := by
  have b0 : BookN hs [] (fun _ _ => False) := fun _ _ _ h => h.elim
  have e : ∀ sp, Best hs hs.length sp [] := best_end
  have b1 := b0.put (e 1) (Q := fun a sp => a = hs.length ∧ sp ≤ 1) (fun a' sp' h q => .inr ⟨q.1, by omega⟩)
  have b2 := b1.put (e 2) (Q := fun a sp => a = hs.length ∧ sp ≤ 2) (fun a' sp' h q => by by_cases z : sp' ≤ 1; exact .inl ⟨q.1, z⟩; exact .inr ⟨q.1, by omega⟩)
  have b3 := b2.put (e 3) (Q := fun a sp => a = hs.length ∧ sp ≤ 3) (fun a' sp' h q => by by_cases z : sp' ≤ 2; exact .inl ⟨q.1, z⟩; exact .inr ⟨q.1, by omega⟩)
  have b4 := b3.put (e 4) (Q := fun a sp => a = hs.length) (fun a' sp' h q => by by_cases z : sp' ≤ 3; exact .inl ⟨q, z⟩; exact .inr ⟨q, by omega⟩)
  refine ⟨b4, ?_⟩
  have l1 := st_len ([] : List (D × D)) (keyD hs.length 1) (.int 0)
  have l2 := st_len (stD [] (keyD hs.length 1) (.int 0)) (keyD hs.length 2) (.int 0)
  have l3 := st_len (stD (stD [] (keyD hs.length 1) (.int 0)) (keyD hs.length 2) (.int 0)) (keyD hs.length 3) (.int 0)
  have l4 := st_len (stD (stD (stD [] (keyD hs.length 1) (.int 0)) (keyD hs.length 2) (.int 0)) (keyD hs.length 3) (.int 0)) (keyD hs.length 4) (.int 0)
  show (stD (stD (stD (stD [] (keyD hs.length 1) (.int 0)) (keyD hs.length 2) (.int 0)) (keyD hs.length 3) (.int 0)) (keyD hs.length 4) (.int 0)).length ≤ 4
  simp only [List.length_nil] at l1
  omega
theorem e_L_fewest (g : HsG hs v) (hn : hs.length ≤ 1000) : ∃ R : Nat, (∃ sp L, (1 ≤ sp ∧ sp ≤ 4) ∧ Fit hs 0 sp L ∧ L.length = R) ∧ (∀ sp L, (1 ≤ sp ∧ sp ≤ 4) → Fit hs 0 sp L → R ≤ L.length) ∧ M_L_fewest [encHs1 hs] = .ok (.int R) := by
  have h1n := g.hn
  obtain ⟨bk0, len0⟩ := book0 (hs := hs)
  generalize hk0 : stAll [] (ps0 hs.length) = kv0 at *
  obtain ⟨ε2, f2, kv2, y3, y4, y5, y6, y7, y10, len2, bk2, e2⟩ := forL_inv (ft := tgN 4) (body := B_L_fewest_3)
    (fun i ε => ∃ kvs y3 y4 y5 y6 y7 y10, kvs.length ≤ 4 + 4 * i ∧ BookN hs kvs (fun a sp => hs.length - i ≤ a ∧ a ≤ hs.length) ∧ ε = [.val (encHs1 hs), .val (.int hs.length), .dct kvs, y3, y4, y5, y6, y7, .un, .un, y10, .un]) (rngC ((hs.length : Int) - 1) (-1) hs.length) 0
    [.val (encHs1 hs), .val (.int hs.length), .dct kv0, .un, .un, .un, .un, .un, .un, .un, .un, .un] ⟨kv0, .un, .un, .un, .un, .un, .un, by omega, fun a sp q1 q2 => bk0 a sp q1 (by omega), rfl⟩ (by
      rintro i d ε hd ⟨kvs, y3, y4, y5, y6, y7, y10, len, bk, rfl⟩
      rw [Nat.zero_add] at len bk ⊢
      have hi : i < hs.length := by simpa [rngC] using lt_of_get hd
      obtain ⟨a, ha⟩ : ∃ a, a = hs.length - 1 - i := ⟨_, rfl⟩
      obtain rfl : d = .int a := by
        unfold rngC at hd
        rw [List.getElem?_map, List.getElem?_range hi] at hd
        have e : (hs.length : Int) - 1 + (i : Int) * -1 = (a : Int) := by omega
        rw [← e]
        exact (Option.some.inj hd).symm
      obtain ⟨ε3, g1, kv3, z3, z5, z6, z7, z10, len3, bk3, e3⟩ := forL_inv (ft := tgN 3) (body := B_L_fewest_2)
        (fun j ε => ∃ kvs y3 y5 y6 y7 y10, kvs.length ≤ 4 + 4 * i + j ∧ BookN hs kvs (fun a' sp => (hs.length - i ≤ a' ∧ a' ≤ hs.length) ∨ (a' = a ∧ sp ≤ j)) ∧ ε = [.val (encHs1 hs), .val (.int hs.length), .dct kvs, y3, .val (.int a), y5, y6, y7, .un, .un, y10, .un]) (rng 1 4) 0
        [.val (encHs1 hs), .val (.int hs.length), .dct kvs, y3, .val (.int a), y5, y6, y7, .un, .un, y10, .un] ⟨kvs, y3, y5, y6, y7, y10, by omega, fun a' sp q1 q2 => bk a' sp q1 (by rcases q2 with q2 | q2 <;> omega), rfl⟩ (by
          rintro j d ε hd ⟨kvs, y3, y5, y6, y7, y10, len, bk, rfl⟩
          rw [Nat.zero_add] at len bk ⊢
          obtain ⟨hj, rfl⟩ := rng_get hd
          obtain ⟨L, w5, w6, w7, w10, bL, e⟩ := few_speed g hn (a := a) (sp := j + 1) (by omega) (kvs := kvs) (by show _ < 10000000; omega) (fun m m1 m2 m3 => bk (a + m) m ⟨m1, m2⟩ (.inl ⟨by omega, m3⟩)) y5 y6 y7 y10
          rw [show ((j + 1 : Nat) : Int) = 1 + (j : Int) by omega] at e
          refine ⟨_, _, rfl, e, stD kvs (keyD a (j + 1)) (.int L.length), .val (.int (1 + (j : Int))), w5, w6, w7, w10, ?_, bk.put bL (fun a' sp' h q => ?_), rfl⟩
          · have := st_len kvs (keyD a (j + 1)) (.int L.length)
            omega
          · rcases q with q | ⟨q1, q2⟩
            · exact .inl (.inl q)
            · by_cases hz : sp' ≤ j
              · exact .inl (.inr ⟨q1, hz⟩)
              · exact .inr ⟨q1, by omega⟩)
      rw [rng_len, Nat.zero_add] at len3 bk3
      subst e3
      refine ⟨[.val (encHs1 hs), .val (.int hs.length), .dct kvs, y3, .val (.int a), y5, y6, y7, .un, .un, y10, .un], _, rfl, ?_, kv3, z3, .val (.int a), z5, z6, z7, z10, by omega, fun a' sp q1 q2 => bk3 a' sp q1 ?_, rfl⟩
      · show (sFor _ _ _) [.val (encHs1 hs), .val (.int hs.length), .dct kvs, y3, .val (.int a), y5, y6, y7, .un, .un, y10, .un] = _
        rw [sFor, range15, bindS_ok]
        exact g1
      · by_cases hz : hs.length - i ≤ a'
        · exact .inl ⟨hz, q2.2⟩
        · exact .inr ⟨by omega, q1.2⟩)
  have lenR : (rngC ((hs.length : Int) - 1) (-1) hs.length).length = hs.length := by simp [rngC]
  rw [lenR, Nat.zero_add] at len2 bk2
  subst e2
  obtain ⟨L1, b1, l1⟩ := bk2 0 1 (by omega) ⟨by omega, by omega⟩
  obtain ⟨L2, b2, l2⟩ := bk2 0 2 (by omega) ⟨by omega, by omega⟩
  obtain ⟨L3, b3, l3⟩ := bk2 0 3 (by omega) ⟨by omega, by omega⟩
  obtain ⟨L4, b4, l4⟩ := bk2 0 4 (by omega) ⟨by omega, by omega⟩
  have mn := min_ints (L1.length : Int) [(L2.length : Int), (L3.length : Int), (L4.length : Int)]
  obtain ⟨R, eR, oR, r1, r2, r3, r4⟩ : ∃ R : Nat, lmin (L1.length : Int) [(L2.length : Int), (L3.length : Int), (L4.length : Int)] = (R : Int) ∧ (R = L1.length ∨ R = L2.length ∨ R = L3.length ∨ R = L4.length) ∧ R ≤ L1.length ∧ R ≤ L2.length ∧ R ≤ L3.length ∧ R ≤ L4.length := by
    have m1 := lmin_mem [(L2.length : Int), (L3.length : Int), (L4.length : Int)] (L1.length : Int)
    obtain ⟨a1, a2⟩ := lmin_le [(L2.length : Int), (L3.length : Int), (L4.length : Int)] (L1.length : Int)
    have q2 := a2 _ (List.mem_cons_self ..)
    have q3 := a2 (L3.length : Int) (by simp)
    have q4 := a2 (L4.length : Int) (by simp)
    generalize lmin (L1.length : Int) [(L2.length : Int), (L3.length : Int), (L4.length : Int)] = M at *
    simp only [List.mem_cons, List.not_mem_nil, or_false] at m1
    refine ⟨M.toNat, by omega, ?_, by omega, by omega, by omega, by omega⟩
    omega
  rw [eR] at mn
  refine ⟨R, ?_, fun sp L h F => ?_, ?_⟩
  · rcases oR with e | e | e | e
    · exact ⟨1, L1, by omega, b1.1, e.symm⟩
    · exact ⟨2, L2, by omega, b2.1, e.symm⟩
    · exact ⟨3, L3, by omega, b3.1, e.symm⟩
    · exact ⟨4, L4, by omega, b4.1, e.symm⟩
  · have : sp = 1 ∨ sp = 2 ∨ sp = 3 ∨ sp = 4 := by omega
    rcases this with rfl | rfl | rfl | rfl
    · have := b1.2 L F; omega
    · have := b2.2 L F; omega
    · have := b3.2 L F; omega
    · have := b4.2 L F; omega
  have hl : oLen (encHs1 hs) = some (.int hs.length) := by unfold encHs1; rw [oLen_lst, List.length_map]
  have c0 : compL (tgN 3) dYes E_L_fewest_1 [.val (encHs1 hs), .val (.int hs.length), .un, .un, .un, .un, .un, .un, .un, .un, .un, .un] (rng 1 4) = .ok [.tup [keyD hs.length 1, .int 0], .tup [keyD hs.length 2, .int 0], .tup [keyD hs.length 3, .int 0], .tup [keyD hs.length 4, .int 0]] := rfl
  have p0 : prK [.tup [keyD hs.length 1, .int 0], .tup [keyD hs.length 2, .int 0], .tup [keyD hs.length 3, .int 0], .tup [keyD hs.length 4, .int 0]] = some (ps0 hs.length) := rfl
  have c1 : compL (tgN 3) dYes E_L_fewest_5 [.val (encHs1 hs), .val (.int hs.length), .dct kv2, .un, y4, y5, y6, y7, .un, .un, y10, .un] (rng 1 4) = .ok ([(L1.length : Int), (L2.length : Int), (L3.length : Int), (L4.length : Int)].map .int) := by
    unfold keyD at l1 l2 l3 l4
    have k : ∀ i : Int, keyOk (.tup [.int 0, .int i]) = true := fun _ => rfl
    simp at l1 l2 l3 l4
    rw [rng14]
    simp [compL, l1, l2, l3, l4, k]
  generalize ([(L1.length : Int), (L2.length : Int), (L3.length : Int), (L4.length : Int)].map D.int) = prs at *
  have hlim : (4 : Nat) ≤ LIM := by decide
  unfold M_L_fewest B_L_fewest
  have start : ∀ {r : Out D} {f : DS}, runF (f [.val (encHs1 hs), .un, .un, .un, .un, .un, .un, .un, .un, .un, .un, .un]) = r → runD 12 f [encHs1 hs] = r := fun h => h
  refine start (run_step (ε' := [.val (encHs1 hs), .val (.int hs.length), .un, .un, .un, .un, .un, .un, .un, .un, .un, .un]) (by simp [hl]) ?_)
  refine run_step (ε' := [.val (encHs1 hs), .val (.int hs.length), .dct kv0, .un, .un, .un, .un, .un, .un, .un, .un, .un]) ?_ ?_
  · have e : (dLst (lComp [3] (iR2 (dC (.int 1)) (dC (.int 5))) (tgN 3) dYes E_L_fewest_1)) [.val (encHs1 hs), .val (.int hs.length), .un, .un, .un, .un, .un, .un, .un, .un, .un, .un] = .ok (.lst [.tup [keyD hs.length 1, .int 0], .tup [keyD hs.length 2, .int 0], .tup [keyD hs.length 3, .int 0], .tup [keyD hs.length 4, .int 0]]) := by
      simp only [dLst, lComp]
      rw [range15, bind_ok, rng_len, if_pos hlim]
      show ((nrm (compL (tgN 3) dYes E_L_fewest_1 [.val (encHs1 hs), .val (.int hs.length), .un, .un, .un, .un, .un, .un, .un, .un, .un, .un] (rng 1 4))).bind _) = _
      rw [c0]
      rfl
    unfold sDctL
    rw [e, bindS_ok]
    unfold bindK
    dsimp only
    rw [p0]
    dsimp only
    have hk : (ps0 hs.length).all (fun p => keyOk p.1) = true ∧ (ps0 hs.length).length < 1000 := ⟨rfl, by show 4 < 1000; omega⟩
    rw [if_pos hk, hk0]
    rfl
  have it2 : (iRd (d2 oSub (dVar 1) (dC (.int 1))) (d1 oNeg (dC (.int 1))) (d1 oNeg (dC (.int 1)))) [.val (encHs1 hs), .val (.int hs.length), .dct kv0, .un, .un, .un, .un, .un, .un, .un, .un, .un] = .ok (rngC ((hs.length : Int) - 1) (-1) hs.length) := by
    have hb : (-1 : Int) = -1 ∧ (-1000000 ≤ (hs.length : Int) - 1 ∧ (hs.length : Int) - 1 ≤ 1000000) ∧ (-1000000 : Int) ≤ -1 ∧ (-1 : Int) ≤ 1000000 := by omega
    have e : (iRd (d2 oSub (dVar 1) (dC (.int 1))) (d1 oNeg (dC (.int 1))) (d1 oNeg (dC (.int 1)))) [.val (encHs1 hs), .val (.int hs.length), .dct kv0, .un, .un, .un, .un, .un, .un, .un, .un, .un] = r3dF (.int ((hs.length : Int) - 1)) (.int (-1)) (.int (-1)) := rfl
    rw [e, r3dF_int, if_pos hb, show ((hs.length : Int) - 1 - -1).toNat = hs.length by omega]
  refine run_step (by rw [sFor, it2, bindS_ok]; exact f2) ?_
  have e5 : (d1 oMinL (dLst (lComp [3] (iR2 (dC (.int 1)) (dC (.int 5))) (tgN 3) dYes E_L_fewest_5))) [.val (encHs1 hs), .val (.int hs.length), .dct kv2, y3, y4, y5, y6, y7, .un, .un, y10, .un] = .ok (.int R) := by
    simp only [d1, dLst, lComp]
    rw [range15, bind_ok, rng_len, if_pos hlim]
    show (((nrm (compL (tgN 3) dYes E_L_fewest_5 [.val (encHs1 hs), .val (.int hs.length), .dct kv2, .un, y4, y5, y6, y7, .un, .un, y10, .un] (rng 1 4))).bind _).bind _) = _
    rw [c1]
    show Out.of (oMinL (.lst prs)) = _
    rw [mn]
    rfl
  show runF (bindS _ _) = _
  rw [e5]
  rfl
end
end W

set_option Elab.async false
set_option linter.all false
set_option maxRecDepth 100000
set_option maxHeartbeats 2000000
/-! MRs: row_starts. -/
namespace W
open PySem L2 PL
def startsL (s : Song) (n : Nat) : List D := (List.range n).map fun k => D.int (rowMo s k)
theorem startsL_len (s : Song) (n : Nat) : (startsL s n).length = n := by simp [startsL]
theorem startsL_succ (s : Song) (n : Nat) : startsL s (n + 1) = startsL s n ++ [.int (rowMo s n)] := by simp [startsL, List.range_succ]
theorem startsL_take (s : Song) {m n : Nat} (h : m ≤ n) : (startsL s n).take m = startsL s m := by
  obtain ⟨k, rfl⟩ : ∃ k, n = m + k := ⟨n - m, by omega⟩
  simp [startsL, ← List.map_take, List.take_range]
theorem e_row_starts {s : Song} (h : WF s) (many : Nat) (hm : many ≤ 1000) : M_row_starts [encSong s, .int many] = .ok (.lst (startsL s many)) := by
  obtain ⟨ε', m', h1, ⟨K, i, hi, hc, rfl, _⟩, h4⟩ := while_inv (c := (dTestB (d2 oLt (d1 oLen (vVar 2)) (dVar 1)))) (body := B_row_starts_1)
    (fun m ε => ∃ K i, i < rowN s K ∧ (if i = 0 then K else K + 1) ≤ many ∧ ε = [.val (encSong s), .val (.int many), .own (startsL s (if i = 0 then K else K + 1)), .val (encStt (run s i (rowSt s K))), .val (.int (rowMo s K + i : Nat))] ∧ m = 5 * (many + 1 - K) - i)
    (by
      rintro m ε ⟨K, i, hi, hc, rfl, rfl⟩
      by_cases hlt : (if i = 0 then K else K + 1) < many
      · refine .inr ⟨by simp [startsL_len, hlt], ?_⟩
        obtain ⟨K', i', a1, a2, a3, a4, a5⟩ := adv h many hi (by split at hlt <;> omega)
        obtain ⟨b1, b2, b3⟩ := row_in h K i hi
        have en := e_next_state h (run_ok h i (rowSt_ok h K))
        rw [← run_succ, a1] at en
        have e0 : oIx (encStt (run s i (rowSt s K))) (.int 3) = some (.int i) := by simp [encStt, b1]
        refine ⟨_, _, ?_, ⟨K', i', a2, by rw [a3]; split at hlt <;> omega, rfl, rfl⟩, a5⟩
        rw [a3, ← a4]
        have hl : K < LIM := by show K < 100000; split at hlt <;> omega
        by_cases hi0 : i = 0
        · subst hi0
          simp [e0, en, startsL_len, hl, startsL_succ]
        · simp [e0, en, hi0]
      · exact .inl (by simp [startsL_len]; split at hlt <;> simp_all)) 100000 (5 * (many + 1))
    [.val (encSong s), .val (.int many), .own [], .val (encStt (firstS s)), .val (.int 0)] ⟨0, 0, by have := rowN_le h 0; omega, by simp, rfl, rfl⟩ (by omega)
  have hcm : (if i = 0 then K else K + 1) = many := by
    simp [startsL_len] at h4
    omega
  rw [hcm] at h1
  simp [M_row_starts, B_row_starts, e_first_state h, h1]
end W

set_option Elab.async false
set_option linter.all false
set_option maxRecDepth 100000
set_option maxHeartbeats 2000000
/-! MP: rows_played. -/
namespace W
open PySem L2 PL
theorem e_rows_played {s : Song} (h : WF s) (many : Nat) (hm : many ≤ 1000) : M_rows_played [encSong s, .int many] = .ok (.lst (rowsL s many)) := by
  obtain ⟨ε', m', h1, ⟨K, i, hi, hc, rfl, _⟩, h4⟩ := while_inv (c := (dTestB (d2 oLt (d1 oLen (vVar 2)) (dVar 1)))) (body := B_rows_played_1)
    (fun m ε => ∃ K i, i < rowN s K ∧ (if i = 0 then K else K + 1) ≤ many ∧ ε = [.val (encSong s), .val (.int many), .own (rowsL s (if i = 0 then K else K + 1)), .val (encStt (run s i (rowSt s K)))] ∧ m = 5 * (many + 1 - K) - i)
    (by
      rintro m ε ⟨K, i, hi, hc, rfl, rfl⟩
      by_cases hlt : (if i = 0 then K else K + 1) < many
      · refine .inr ⟨by simp [rowsL_len, hlt], ?_⟩
        obtain ⟨K', i', a1, a2, a3, a4, a5⟩ := adv h many hi (by split at hlt <;> omega)
        obtain ⟨b1, b2, b3⟩ := row_in h K i hi
        have en := e_next_state h (run_ok h i (rowSt_ok h K))
        rw [← run_succ, a1] at en
        have e0 : oIx (encStt (run s i (rowSt s K))) (.int 3) = some (.int i) := by simp [encStt, b1]
        have e1 : oSl (encStt (run s i (rowSt s K))) none (some 2) = some (encPR (rowSt s K)) := by simp [encStt, b2, b3, cut62, encPR]
        refine ⟨_, _, ?_, ⟨K', i', a2, by rw [a3]; split at hlt <;> omega, rfl, rfl⟩, a5⟩
        rw [a3]
        have hl : K < LIM := by show K < 100000; split at hlt <;> omega
        by_cases hi0 : i = 0
        · subst hi0
          simp [e0, e1, en, rowsL_len, hl, rowsL_succ]
        · simp [e0, en, hi0]
      · exact .inl (by simp [rowsL_len]; split at hlt <;> simp_all)) 100000 (5 * (many + 1))
    [.val (encSong s), .val (.int many), .own [], .val (encStt (firstS s))] ⟨0, 0, by have := rowN_le h 0; omega, by simp, rfl, rfl⟩ (by omega)
  have hcm : (if i = 0 then K else K + 1) = many := by
    simp [rowsL_len] at h4
    omega
  rw [hcm] at h1
  simp [M_rows_played, B_rows_played, e_first_state h, h1]
end W

set_option Elab.async false
set_option linter.all false
set_option maxRecDepth 100000
set_option maxHeartbeats 1000000
/-! MI: is_song and its like, at any plain data. -/
namespace W
open PySem L2 PL
/-- plain to a depth: good texts -/
def okS : Nat → D → Bool
  | _, .non => true
  | _, .int _ => true
  | _, .bl _ => true
  | _, .str x => strOK x
  | n + 1, .tup ds => ds.all fun d => okS n d
  | n + 1, .lst ds => ds.all fun d => okS n d
  | _, _ => false
theorem okS_pl : ∀ {n : Nat} {d : D}, pl n d = true → okS n d = true
  | n, .non, _ => by cases n <;> rfl
  | n, .int _, _ => by cases n <;> rfl
  | n, .bl _, _ => by cases n <;> rfl
  | n, .str _, h => by cases n <;> exact h
  | 0, .tup _, h => by cases h
  | 0, .lst _, h => by cases h
  | n + 1, .tup ds, h => by
    simp only [pl, okS, List.all_eq_true] at h ⊢
    exact fun d hd => okS_pl (h d hd)
  | n + 1, .lst ds, h => by
    simp only [pl, okS, List.all_eq_true] at h ⊢
    exact fun d hd => okS_pl (h d hd)
def isTup : D → Bool
  | .tup _ => true
  | _ => false
def isStr : D → Bool
  | .str _ => true
  | _ => false
def isInt : D → Bool
  | .int _ => true
  | .bl _ => true
  | _ => false
def isBl : D → Bool
  | .bl _ => true
  | _ => false
def isLst : D → Bool
  | .lst _ => true
  | _ => false
@[simp] theorem isi_tuple (d : D) : oIsi "tuple" d = some (.bl (isTup d)) := by
  cases d with
  | non => show (kitB "NoneType" "tuple").map D.bl = _; rw [show kitB "NoneType" "tuple" = some false from by decide +kernel]; rfl
  | bl b => show (kitB "bool" "tuple").map D.bl = _; rw [show kitB "bool" "tuple" = some false from by decide +kernel]; rfl
  | int i => show (kitB "int" "tuple").map D.bl = _; rw [show kitB "int" "tuple" = some false from by decide +kernel]; rfl
  | str x => show (kitB "str" "tuple").map D.bl = _; rw [show kitB "str" "tuple" = some false from by decide +kernel]; rfl
  | tup ds => show (kitB "tuple" "tuple").map D.bl = _; rw [show kitB "tuple" "tuple" = some true from by decide +kernel]; rfl
  | lst ds => show (kitB "list" "tuple").map D.bl = _; rw [show kitB "list" "tuple" = some false from by decide +kernel]; rfl
@[simp] theorem isi_str (d : D) : oIsi "str" d = some (.bl (isStr d)) := by
  cases d with
  | non => show (kitB "NoneType" "str").map D.bl = _; rw [show kitB "NoneType" "str" = some false from by decide +kernel]; rfl
  | bl b => show (kitB "bool" "str").map D.bl = _; rw [show kitB "bool" "str" = some false from by decide +kernel]; rfl
  | int i => show (kitB "int" "str").map D.bl = _; rw [show kitB "int" "str" = some false from by decide +kernel]; rfl
  | str x => show (kitB "str" "str").map D.bl = _; rw [show kitB "str" "str" = some true from by decide +kernel]; rfl
  | tup ds => show (kitB "tuple" "str").map D.bl = _; rw [show kitB "tuple" "str" = some false from by decide +kernel]; rfl
  | lst ds => show (kitB "list" "str").map D.bl = _; rw [show kitB "list" "str" = some false from by decide +kernel]; rfl
@[simp] theorem isi_int (d : D) : oIsi "int" d = some (.bl (isInt d)) := by
  cases d with
  | non => show (kitB "NoneType" "int").map D.bl = _; rw [show kitB "NoneType" "int" = some false from by decide +kernel]; rfl
  | bl b => show (kitB "bool" "int").map D.bl = _; rw [show kitB "bool" "int" = some true from by decide +kernel]; rfl
  | int i => show (kitB "int" "int").map D.bl = _; rw [show kitB "int" "int" = some true from by decide +kernel]; rfl
  | str x => show (kitB "str" "int").map D.bl = _; rw [show kitB "str" "int" = some false from by decide +kernel]; rfl
  | tup ds => show (kitB "tuple" "int").map D.bl = _; rw [show kitB "tuple" "int" = some false from by decide +kernel]; rfl
  | lst ds => show (kitB "list" "int").map D.bl = _; rw [show kitB "list" "int" = some false from by decide +kernel]; rfl
@[simp] theorem isi_bool (d : D) : oIsi "bool" d = some (.bl (isBl d)) := by
  cases d with
  | non => show (kitB "NoneType" "bool").map D.bl = _; rw [show kitB "NoneType" "bool" = some false from by decide +kernel]; rfl
  | bl b => show (kitB "bool" "bool").map D.bl = _; rw [show kitB "bool" "bool" = some true from by decide +kernel]; rfl
  | int i => show (kitB "int" "bool").map D.bl = _; rw [show kitB "int" "bool" = some false from by decide +kernel]; rfl
  | str x => show (kitB "str" "bool").map D.bl = _; rw [show kitB "str" "bool" = some false from by decide +kernel]; rfl
  | tup ds => show (kitB "tuple" "bool").map D.bl = _; rw [show kitB "tuple" "bool" = some false from by decide +kernel]; rfl
  | lst ds => show (kitB "list" "bool").map D.bl = _; rw [show kitB "list" "bool" = some false from by decide +kernel]; rfl
@[simp] theorem tru_blS (b : Bool) : tru (.bl b) = some b := rfl
def wholeD : D → Bool
  | .int _ => true
  | _ => false
theorem e_is_whole (d : D) : M_is_whole [d] = .ok (.bl (wholeD d)) := by
  cases d <;> simp [M_is_whole, B_is_whole, isInt, isBl, wholeD]
def betwD (d : D) (lo hi : Int) : Bool := match d with
  | .int i => decide (lo ≤ i) && decide (i ≤ hi)
  | _ => false
theorem e_is_between (d : D) (lo hi : Int) : M_is_between [d, .int lo, .int hi] = .ok (.bl (betwD d lo hi)) := by
  cases d with
  | int i => by_cases h : lo ≤ i <;> simp [M_is_between, B_is_between, e_is_whole, wholeD, betwD, h]
  | _ => simp [M_is_between, B_is_between, e_is_whole, wholeD, betwD]
def soundD : D → Bool
  | .non => true
  | .str z => decide (z = "off")
  | .int i => decide (0 ≤ i) && decide (i ≤ 11)
  | _ => false
theorem e_is_sound {n : Nat} (d : D) (h : okS n d = true) : M_is_sound [d] = .ok (.bl (soundD d)) := by
  cases d with
  | str z =>
    have hz : strOK z = true := by cases n <;> exact h
    by_cases e : z = "off"
    · subst e
      simp [M_is_sound, B_is_sound, isStr, oEq_str off_ok off_ok, soundD]
    · simp [M_is_sound, B_is_sound, isStr, oEq_str hz off_ok, e_is_between, betwD, soundD, e]
  | int i => simp [M_is_sound, B_is_sound, isStr, e_is_between, betwD, soundD]
  | _ => simp [M_is_sound, B_is_sound, isStr, e_is_between, betwD, soundD]
def LEAST : List (Str × Int) := [("speed", 1), ("slide", (-6)), ("jump", 0), ("skip", 0), ("again", 1)]
def GREATEST : List (Str × Int) := [("speed", 4), ("slide", 6), ("jump", 5), ("skip", 5), ("again", 3)]
def deedD (places : Nat) : D → Bool
  | .non => true
  | .tup [.str z, x] => (match tabAt LEAST z, tabAt GREATEST z with
      | some lo, some hi => betwD x lo hi && (decide (z ≠ "jump") || betwD x 0 ((places : Int) - 1))
      | _, _ => false)
  | _ => false
theorem tab_same (z : Str) : (tabAt LEAST z).isSome = (tabAt GREATEST z).isSome := by
  simp only [LEAST, GREATEST, tabAt]
  repeat' split
  all_goals rfl
theorem jump_ok : strOK "jump" = true := by decide +kernel
theorem e_is_deed {n : Nat} (d : D) (places : Nat) (h : okS n d = true) : M_is_deed [d, .int places] = .ok (.bl (deedD places d)) := by
  cases d with
  | non => simp [M_is_deed, B_is_deed, deedD]
  | bl b => simp [M_is_deed, B_is_deed, deedD, isTup]
  | int b => simp [M_is_deed, B_is_deed, deedD, isTup]
  | str b => simp [M_is_deed, B_is_deed, deedD, isTup]
  | lst b => simp [M_is_deed, B_is_deed, deedD, isTup]
  | tup ds =>
    match ds, h with
    | [], _ => simp [M_is_deed, B_is_deed, deedD, isTup]
    | [a], _ => simp [M_is_deed, B_is_deed, deedD, isTup]
    | a :: b :: c :: r, _ => 
      have : ¬ ((r.length : Int) + 1 + 1 + 1 = 2) := by omega
      simp [M_is_deed, B_is_deed, deedD, isTup, this]
    | [a, x], h =>
      cases a with
      | str z =>
        have hz : strOK z = true := by
          cases n with
          | zero => cases h
          | succ n =>
            simp [okS] at h
            cases n <;> exact h.1
        have e1 := tab_same z
        cases hl : tabAt LEAST z with
        | none =>
          have hl' := hl
          unfold LEAST at hl'
          simp [M_is_deed, B_is_deed, deedD, isTup, isStr, hl, hl']
        | some lo =>
          rw [hl] at e1
          cases hg : tabAt GREATEST z with
          | none => rw [hg] at e1; cases e1
          | some hi =>
            have hl' := hl
            have hg' := hg
            unfold LEAST at hl'
            unfold GREATEST at hg'
            cases hb : betwD x lo hi with
            | false => simp [M_is_deed, B_is_deed, deedD, isTup, isStr, hl, hl', hg, hg', e_is_between, hb]
            | true =>
              cases x with
              | int i =>
                by_cases hj : z = "jump"
                · subst hj
                  have hlo : 0 ≤ i := by
                    have : tabAt LEAST "jump" = some 0 := by decide +kernel
                    rw [this] at hl
                    cases hl
                    simp [betwD] at hb
                    exact hb.1
                  simp [M_is_deed, B_is_deed, deedD, isTup, isStr, hl, hl', hg, hg', e_is_between, hb, oNe_str jump_ok jump_ok]
                  simp [betwD, hlo]
                  omega
                · simp [M_is_deed, B_is_deed, deedD, isTup, isStr, hl, hl', hg, hg', e_is_between, hb, oNe_str hz jump_ok, hj]
              | _ => cases hb
      | _ => simp [M_is_deed, B_is_deed, deedD, isTup, isStr]
theorem pl_at' {n : Nat} {ds : List D} (h : okS n (.tup ds) = true) : ∃ m, n = m + 1 ∧ ∀ d ∈ ds, okS m d = true := by
  cases n with
  | zero => cases h
  | succ m => exact ⟨m, rfl, by simpa [okS] using h⟩
def boxD (places : Nat) : D → Bool
  | .tup [a, b] => soundD a && deedD places b
  | _ => false
theorem e_is_box {n : Nat} (d : D) (places : Nat) (h : okS n d = true) : M_is_box [d, .int places] = .ok (.bl (boxD places d)) := by
  cases d with
  | tup ds =>
    obtain ⟨m, rfl, hm⟩ := pl_at' h
    match ds, hm with
    | [], _ => simp [M_is_box, B_is_box, boxD, isTup]
    | [a], _ => simp [M_is_box, B_is_box, boxD, isTup]
    | a :: b :: c :: r, _ =>
      have : ¬ ((r.length : Int) + 1 + 1 + 1 = 2) := by omega
      simp [M_is_box, B_is_box, boxD, isTup, this]
    | [a, b], hm =>
      have h1 := e_is_sound a (hm a (by simp))
      have h2 := e_is_deed b places (hm b (by simp))
      cases hs : soundD a with
      | true => simp [M_is_box, B_is_box, boxD, isTup, h1, h2, hs]
      | false => simp [M_is_box, B_is_box, boxD, isTup, h1, hs]
  | _ => simp [M_is_box, B_is_box, boxD, isTup]
/-- all([f(x) for x in ..]) -/
theorem all_comp {ft : DG} {elt : DE} {ε : Ev} {p : D → Bool} (ds : List D) (h : ∀ d ∈ ds, ∃ ε1, ft d ε = some ε1 ∧ elt ε1 = .ok (.bl (p d))) : compL ft dYes elt ε ds = .ok ((ds.map p).map D.bl) := by
  have := compL_map (ft := ft) (elt := elt) (ε := ε) (enc := id) (g := fun d => D.bl (p d)) ds h
  rw [List.map_id] at this
  rw [this, List.map_map]
  rfl
def lenOk (n m : Nat) : Bool := decide (1 ≤ n) && decide (n ≤ m)
def rowD (places : Nat) : D → Bool
  | .tup ds => lenOk ds.length 3 && ds.all (boxD places)
  | _ => false
theorem all_map (p : D → Bool) (ds : List D) : (ds.map p).all id = ds.all p := by simp [List.all_map]
theorem e_is_row {n : Nat} (d : D) (places : Nat) (h : okS n d = true) : M_is_row [d, .int places] = .ok (.bl (rowD places d)) := by
  cases d with
  | tup ds =>
    obtain ⟨m, rfl, hm⟩ := pl_at' h
    have hc := all_comp (ft := tgN 2) (elt := E_is_row_1) (ε := [.val (.tup ds), .val (.int places), .un]) (p := boxD places) ds (fun d hd => ⟨_, rfl, by simp [e_is_box d places (hm d hd)]⟩)
    have iter : oSeq (.tup ds) = some ds := rfl
    by_cases h1 : 1 ≤ ds.length
    · by_cases h2 : ds.length ≤ 3
      · have hl : ds.length ≤ LIM := Nat.le_trans h2 (by decide)
        have h1' : (1 : Int) ≤ (ds.length : Int) := by omega
        have h2' : (ds.length : Int) ≤ 3 := by omega
        simp [M_is_row, B_is_row, isTup, h1', h2', hl, hc, blsOf_map, all_map, rowD, lenOk, h1, h2, iter, -List.map_map]
      · have h1' : (1 : Int) ≤ (ds.length : Int) := by omega
        have h2' : ¬ (ds.length : Int) ≤ 3 := by omega
        simp [M_is_row, B_is_row, isTup, h1', h2', rowD, lenOk, h1, h2]
    · have h1' : ¬ (1 : Int) ≤ (ds.length : Int) := by omega
      simp [M_is_row, B_is_row, isTup, h1', rowD, lenOk, h1]
  | _ => simp [M_is_row, B_is_row, rowD, isTup]
def patD (places : Nat) : D → Bool
  | .tup ds => lenOk ds.length 6 && ds.all (rowD places)
  | _ => false
theorem e_is_pattern {n : Nat} (d : D) (places : Nat) (h : okS n d = true) : M_is_pattern [d, .int places] = .ok (.bl (patD places d)) := by
  cases d with
  | tup ds =>
    obtain ⟨m, rfl, hm⟩ := pl_at' h
    have hc := all_comp (ft := tgN 2) (elt := E_is_pattern_1) (ε := [.val (.tup ds), .val (.int places), .un]) (p := rowD places) ds (fun d hd => ⟨_, rfl, by simp [e_is_row d places (hm d hd)]⟩)
    have iter : oSeq (.tup ds) = some ds := rfl
    by_cases h1 : 1 ≤ ds.length
    · by_cases h2 : ds.length ≤ 6
      · have hl : ds.length ≤ LIM := Nat.le_trans h2 (by decide)
        have h1' : (1 : Int) ≤ (ds.length : Int) := by omega
        have h2' : (ds.length : Int) ≤ 6 := by omega
        simp [M_is_pattern, B_is_pattern, isTup, h1', h2', hl, hc, blsOf_map, all_map, patD, lenOk, h1, h2, iter, -List.map_map]
      · have h1' : (1 : Int) ≤ (ds.length : Int) := by omega
        have h2' : ¬ (ds.length : Int) ≤ 6 := by omega
        simp [M_is_pattern, B_is_pattern, isTup, h1', h2', patD, lenOk, h1, h2]
    · have h1' : ¬ (1 : Int) ≤ (ds.length : Int) := by omega
      simp [M_is_pattern, B_is_pattern, isTup, h1', patD, lenOk, h1]
  | _ => simp [M_is_pattern, B_is_pattern, patD, isTup]
def lenD : D → Nat
  | .tup ds => ds.length
  | _ => 0
def manyD : List D → Nat
  | .tup (r :: _) :: _ => lenD r
  | _ => 0
def evenD (many : Nat) : D → Bool
  | .tup rs => rs.all fun r => decide (lenD r = many)
  | _ => false
def songD : D → Bool
  | .tup [sp, .tup os, .tup ps] => betwD sp 1 4 && (lenOk os.length 6 && (lenOk ps.length 6 && (ps.all (patD os.length) && (os.all (fun o => betwD o 0 ((ps.length : Int) - 1)) && ps.all (evenD (manyD ps))))))
  | _ => false
theorem rowD_len {places : Nat} {r : D} (h : rowD places r = true) : ∃ bs, r = .tup bs := by
  cases r with
  | tup bs => exact ⟨bs, rfl⟩
  | _ => cases h
theorem patD_rows {places : Nat} {p : D} (h : patD places p = true) : ∃ rs, p = .tup rs ∧ 1 ≤ rs.length ∧ rs.length ≤ 6 ∧ ∀ r ∈ rs, rowD places r = true := by
  cases p with
  | tup rs =>
    simp [patD, lenOk] at h
    exact ⟨rs, rfl, h.1.1, h.1.2, h.2⟩
  | _ => cases h
theorem e_is_song {n : Nat} (d : D) (h : okS n d = true) : M_is_song [d] = .ok (.bl (songD d)) := by
  cases d with
  | tup ds =>
    obtain ⟨m, rfl, hm⟩ := pl_at' h
    match ds, hm with
    | [], _ => simp [M_is_song, B_is_song, songD, isTup]
    | [a], _ => simp [M_is_song, B_is_song, songD, isTup]
    | [a, b], _ => simp [M_is_song, B_is_song, songD, isTup]
    | a :: b :: c :: e :: r, _ =>
      have : ¬ ((r.length : Int) + 1 + 1 + 1 + 1 = 3) := by omega
      simp [M_is_song, B_is_song, songD, isTup, this]
    | [sp, o, q], hm =>
      have e0 := e_is_between sp 1 4
      cases hb : betwD sp 1 4 with
      | false =>
        rw [hb] at e0
        have : songD (.tup [sp, o, q]) = false := by
          cases o <;> cases q <;> simp [songD, hb]
        simp [M_is_song, B_is_song, isTup, e0, this]
      | true =>
        rw [hb] at e0
        cases o with
        | tup os =>
          by_cases h1 : 1 ≤ os.length
          · by_cases h2 : os.length ≤ 6
            · have h1' : (1 : Int) ≤ (os.length : Int) := by omega
              have h2' : (os.length : Int) ≤ 6 := by omega
              cases q with
              | tup ps =>
                by_cases h3 : 1 ≤ ps.length
                · by_cases h4 : ps.length ≤ 6
                  · have h3' : (1 : Int) ≤ (ps.length : Int) := by omega
                    have h4' : (ps.length : Int) ≤ 6 := by omega
                    obtain ⟨m', rfl, hpp⟩ := pl_at' (hm (.tup ps) (by simp))
                    have c1 := all_comp (ft := tgN 1) (elt := E_is_song_1) (ε := [.val (.tup [sp, .tup os, .tup ps]), .un, .un, .un, .un]) (p := patD os.length) ps (fun d hd => ⟨_, rfl, by simp [e_is_pattern d os.length (hpp d hd)]⟩)
                    have c2 := all_comp (ft := tgN 2) (elt := E_is_song_2) (ε := [.val (.tup [sp, .tup os, .tup ps]), .un, .un, .un, .un]) (p := fun o => betwD o 0 ((ps.length : Int) - 1)) os (fun d hd => ⟨_, rfl, by simp [e_is_between]⟩)
                    have iter : ∀ ds, oSeq (.tup ds) = some ds := fun _ => rfl
                    have hlo : os.length ≤ LIM := Nat.le_trans h2 (by decide)
                    have hlp : ps.length ≤ LIM := Nat.le_trans h4 (by decide)
                    cases hp : ps.all (patD os.length) with
                    | false => simp [M_is_song, B_is_song, isTup, e0, h1', h2', h3', h4', hlp, iter, c1, blsOf_map, all_map, hp, songD, -List.map_map, -List.all_eq_true]
                    | true =>
                      cases ho : os.all (fun o => betwD o 0 ((ps.length : Int) - 1)) with
                      | false => simp [M_is_song, B_is_song, isTup, e0, h1', h2', h3', h4', hlp, hlo, iter, c1, c2, blsOf_map, all_map, hp, ho, songD, -List.map_map, -List.all_eq_true]
                      | true =>
                        have hpa := List.all_eq_true.mp hp
                        obtain ⟨p0, ps', hpe⟩ : ∃ p0 ps', ps = p0 :: ps' := by
                          cases ps with
                          | nil => exact absurd h3 (by decide)
                          | cons p0 ps' => exact ⟨p0, ps', rfl⟩
                        obtain ⟨rs0, q1, g1, g2, g3⟩ := patD_rows (hpa p0 (by rw [hpe]; simp))
                        obtain ⟨r0, rs', hre⟩ : ∃ r0 rs', rs0 = r0 :: rs' := by
                          cases rs0 with
                          | nil => exact absurd g1 (by decide)
                          | cons p0 ps' => exact ⟨p0, ps', rfl⟩
                        obtain ⟨bs0, q2⟩ := rowD_len (g3 r0 (by rw [hre]; simp))
                        have f0 : atI ps 0 = some (.tup rs0) := by rw [hpe, q1]; exact atI_0 _ _
                        have f1 : atI rs0 0 = some (.tup bs0) := by rw [hre, q2]; exact atI_0 _ _
                        have f2 : manyD ps = bs0.length := by rw [hpe, q1, hre, q2]; rfl
                        have c3 := all_comp (ft := tgN 1) (elt := E_is_song_4) (ε := [.val (.tup [sp, .tup os, .tup ps]), .un, .un, .val (.int bs0.length), .un]) (p := evenD bs0.length) ps (fun d hd => by
                          refine ⟨_, rfl, ?_⟩
                          obtain ⟨rs, rfl, g4, g5, g6⟩ := patD_rows (hpa d hd)
                          have c4 := all_comp (ft := tgN 4) (elt := E_is_song_3) (ε := [.val (.tup [sp, .tup os, .tup ps]), .val (.tup rs), .un, .val (.int bs0.length), .un]) (p := fun r => decide (lenD r = bs0.length)) rs (fun r hr => by
                            obtain ⟨bs, rfl⟩ := rowD_len (g6 r hr)
                            refine ⟨_, rfl, ?_⟩
                            simp [lenD]
                            exact decide_eq_decide.mpr (by omega))
                          have hlr : rs.length ≤ LIM := Nat.le_trans g5 (by decide)
                          simp [iter, hlr, c4, blsOf_map, all_map, evenD, -List.map_map, -List.all_eq_true])
                        simp [M_is_song, B_is_song, isTup, e0, h1', h2', h3', h4', hlp, hlo, iter, c1, c2, f0, f1, c3, blsOf_map, all_map, hp, ho, songD, f2, lenOk, h1, h2, h3, h4, hb, -List.map_map, -List.all_eq_true]
                  · have h3' : (1 : Int) ≤ (ps.length : Int) := by omega
                    have h4' : ¬ (ps.length : Int) ≤ 6 := by omega
                    simp [M_is_song, B_is_song, isTup, e0, h1', h2', h3', h4', songD, lenOk, h4]
                · have h3' : ¬ (1 : Int) ≤ (ps.length : Int) := by omega
                  simp [M_is_song, B_is_song, isTup, e0, h1', h2', h3', songD, lenOk, h3]
              | _ => simp [M_is_song, B_is_song, isTup, e0, h1', h2', songD]
            · have h1' : (1 : Int) ≤ (os.length : Int) := by omega
              have h2' : ¬ (os.length : Int) ≤ 6 := by omega
              have : songD (.tup [sp, .tup os, q]) = false := by cases q <;> simp [songD, lenOk, h2]
              simp [M_is_song, B_is_song, isTup, e0, h1', h2', this]
          · have h1' : ¬ (1 : Int) ≤ (os.length : Int) := by omega
            have : songD (.tup [sp, .tup os, q]) = false := by cases q <;> simp [songD, lenOk, h1]
            simp [M_is_song, B_is_song, isTup, e0, h1', this]
        | _ => simp [M_is_song, B_is_song, isTup, e0, songD]
  | _ => simp [M_is_song, B_is_song, songD, isTup]
end W

set_option Elab.async false
set_option linter.all false
set_option maxRecDepth 100000
set_option maxHeartbeats 1000000
/-! MJ: good songs are songs. -/
namespace W
open PySem L2 PL
theorem soundD_ok {x : Snd} (h : SndOk x) : soundD (encSnd x) = true := by
  cases x with
  | non => rfl
  | off => decide +kernel
  | h i =>
    have h : 0 ≤ i ∧ i < 12 := h
    simp [encSnd, soundD]
    omega
theorem least_nm (w : Wd) : tabAt LEAST w.nm = some (match w with | .speed => 1 | .slide => -6 | .jump => 0 | .skip => 0 | .again => 1) := by cases w <;> decide +kernel
theorem greatest_nm (w : Wd) : tabAt GREATEST w.nm = some (match w with | .speed => 4 | .slide => 6 | .jump => 5 | .skip => 5 | .again => 3) := by cases w <;> decide +kernel
theorem jump_nm (w : Wd) : (w.nm = "jump") ↔ w = .jump := by cases w <;> decide +kernel
theorem deedD_ok {places : Nat} (hp : places ≤ 6) {d : Option (Wd × Int)} (h : ∀ w n, d = some (w, n) → DeedOk places w n) : deedD places (encDeed d) = true := by
  rcases d with _ | ⟨w, n⟩
  · rfl
  · have h := h w n rfl
    have e : deedD places (encDeed (some (w, n))) = (match tabAt LEAST w.nm, tabAt GREATEST w.nm with
      | some lo, some hi => betwD (.int n) lo hi && (decide (w.nm ≠ "jump") || betwD (.int n) 0 ((places : Int) - 1))
      | _, _ => false) := rfl
    rw [e, least_nm, greatest_nm]
    cases w with
    | jump =>
      have h : 0 ≤ n ∧ n < places := h
      simp [betwD]
      omega
    | speed =>
      have h : 1 ≤ n ∧ n ≤ 4 := h
      have : ¬ (Wd.nm .speed = "jump") := by decide +kernel
      simp [betwD, this]
      omega
    | slide =>
      have h : -6 ≤ n ∧ n ≤ 6 := h
      have : ¬ (Wd.nm .slide = "jump") := by decide +kernel
      simp [betwD, this]
      omega
    | skip =>
      have h : 0 ≤ n ∧ n ≤ 5 := h
      have : ¬ (Wd.nm .skip = "jump") := by decide +kernel
      simp [betwD, this]
      omega
    | again =>
      have h : 1 ≤ n ∧ n ≤ 3 := h
      have : ¬ (Wd.nm .again = "jump") := by decide +kernel
      simp [betwD, this]
      omega
theorem boxD_ok {places : Nat} (hp : places ≤ 6) {b : Box} (h : BoxOk places b) : boxD places (encBox b) = true := by
  show (soundD (encSnd b.snd) && deedD places (encDeed b.deed)) = true
  rw [soundD_ok h.snd, deedD_ok hp h.deed]
  rfl
theorem rowD_ok {places : Nat} (hp : places ≤ 6) {r : Row} (h1 : 1 ≤ r.length ∧ r.length ≤ 3) (h : ∀ b ∈ r, BoxOk places b) : rowD places (encRow r) = true := by
  simp only [encRow, rowD, lenOk, Bool.and_eq_true, List.length_map, List.all_map, List.all_eq_true, decide_eq_true_eq]
  exact ⟨h1, fun b hb => boxD_ok hp (h b hb)⟩
theorem patD_ok {places : Nat} (hp : places ≤ 6) {p : Pat} (h1 : 1 ≤ p.length ∧ p.length ≤ 6) (h : ∀ r ∈ p, (1 ≤ r.length ∧ r.length ≤ 3) ∧ ∀ b ∈ r, BoxOk places b) : patD places (encPat p) = true := by
  simp only [encPat, patD, lenOk, Bool.and_eq_true, List.length_map, List.all_map, List.all_eq_true, decide_eq_true_eq]
  exact ⟨h1, fun r hr => rowD_ok hp (h r hr).1 (h r hr).2⟩
theorem songD_ok {s : Song} (h : WF s) : songD (encSong s) = true := by
  obtain ⟨r0, rs, ps, e1, e2⟩ := head_get h
  have hm : manyD (s.pats.map encPat) = voices s := by
    rw [e1, e2]
    simp [encPat, encRow, manyD, lenD]
  show (betwD (.int s.speed) 1 4 && (lenOk (s.order.map fun (k : Nat) => D.int k).length 6 && (lenOk (s.pats.map encPat).length 6 && ((s.pats.map encPat).all (patD (s.order.map fun (k : Nat) => D.int k).length) && ((s.order.map fun (k : Nat) => D.int k).all (fun o => betwD o 0 (((s.pats.map encPat).length : Int) - 1)) && (s.pats.map encPat).all (evenD (manyD (s.pats.map encPat)))))))) = true
  rw [hm]
  simp only [lenOk, Bool.and_eq_true, List.length_map, List.all_map, List.all_eq_true, decide_eq_true_eq]
  refine ⟨?_, h.on, h.ps, fun p hp => ?_, fun k hk => ?_, fun p hp => ?_⟩
  · have := h.sp
    simp [betwD]
    omega
  · exact patD_ok h.on.2 (h.pn p hp) fun r hr => ⟨by rw [h.rl p hp r hr]; exact h.nv, h.bx p hp r hr⟩
  · have := h.ok k hk
    simp [betwD]
    omega
  · simp only [Function.comp, encPat, evenD, List.all_map, List.all_eq_true, decide_eq_true_eq]
    intro r hr
    simp [encRow, lenD, h.rl p hp r hr]
theorem e_is_song_ok {s : Song} (h : WF s) : M_is_song [encSong s] = .ok (.bl true) := by
  rw [e_is_song (n := 7) _ (okS_pl (pl_song s)), songD_ok h]
end W

set_option Elab.async false
set_option linter.all false
set_option maxRecDepth 100000
set_option maxHeartbeats 2000000
/-! K80h: the song that is made, as the law asks it. -/
namespace W
open PySem L2 PL
theorem flat_chunks (rows : List Row) : ∀ c, ((List.range c).map fun j => (rows.drop (6 * j)).take 6).flatten = rows.take (6 * c)
  | 0 => by simp
  | c + 1 => by
    rw [List.range_succ, List.map_append, List.flatten_append, flat_chunks rows c]
    simp only [List.map_cons, List.map_nil, List.flatten_cons, List.flatten_nil, List.append_nil]
    rw [show 6 * (c + 1) = 6 * c + 6 by omega, List.take_add]
theorem lin_flat (sp : Nat) (rows : List Row) : (linS sp rows).pats.flatten = rows := by
  show ((List.range (cntP rows.length)).map fun j => (rows.drop (6 * j)).take 6).flatten = rows
  rw [flat_chunks, List.take_of_length_le]
  unfold cntP
  omega
theorem rows_loop (x0 x1 x2 x3 x4 x5 x6 x7 x10 x11 x12 : Sl) : ∀ (ps : List Pat) (l : List D) (x9 : Sl), l.length + (ps.map List.length).sum ≤ 1000 → ∃ y9, forL (tgN 9) B_law_2 (ps.map encPat) [x0, x1, x2, x3, x4, x5, x6, x7, .own l, x9, x10, x11, x12] =
    .nx [x0, x1, x2, x3, x4, x5, x6, x7, .own (l ++ ps.flatten.map encRow), y9, x10, x11, x12]
  | [], l, x9, _ => ⟨x9, by simp [forL]⟩
  | p :: ps, l, x9, h => by
    rw [List.map_cons, List.sum_cons] at h
    obtain ⟨y9, ih⟩ := rows_loop x0 x1 x2 x3 x4 x5 x6 x7 x10 x11 x12 ps (l ++ p.map encRow) (.val (encPat p)) (by rw [List.length_append, List.length_map]; omega)
    refine ⟨y9, ?_⟩
    have it : oSeq (encPat p) = some (p.map encRow) := rfl
    have h1 : p.length ≤ LIM := by show _ ≤ 100000; omega
    have h2 : l.length + p.length ≤ LIM := by show _ ≤ 100000; omega
    have b : B_law_2 [x0, x1, x2, x3, x4, x5, x6, x7, .own l, .val (encPat p), x10, x11, x12] = .nx [x0, x1, x2, x3, x4, x5, x6, x7, .own (l ++ p.map encRow), .val (encPat p), x10, x11, x12] := by
      have ol : oList (encPat p) = some (p.map encRow) := rfl
      simp [ol, h2]
    rw [List.map_cons]
    conv => lhs; unfold forL
    have tg : tgN 9 (encPat p) [x0, x1, x2, x3, x4, x5, x6, x7, .own l, x9, x10, x11, x12] = some [x0, x1, x2, x3, x4, x5, x6, x7, .own l, .val (encPat p), x10, x11, x12] := rfl
    rw [tg]
    dsimp only
    rw [b]
    dsimp only
    rw [ih, List.flatten_cons, List.map_append, List.append_assoc]
section
variable {hs : List Hs1} {v sp : Nat} {rows : List Row}
theorem fit_deeds (g : HsG hs v) (F : Fit hs 0 sp rows) : ∀ r ∈ rows, ∀ b ∈ r, ∀ w n, b.deed = some (w, n) → w = .slide ∨ w = .speed := fun r hr b hb w n e => by
  obtain ⟨a, m, sp', q1, q2, R⟩ := fit_rows g F r hr
  obtain ⟨u, hu, eu⟩ := List.mem_iff_getElem.mp hb
  obtain ⟨b', c, w1, _, _, w4⟩ := R.bx u hu
  rw [List.getElem?_eq_getElem hu, eu] at w1
  cases w1
  rcases w4 with ⟨z, _⟩ | z | ⟨z, _⟩
  · rw [z] at e; cases e
  · rw [z] at e; cases e; exact .inl rfl
  · rw [z] at e; cases e; exact .inr rfl
theorem played_unlike (g : HsG hs v) (hs4 : 1 ≤ sp ∧ sp ≤ 4) (F : Fit hs 0 sp rows) (h36 : rows.length ≤ 36) : oLenSet (.lst (rowsL (linS sp rows) rows.length)) = some (.int rows.length) := by
  have e : rowsL (linS sp rows) rows.length = ((List.range rows.length).map fun k => (((k / 6 : Nat) : Int), ((k % 6 : Nat) : Int))).map prD2 := by
    unfold rowsL
    rw [List.map_map]
    refine List.map_congr_left fun k hk => ?_
    have hk := List.mem_range.mp hk
    obtain ⟨a, sp', _, _, _, f4, f5, _⟩ := lin_at g hs4 F h36 k (by omega)
    have pos : posR rows.length k = (k / 6, k % 6) := by unfold posR; rw [if_neg (by omega)]
    rw [pos] at f4 f5
    show encPR _ = prD2 _
    unfold encPR prD2
    rw [f4, f5]
  rw [e, oLenSet_lst, prsOf_map]
  dsimp only
  rw [if_pos, List.length_map, List.length_range]
  refine ⟨?_, by rw [List.length_map, List.length_range]; omega⟩
  refine List.Pairwise.map _ ?_ (List.nodup_range (n := rows.length))
  intro x y hxy z
  injection z with z1 z2
  exact hxy (by omega)
end
end W

set_option Elab.async false
set_option linter.all false
set_option maxRecDepth 100000
set_option maxHeartbeats 2000000
/-! K80i: the law behind its heights. -/
namespace W
open PySem L2 PL
abbrev T_law : DS := (sSeq (sSet 7 (dCallX M_song_of (dArgs [(dLst (lList (vVar 1)))])))
    (sSeq (sIf (dOrT (dTestB (d2 oIsNot (dCall M_is_song (dArgs [(dVar 7)])) (dC (.bl true)))) (dTestB (d2 oNe (dCall M_heard (dArgs [(dVar 7), (d1 oLen (vVar 1))])) (vVar 1))))
    (sRet (dC (.bl false)))
    sNil)
    (sSeq (sOwn 8 (lLst []))
    (sSeq (sFor (iSq (d2 oIx (dVar 7) (dC (.int 2)))) (tgN 9)
    B_law_2)
    (sSeq (sFrz 8 (sFor (iSq (dVar 8)) (tgN 10)
    B_law_3))
    (sSeq (sSet 12 (dLst (lComp [9] (iSq (d2 oIx (dVar 7) (dC (.int 2)))) (tgN 9) dYes E_law_4)))
    (sSeq (sIf (dOrT (dTestB (d2 oNe (dSl (dVar 12) none (some (d1 oNeg (dC (.int 1))))) (d2 oMul (dLst (lLst [(dC (.int 6))])) (d2 oSub (d1 oLen (dVar 12)) (dC (.int 1)))))) (dTestB (d2 oNe (d2 oIx (dVar 7) (dC (.int 1))) (d1 oTuple (dLst (lRg1 (d1 oLen (dVar 12))))))))
    (sRet (dC (.bl false)))
    sNil)
    (sSeq (sIf (dTestB (d2 oNe (d2 oIx (dCall M_row_starts (dArgs [(dVar 7), (d2 oAdd (d1 oLen (vVar 8)) (dC (.int 1)))])) (d1 oNeg (dC (.int 1)))) (d1 oLen (vVar 1))))
    (sRet (dC (.bl false)))
    sNil)
    (sSeq (sIf (dTestB (d2 oNe (d1 oLenSet (dCall M_rows_played (dArgs [(dVar 7), (d1 oLen (vVar 8))]))) (d1 oLen (vVar 8))))
    (sRet (dC (.bl false)))
    sNil)
    (sFrz 1 (sRet (d2 oEq (d1 oLen (vVar 8)) (dCall M_L_fewest (dArgs [(dVar 1)]))))))))))))))
theorem deq_nm (w v : Wd) : deq (.str w.nm) (.str v.nm) = decide (w = v) := by
  by_cases h : w = v
  · subst h; rw [deq_refl, decide_eq_true rfl]
  · rw [decide_eq_false h]
    cases hd : deq (.str w.nm) (.str v.nm) with
    | false => rfl
    | true => exact absurd (nm_inj.mp (D.str.inj (deq_eq 0 0 _ _ (nm_ok w) (nm_ok v) hd))) h
theorem e_in3 (w : Wd) : oIn (.str w.nm) (.tup [.str "jump", .str "skip", .str "again"]) = some (.bl (decide (w = .jump) || decide (w = .skip) || decide (w = .again))) := by
  have h1 : eqok (.str w.nm) = true := pl_ok (n := 0) (nm_ok w)
  have h2 : eqok (.tup [.str "jump", .str "skip", .str "again"]) = true := pl_ok (n := 1) (pl_tup fun d hd => by
    simp only [List.mem_cons, List.not_mem_nil, or_false] at hd
    rcases hd with rfl | rfl | rfl
    · exact nm_ok .jump
    · exact nm_ok .skip
    · exact nm_ok .again)
  unfold oIn
  rw [oInB_tup, h1, h2]
  show some (D.bl (deq (.str Wd.jump.nm) (.str w.nm) || (deq (.str Wd.skip.nm) (.str w.nm) || (deq (.str Wd.again.nm) (.str w.nm) || false)))) = _
  rw [deq_nm, deq_nm, deq_nm]
  cases w <;> rfl
theorem cut_m1 (xs : List D) (h : 1 ≤ xs.length) : cut xs none (some (-1)) = xs.take (xs.length - 1) := by
  unfold cut
  have e : HT.sIx xs.length xs.length (some (-1)) = xs.length - 1 := by
    unfold HT.sIx
    simp
    omega
  rw [HT.sIx_none, e, List.drop_zero, Nat.sub_zero]
theorem comp_none {α : Type} {ft : DG} {test : Ev → Out Bool} {elt : DE} {ε : Ev} {enc : α → D} : ∀ (xs : List α), (∀ x ∈ xs, ∃ ε1, ft (enc x) ε = some ε1 ∧ test ε1 = .ok false) → compL ft test elt ε (xs.map enc) = .ok []
  | [], _ => rfl
  | x :: xs, h => by
    obtain ⟨ε1, h1, h2⟩ := h x (List.mem_cons_self ..)
    have ih := comp_none (elt := elt) xs fun z hz => h z (List.mem_cons_of_mem _ hz)
    rw [List.map_cons]
    unfold compL
    rw [h1]
    dsimp only
    rw [h2]
    simpa using ih
section
variable {hs : List Hs1} {v : Nat}
theorem no_turns {b : Box} (h : ∀ w n, b.deed = some (w, n) → w = .slide ∨ w = .speed) (x0 x1 x2 x3 x4 x5 x6 x7 x8 x9 x10 x12 : Sl) : C_law_1 [x0, x1, x2, x3, x4, x5, x6, x7, x8, x9, x10, .val (encBox b), x12] = .ok false := by
  rcases b with ⟨sn, _ | ⟨w, n⟩⟩
  · simp [encBox, encDeed, PL.isNon]
  · have := h w n rfl
    have e3 := e_in3 w
    rcases this with rfl | rfl
    · simp [-oInB_tup, encBox, encDeed, PL.isNon, e3]
    · simp [-oInB_tup, encBox, encDeed, PL.isNon, e3]
theorem law_rest (g : HsG hs v) (hn : hs.length ≤ 36) (ns : List Int) (x1 x2 x3 x4 x5 x6 : Sl) (hx : x1 = .val (encHs1 hs) ∨ x1 = .own (hs.map encHs)) :
    runF (T_law [.val (scr ns), x1, x2, x3, x4, x5, x6, .un, .un, .un, .un, .un, .un]) = .ok (.bl true) := by
  have hv1 : ∀ tl : List Sl, vVar 1 (.val (scr ns) :: x1 :: tl) = .ok (encHs1 hs) := fun tl => by
    rcases hx with rfl | rfl <;> rfl
  have hfz : ∀ (f : DS) (tl : List Sl), sFrz 1 f (.val (scr ns) :: x1 :: tl) = f (.val (scr ns) :: .val (encHs1 hs) :: tl) := fun f tl => by
    rcases hx with rfl | rfl <;> rfl
  obtain ⟨sp, rows, hsp, F, mn, eso⟩ := e_song_of g (by omega)
  have fl := fit_len F
  have hR : rows.length ≤ 36 := by omega
  have h1n := g.hn
  have hR1 : 1 ≤ rows.length := by
    cases rows with
    | nil => have : 0 = hs.length := F; omega
    | cons r l => simp
  rw [if_neg (by omega)] at eso
  obtain ⟨wf, vv⟩ := fit_wf g hsp F hR
  obtain ⟨en1, en2, _, _, _⟩ := lin_end g hsp F hR
  have eis := e_is_song_ok wf
  have hd := e_heard wf hs.length (by omega)
  rw [en2] at hd
  have rs := e_row_starts wf (rows.length + 1) (by omega)
  have rp := e_rows_played wf rows.length (by omega)
  have un := played_unlike g hsp F hR
  obtain ⟨R, ⟨sp', L, q1, q2, q3⟩, q4, efw⟩ := e_L_fewest g (by omega)
  have eR : R = rows.length := by
    have a := q4 sp rows hsp F
    have b := mn sp' L q1.1 q1.2 q2
    omega
  subst eR
  have oP : oIx (encSong (linS sp rows)) (.int 2) = some (.tup ((linS sp rows).pats.map encPat)) := rfl
  have oO : oIx (encSong (linS sp rows)) (.int 1) = some (.tup (rng 0 (cntP rows.length))) := by
    show some (encOrd (List.range (cntP rows.length))) = _
    unfold encOrd rng
    simp
  have lp : (linS sp rows).pats.length = cntP rows.length := by simp [linS]
  have cn : 1 ≤ cntP rows.length ∧ cntP rows.length ≤ 6 := by unfold cntP; omega
  have sum : ((linS sp rows).pats.map List.length).sum = rows.length := by
    have := congrArg List.length (lin_flat sp rows)
    rw [List.length_flatten] at this
    exact this
  obtain ⟨y9, rl⟩ := rows_loop (.val (scr ns)) x1 x2 x3 x4 x5 x6 (.val (encSong (linS sp rows))) .un .un .un (linS sp rows).pats [] .un (by rw [sum, List.length_nil]; omega)
  rw [lin_flat, List.nil_append] at rl
  have ls : (linS sp rows).pats.map List.length = (List.range (cntP rows.length)).map fun j => min 6 (rows.length - 6 * j) := by
    show (((List.range (cntP rows.length)).map fun j => (rows.drop (6 * j)).take 6)).map List.length = _
    rw [List.map_map]
    refine List.map_congr_left fun j _ => ?_
    simp
  obtain ⟨c, hc⟩ : ∃ c, c = cntP rows.length := ⟨_, rfl⟩
  rw [← hc] at oO lp cn ls
  have ez : ((linS sp rows).pats.map fun p => D.int (p.length : Int)) = (List.range c).map fun j => D.int ((min 6 (rows.length - 6 * j) : Nat) : Int) := by
    have : ((linS sp rows).pats.map fun p => D.int (p.length : Int)) = ((linS sp rows).pats.map List.length).map fun (n : Nat) => D.int (n : Int) := by rw [List.map_map]; rfl
    rw [this, ls, List.map_map]
    rfl
  obtain ⟨szs, hz⟩ : ∃ z, z = ((linS sp rows).pats.map fun p => D.int (p.length : Int)) := ⟨_, rfl⟩
  rw [← hz] at ez
  have lz : szs.length = c := by rw [ez]; simp
  have tz : szs.take (c - 1) = List.replicate (c - 1) (.int 6) := by
    rw [ez, ← List.map_take, List.take_range, Nat.min_eq_left (by omega)]
    refine List.ext_getElem? fun k => ?_
    rw [List.getElem?_map]
    by_cases hk : k < c - 1
    · rw [List.getElem?_range hk, List.getElem?_replicate, if_pos hk]
      have : min 6 (rows.length - 6 * k) = 6 := by unfold cntP at hc; omega
      show some (D.int ((min 6 (rows.length - 6 * k) : Nat) : Int)) = _
      rw [this]
      rfl
    · rw [List.getElem?_eq_none (by simpa using hk), List.getElem?_replicate, if_neg hk]
      rfl
  -- row by row, no turns
  have hdd := fit_deeds g F
  obtain ⟨ε3, f3, y10, e3⟩ := forL_inv (ft := tgN 10) (body := B_law_3) (fun _ ε => ∃ y10, ε = [.val (scr ns), x1, x2, x3, x4, x5, x6, .val (encSong (linS sp rows)), .val (.lst (rows.map encRow)), y9, y10, .un, .un]) (rows.map encRow) 0 [.val (scr ns), x1, x2, x3, x4, x5, x6, .val (encSong (linS sp rows)), .val (.lst (rows.map encRow)), y9, .un, .un, .un] ⟨_, rfl⟩ (by
      rintro i d ε hd ⟨y10, rfl⟩
      obtain ⟨r, hr, rfl⟩ := List.mem_map.mp (List.mem_of_getElem? hd)
      refine ⟨[.val (scr ns), x1, x2, x3, x4, x5, x6, .val (encSong (linS sp rows)), .val (.lst (rows.map encRow)), y9, .val (encRow r), .un, .un], _, rfl, ?_, .val (encRow r), rfl⟩
      have hrl : r.length = v := by
        obtain ⟨a, m, sp2, w1, w2, Rr⟩ := fit_rows g F r hr
        exact (rowFor_ok g w1 w2 Rr).1
      have hv := g.hv
      have c : compL (tgN 11) C_law_1 E_law_3 [.val (scr ns), x1, x2, x3, x4, x5, x6, .val (encSong (linS sp rows)), .val (.lst (rows.map encRow)), y9, .val (encRow r), .un, .un] (r.map encBox) = .ok [] := by
        exact comp_none r fun b hb => ⟨_, rfl, no_turns (hdd r hr b hb) _ _ _ _ _ _ _ _ _ _ _ _⟩
      have it : oSeq (encRow r) = some (r.map encBox) := rfl
      have hl : r.length ≤ LIM := by show _ ≤ 100000; omega
      have q0 : oNe (.lst []) (.lst []) = some (.bl false) := oNe_same (n := 1) rfl
      generalize encSong (linS sp rows) = so at *
      generalize rows.map encRow = rl at *
      simp [it, hl, c, q0])
  subst e3
  have ol : oList (encHs1 hs) = some (hs.map encHs) := rfl
  have eH : encHs1 hs = .lst (hs.map encHs) := rfl
  have oLh : oLen (encHs1 hs) = some (.int hs.length) := by rw [eH, oLen_lst, List.length_map]
  have qh : oNe (encHss hs) (encHs1 hs) = some (.bl false) := oNe_same (pl_hss hs)
  have lrl : (rows.map encRow).length = rows.length := List.length_map ..
  have lpl : ((linS sp rows).pats.map encPat).length ≤ LIM := by rw [List.length_map, lp]; show _ ≤ 100000; omega
  have c9 : ∀ x8 y10 : Sl, compL (tgN 9) dYes E_law_4 [.val (scr ns), x1, x2, x3, x4, x5, x6, .val (encSong (linS sp rows)), x8, .un, y10, .un, .un] ((linS sp rows).pats.map encPat) = .ok szs := fun x8 y10 => by
    rw [hz]
    exact compL_map (enc := encPat) (g := fun p => D.int (p.length : Int)) _ (fun p _ => ⟨_, rfl, by simp [len_pat]⟩)
  have cu := cut_m1 szs (by omega)
  rw [lz, tz] at cu
  have mu := mul_one (.int 6) (c - 1) (by omega)
  rw [show ((c - 1 : Nat) : Int) = (c : Int) - 1 by omega] at mu
  have q6 : oNe (.lst (List.replicate (c - 1) (.int 6))) (.lst (List.replicate (c - 1) (.int 6))) = some (.bl false) := oNe_same (n := 1) (pl_lst fun d hd => by rw [(List.mem_replicate.mp hd).2]; rfl)
  have qo : oNe (.tup (rng 0 c)) (.tup (rng 0 c)) = some (.bl false) := oNe_same (n := 1) (pl_tup fun d hd => by
    obtain ⟨k, _, rfl⟩ := List.mem_map.mp hd
    rfl)
  have cb : -1000000 ≤ (c : Int) ∧ (c : Int) ≤ 1000000 := by omega
  have lst : oIx (.lst (startsL (linS sp rows) (rows.length + 1))) (.int (-1)) = some (.int hs.length) := by
    rw [oIx_lst, atI_last', startsL_succ, en1]
    simp
  rw [show ((rows.length + 1 : Nat) : Int) = (rows.length : Int) + 1 by omega] at rs
  clear mn q4 hdd ls sum ez tz
  generalize rowsL (linS sp rows) rows.length = pld at *
  generalize startsL (linS sp rows) (rows.length + 1) = std at *
  generalize (linS sp rows).pats.map encPat = ptl at *
  generalize encSong (linS sp rows) = so at *
  generalize rows.map encRow = rl0 at *
  generalize List.replicate (c - 1) (D.int 6) = z6 at *
  have lim2 : rl0.length ≤ LIM := by rw [lrl]; show _ ≤ 100000; omega
  refine run_step (ε' := [.val (scr ns), x1, x2, x3, x4, x5, x6, .val so, .un, .un, .un, .un, .un]) (by simp [-vVar, hv1, ol, ← eH, eso]) ?_
  refine run_step (ε' := [.val (scr ns), x1, x2, x3, x4, x5, x6, .val so, .un, .un, .un, .un, .un]) (by simp [-vVar, hv1, eis, oLh, hd, qh]) ?_
  refine run_step (ε' := [.val (scr ns), x1, x2, x3, x4, x5, x6, .val so, .own [], .un, .un, .un, .un]) (by simp) ?_
  refine run_step (ε' := [.val (scr ns), x1, x2, x3, x4, x5, x6, .val so, .own rl0, y9, .un, .un, .un]) (by simp [oP, lpl, rl]) ?_
  refine run_step (ε' := [.val (scr ns), x1, x2, x3, x4, x5, x6, .val so, .val (.lst rl0), y9, y10, .un, .un]) (by simp [lim2, f3]) ?_
  refine run_step (ε' := [.val (scr ns), x1, x2, x3, x4, x5, x6, .val so, .val (.lst rl0), y9, y10, .un, .val (.lst szs)]) ?_ ?_
  · simp [oP, lpl, c9]
  refine run_step (ε' := [.val (scr ns), x1, x2, x3, x4, x5, x6, .val so, .val (.lst rl0), y9, y10, .un, .val (.lst szs)]) (by simp [-oMul_lst, cu, lz, mu, q6, oO, lRg1, cb, qo]) ?_
  refine run_step (ε' := [.val (scr ns), x1, x2, x3, x4, x5, x6, .val so, .val (.lst rl0), y9, y10, .un, .val (.lst szs)]) (by
    have hv8 : vVar 8 [.val (scr ns), x1, x2, x3, x4, x5, x6, .val so, .val (.lst rl0), y9, y10, .un, .val (.lst szs)] = .ok (.lst rl0) := rfl
    simp [-oIx_lst, -vVar, hv1, hv8, rs, lrl, lst, oLh]) ?_
  refine run_step (ε' := [.val (scr ns), x1, x2, x3, x4, x5, x6, .val so, .val (.lst rl0), y9, y10, .un, .val (.lst szs)]) (by simp [rp, un, lrl]) ?_
  rw [hfz]
  simp [efw, lrl]
end
end W

set_option Elab.async false
set_option linter.all false
set_option maxRecDepth 100000
set_option maxHeartbeats 1000000
/-! MB: what a law draws. -/
namespace W
open PySem L2 PL

/-! ### a box -/
theorem L_box_ok (ns : List Int) (at_ : Nat) (places : Nat) (hp : 1 ≤ places) : ∃ b : Box, BoxOk places b ∧ M_L_box [scr ns, .int at_, .int places] = .ok (encBox b) := by
  obtain ⟨d, hd, ed⟩ := pick_n ns at_ (m := 6) (by decide)
  obtain ⟨h, hh, eh⟩ := pick_n ns (at_ + 1) (m := 12) (by decide)
  obtain ⟨w, hw, ew⟩ := pick_n ns (at_ + 2) (m := 12) (by decide)
  have p0 := e_L_pick ns at_ 6 (by decide)
  have p1 := e_L_pick' ns (k := (at_ : Int) + 1) (at_ + 1) (by omega) 12 (by decide)
  have p2 := e_L_pick' ns (k := (at_ : Int) + 2) (at_ + 2) (by omega) 12 (by decide)
  have p3 := fun m hm => e_L_pick' ns (k := (at_ : Int) + 3) (at_ + 3) (by omega) m hm
  have b3 := fun (m : Int) (hm : 0 < m) => pick_lt ns (at_ + 3) hm
  rw [show ((6 : Nat) : Int) = 6 from rfl] at ed
  rw [show ((12 : Nat) : Int) = 12 from rfl] at eh ew
  rw [ed] at p0
  rw [eh] at p1
  rw [ew] at p2
  -- the sound
  have hs : ∃ sn : Snd, SndOk sn ∧ ∀ x5 x6 x7 : Sl, (sIf (dTestB (d2 oGt (dVar 3) (dC (.int 2))))
      (sSet 4 (dIf (dTestB (d2 oEq (dVar 3) (dC (.int 3)))) (dC (.str "off")) (dCall M_L_pick (dArgs [(dVar 0), (d2 oAdd (dVar 1) (dC (.int 1))), (dC (.int 12))]))))
      sNil) [.val (scr ns), .val (.int at_), .val (.int places), .val (.int d), .val .non, x5, x6, x7] = .nx [.val (scr ns), .val (.int at_), .val (.int places), .val (.int d), .val (encSnd sn), x5, x6, x7] := by
    by_cases h2 : 2 < d
    · by_cases h3 : d = 3
      · exact ⟨.off, trivial, fun _ _ _ => by subst h3; simp [encSnd]⟩
      · refine ⟨.h h, ⟨by omega, by omega⟩, fun _ _ _ => ?_⟩
        have h2' : (2 : Int) < (d : Int) := by omega
        have h3' : ¬ (d : Int) = 3 := by omega
        simp [h2', h3', p1, encSnd]
    · refine ⟨.non, trivial, fun _ _ _ => ?_⟩
      have h2' : ¬ (2 : Int) < (d : Int) := by omega
      simp [h2', encSnd]
  obtain ⟨sn, sok, hs⟩ := hs
  unfold M_L_box B_L_box
  have start : ∀ {r : Out D} {f : DS}, runF (f [.val (scr ns), .val (.int at_), .val (.int places), .un, .un, .un, .un, .un]) = r → runD 8 f [scr ns, .int at_, .int places] = r := fun h => h
  by_cases h5 : 5 < w
  · refine ⟨⟨sn, none⟩, ⟨sok, fun _ _ z => by cases z⟩, ?_⟩
    have h5' : (5 : Int) < (w : Int) := by omega
    refine start (run_step (ε' := [.val (scr ns), .val (.int at_), .val (.int places), .val (.int d), .un, .un, .un, .un]) (by simp [p0]) ?_)
    refine run_step (ε' := [.val (scr ns), .val (.int at_), .val (.int places), .val (.int d), .val .non, .un, .un, .un]) (by simp) ?_
    refine run_step (hs _ _ _) ?_
    simp [p2, h5', encBox, encDeed]
  · have key : ∃ (wd : Wd) (lo : Int) (m : Int), 0 < m ∧ (∀ v, 0 ≤ v → v < m → DeedOk places wd (lo + v)) ∧
        atI [D.str "speed", .str "slide", .str "slide", .str "jump", .str "skip", .str "again"] (w : Int) = some (.str wd.nm) ∧ atI [D.int 1, .int (-6), .int (-6), .int 0, .int 0, .int 1] (w : Int) = some (.int lo) ∧
        atI [D.int 3, .int 13, .int 13, .int places, .int 6, .int 2] (w : Int) = some (.int m) := by
      have hw7 : w = 0 ∨ w = 1 ∨ w = 2 ∨ w = 3 ∨ w = 4 ∨ w = 5 := by omega
      rcases hw7 with rfl | rfl | rfl | rfl | rfl | rfl
      · exact ⟨.speed, 1, 3, by decide, fun v h0 h1 => ⟨by omega, by omega⟩, rfl, rfl, rfl⟩
      · exact ⟨.slide, -6, 13, by decide, fun v h0 h1 => ⟨by omega, by omega⟩, rfl, rfl, rfl⟩
      · exact ⟨.slide, -6, 13, by decide, fun v h0 h1 => ⟨by omega, by omega⟩, rfl, rfl, rfl⟩
      · exact ⟨.jump, 0, places, by omega, fun v h0 h1 => ⟨by omega, by omega⟩, rfl, rfl, rfl⟩
      · exact ⟨.skip, 0, 6, by decide, fun v h0 h1 => ⟨by omega, by omega⟩, rfl, rfl, rfl⟩
      · exact ⟨.again, 1, 2, by decide, fun v h0 h1 => ⟨by omega, by omega⟩, rfl, rfl, rfl⟩
    obtain ⟨wd, lo, m, hm, dok, a1, a2, a3⟩ := key
    have bm := b3 m hm
    refine ⟨⟨sn, some (wd, lo + pickI ns (at_ + 3) m)⟩, ⟨sok, fun w' n' z => by cases z; exact dok _ bm.1 bm.2⟩, ?_⟩
    have h5' : ¬ (5 : Int) < (w : Int) := by omega
    refine start (run_step (ε' := [.val (scr ns), .val (.int at_), .val (.int places), .val (.int d), .un, .un, .un, .un]) (by simp [p0]) ?_)
    refine run_step (ε' := [.val (scr ns), .val (.int at_), .val (.int places), .val (.int d), .val .non, .un, .un, .un]) (by simp) ?_
    refine run_step (hs _ _ _) ?_
    simp [p2, h5', a1, a2, a3, p3 m hm, encBox, encDeed]

/-! ### a song -/
theorem small_nat {n : Nat} (h : n < 1000000) : small (n : Int) = true := by
  unfold small
  rw [decide_eq_true (by omega), decide_eq_true (by omega)]
  rfl
theorem L_row_ok (ns : List Int) (places voices : Nat) (hp : 1 ≤ places) (base : Nat) (x1 x2 x4 x6 x7 x8 x9 x12 : Sl) : ∃ r : Row, r.length = voices ∧ (∀ b ∈ r, BoxOk places b) ∧
    compL (tgN 11) dYes (dCall M_L_box (dArgs [(dVar 0), (d2 oAdd (dVar 10) (d2 oMul (dC (.int 4)) (dVar 11))), (dVar 3)]))
      [.val (scr ns), x1, x2, .val (.int places), x4, .val (.int voices), x6, x7, x8, x9, .val (.int base), .un, x12] (rng 0 voices) = .ok (r.map encBox) := by
  obtain ⟨ys, h1, h2, h3⟩ := comp_rng (g := encBox) (Q := BoxOk places) (ft := tgN 11) (elt := dCall M_L_box (dArgs [(dVar 0), (d2 oAdd (dVar 10) (d2 oMul (dC (.int 4)) (dVar 11))), (dVar 3)]))
    (ε := [.val (scr ns), x1, x2, .val (.int places), x4, .val (.int voices), x6, x7, x8, x9, .val (.int base), .un, x12]) voices fun i hi => by
      obtain ⟨b, hb, e⟩ := L_box_ok ns (base + 4 * i) places hp
      have hs : small 4 = true := by decide
      refine ⟨b, hb, _, rfl, ?_⟩
      simp at e
      simp [hs, e]
  exact ⟨ys, h1, h2, h3⟩
theorem L_pat_ok (ns : List Int) (at_ most places many voices j : Nat) (hv : voices ≤ 3) (hp : 1 ≤ places) (hm : 1 ≤ most ∧ most ≤ 4) (x6 x8 x9 x10 : Sl) : ∃ (p : Pat) (y9 y10 : Sl), 1 ≤ p.length ∧ p.length ≤ most ∧ (∀ r ∈ p, r.length = voices ∧ ∀ b ∈ r, BoxOk places b) ∧
    (sSeq (sOwn 8 (lLst []))
    (sSeq (sFor (iR1 (d2 oAdd (dC (.int 1)) (dCall M_L_pick (dArgs [(dVar 0), (d2 oAdd (d2 oAdd (dVar 1) (dC (.int 4))) (dVar 7)), (dVar 2)])))) (tgN 9)
    (sSeq (sSet 10 (d2 oAdd (d2 oAdd (d2 oAdd (dVar 1) (dC (.int 20))) (d2 oMul (dC (.int 50)) (dVar 7))) (d2 oMul (dC (.int 12)) (dVar 9))))
    (sApp 8 (d1 oTuple (dLst (lComp [11] (iR1 (dVar 5)) (tgN 11) dYes (dCall M_L_box (dArgs [(dVar 0), (d2 oAdd (dVar 10) (d2 oMul (dC (.int 4)) (dVar 11))), (dVar 3)]))))))))
    (sApp 6 (d1 oTuple (vVar 8))))) [.val (scr ns), .val (.int at_), .val (.int most), .val (.int places), .val (.int many), .val (.int voices), x6, .val (.int j), x8, x9, x10, .un, .un] =
    (sApp 6 (dC (encPat p))) [.val (scr ns), .val (.int at_), .val (.int most), .val (.int places), .val (.int many), .val (.int voices), x6, .val (.int j), .own (p.map encRow), y9, y10, .un, .un] := by
  obtain ⟨n, hn, en⟩ := pick_n ns (at_ + 4 + j) (m := most) hm.1
  have p0 := e_L_pick' ns (k := (at_ : Int) + 4 + j) (at_ + 4 + j) (by omega) (most : Int) (by omega)
  rw [en] at p0
  obtain ⟨ε', h1, rows, y9, y10, hl, hr, h2⟩ := for_rng (ft := tgN 9) (body := (sSeq (sSet 10 (d2 oAdd (d2 oAdd (d2 oAdd (dVar 1) (dC (.int 20))) (d2 oMul (dC (.int 50)) (dVar 7))) (d2 oMul (dC (.int 12)) (dVar 9))))
      (sApp 8 (d1 oTuple (dLst (lComp [11] (iR1 (dVar 5)) (tgN 11) dYes (dCall M_L_box (dArgs [(dVar 0), (d2 oAdd (dVar 10) (d2 oMul (dC (.int 4)) (dVar 11))), (dVar 3)]))))))))
    (fun i ε => ∃ (rows : Pat) (y9 y10 : Sl), rows.length = i ∧ (∀ r ∈ rows, r.length = voices ∧ ∀ b ∈ r, BoxOk places b) ∧
      ε = [.val (scr ns), .val (.int at_), .val (.int most), .val (.int places), .val (.int many), .val (.int voices), x6, .val (.int j), .own (rows.map encRow), y9, y10, .un, .un]) (1 + n)
    [.val (scr ns), .val (.int at_), .val (.int most), .val (.int places), .val (.int many), .val (.int voices), x6, .val (.int j), .own [], x9, x10, .un, .un] ⟨[], x9, x10, rfl, fun _ h => (List.not_mem_nil h).elim, rfl⟩ (by
      rintro i ε hi ⟨rows, y9, y10, hl, hr, rfl⟩
      obtain ⟨r, r1, r2, r3⟩ := L_row_ok ns places voices hp (at_ + 20 + 50 * j + 12 * i) (.val (.int at_)) (.val (.int most)) (.val (.int many)) x6 (.val (.int j)) (.own (rows.map encRow)) (.val (.int i)) .un
      have h50 : small 50 = true := by decide
      have h12 : small 12 = true := by decide
      have hv1 : -1000000 ≤ (voices : Int) ∧ (voices : Int) ≤ 1000000 := by omega
      have hv2 : voices ≤ LIM := by show voices ≤ 100000; omega
      have hl2 : rows.length < LIM := by show rows.length < 100000; omega
      refine ⟨_, _, rfl, ?_, rows ++ [r], .val (.int i), .val (.int ((at_ + 20 + 50 * j + 12 * i : Nat) : Int)), by simp [hl], fun r' hr' => ?_, rfl⟩
      · simp at r3
        simp [h50, h12, hv1, hv2, r3, hl2, encRow]
      · rcases List.mem_append.mp hr' with z | z
        · exact hr r' z
        · rw [List.mem_singleton.mp z]; exact ⟨r1, r2⟩)
  subst h2
  refine ⟨rows, y9, y10, by omega, by omega, hr, ?_⟩
  have hb : -1000000 ≤ 1 + (n : Int) ∧ 1 + (n : Int) ≤ 1000000 := by omega
  have ht : (1 + (n : Int)).toNat = 1 + n := by omega
  simp [p0, hb, ht, h1, encPat]

theorem L_song_ok (ns : List Int) (at_ most : Nat) (hm : 1 ≤ most ∧ most ≤ 4) : ∃ s : Song, WF s ∧ s.order.length ≤ most ∧ s.pats.length ≤ 3 ∧ (∀ p ∈ s.pats, p.length ≤ most) ∧ M_L_song [scr ns, .int at_, .int most] = .ok (encSong s) := by
  obtain ⟨pl0, hpl, epl⟩ := pick_n ns at_ (m := most) hm.1
  obtain ⟨mn, hmn, emn⟩ := pick_n ns (at_ + 1) (m := 3) (by decide)
  obtain ⟨vn, hvn, evn⟩ := pick_n ns (at_ + 2) (m := 4) (by decide)
  obtain ⟨sp, hsp, esp⟩ := pick_n ns (at_ + 3) (m := 4) (by decide)
  have p0 := e_L_pick ns at_ (most : Int) (by omega)
  have p1 := e_L_pick' ns (k := (at_ : Int) + 1) (at_ + 1) (by omega) 3 (by decide)
  have p2 := e_L_pick' ns (k := (at_ : Int) + 2) (at_ + 2) (by omega) 4 (by decide)
  have p3 := e_L_pick' ns (k := (at_ : Int) + 3) (at_ + 3) (by omega) 4 (by decide)
  rw [epl] at p0
  rw [show ((3 : Nat) : Int) = 3 from rfl] at emn
  rw [show ((4 : Nat) : Int) = 4 from rfl] at evn esp
  rw [emn] at p1
  rw [evn] at p2
  rw [esp] at p3
  obtain ⟨vs, hvs, a1⟩ : ∃ v : Nat, (1 ≤ v ∧ v ≤ 3) ∧ atI [D.int 1, .int 1, .int 2, .int 3] (vn : Int) = some (.int v) := by
    have : vn = 0 ∨ vn = 1 ∨ vn = 2 ∨ vn = 3 := by omega
    rcases this with rfl | rfl | rfl | rfl
    · exact ⟨1, ⟨by omega, by omega⟩, rfl⟩
    · exact ⟨1, ⟨by omega, by omega⟩, rfl⟩
    · exact ⟨2, ⟨by omega, by omega⟩, rfl⟩
    · exact ⟨3, ⟨by omega, by omega⟩, rfl⟩
  -- the patterns
  obtain ⟨ε', h1, pats, y7, y8, y9, y10, hl, hr, h2⟩ := for_rng (ft := tgN 7) (body := (sSeq (sOwn 8 (lLst []))
    (sSeq (sFor (iR1 (d2 oAdd (dC (.int 1)) (dCall M_L_pick (dArgs [(dVar 0), (d2 oAdd (d2 oAdd (dVar 1) (dC (.int 4))) (dVar 7)), (dVar 2)])))) (tgN 9)
    (sSeq (sSet 10 (d2 oAdd (d2 oAdd (d2 oAdd (dVar 1) (dC (.int 20))) (d2 oMul (dC (.int 50)) (dVar 7))) (d2 oMul (dC (.int 12)) (dVar 9))))
    (sApp 8 (d1 oTuple (dLst (lComp [11] (iR1 (dVar 5)) (tgN 11) dYes (dCall M_L_box (dArgs [(dVar 0), (d2 oAdd (dVar 10) (d2 oMul (dC (.int 4)) (dVar 11))), (dVar 3)]))))))))
    (sApp 6 (d1 oTuple (vVar 8))))))
    (fun i ε => ∃ (pats : List Pat) (y7 y8 y9 y10 : Sl), pats.length = i ∧ (∀ p ∈ pats, 1 ≤ p.length ∧ p.length ≤ most ∧ ∀ r ∈ p, r.length = vs ∧ ∀ b ∈ r, BoxOk (1 + pl0) b) ∧
      ε = [.val (scr ns), .val (.int at_), .val (.int most), .val (.int ((1 + pl0 : Nat) : Int)), .val (.int ((1 + mn : Nat) : Int)), .val (.int vs), .own (pats.map encPat), y7, y8, y9, y10, .un, .un]) (1 + mn)
    [.val (scr ns), .val (.int at_), .val (.int most), .val (.int ((1 + pl0 : Nat) : Int)), .val (.int ((1 + mn : Nat) : Int)), .val (.int vs), .own [], .un, .un, .un, .un, .un, .un] ⟨[], .un, .un, .un, .un, rfl, fun _ h => (List.not_mem_nil h).elim, rfl⟩ (by
      rintro i ε hi ⟨pats, y7, y8, y9, y10, hl, hr, rfl⟩
      obtain ⟨p, z9, z10, q1, q2, q3, q4⟩ := L_pat_ok ns at_ most (1 + pl0) (1 + mn) vs i hvs.2 (by omega) hm (.own (pats.map encPat)) y8 y9 y10
      have hl2 : pats.length < LIM := by show pats.length < 100000; omega
      refine ⟨_, _, rfl, q4.trans (by simp [hl2]; rfl), pats ++ [p], .val (.int i), .own (p.map encRow), z9, z10, by simp [hl], fun p' hp' => ?_, by simp⟩
      rcases List.mem_append.mp hp' with z | z
      · exact hr p' z
      · rw [List.mem_singleton.mp z]; exact ⟨q1, q2, q3⟩)
  subst h2
  -- the order
  obtain ⟨ord, o1, o2, o3⟩ := comp_rng (g := fun (k : Nat) => D.int k) (Q := fun k => k < 1 + mn) (ft := tgN 9) (elt := dCall M_L_pick (dArgs [(dVar 0), (d2 oAdd (d2 oAdd (dVar 1) (dC (.int 8))) (dVar 9)), (dVar 4)]))
    (ε := [.val (scr ns), .val (.int at_), .val (.int most), .val (.int ((1 + pl0 : Nat) : Int)), .val (.int ((1 + mn : Nat) : Int)), .val (.int vs), .own (pats.map encPat), y7, y8, .un, y10, .un, .un]) (1 + pl0) fun i hi => by
      obtain ⟨v, hv, ev⟩ := pick_n ns (at_ + 8 + i) (m := 1 + mn) (by omega)
      have pp := e_L_pick' ns (k := (at_ : Int) + 8 + i) (at_ + 8 + i) (by omega) ((1 + mn : Nat) : Int) (by omega)
      rw [ev] at pp
      refine ⟨v, hv, _, rfl, ?_⟩
      simp at pp
      simp [pp]
  refine ⟨⟨1 + sp, ord, pats⟩, ?_, by show ord.length ≤ most; omega, by show pats.length ≤ 3; omega, fun p hp => (hr p hp).2.1, ?_⟩
  · have hv : voices ⟨1 + sp, ord, pats⟩ = vs := by
      obtain ⟨p, ps, rfl⟩ : ∃ p ps, pats = p :: ps := by
        cases pats with
        | nil => simp at hl; omega
        | cons p ps => exact ⟨p, ps, rfl⟩
      obtain ⟨q1, _, q3⟩ := hr p (List.mem_cons_self ..)
      cases p with
      | nil => simp at q1
      | cons r rs => exact (q3 r (List.mem_cons_self ..)).1
    refine ⟨⟨by show (1 : Int) ≤ 1 + sp; omega, by show (1 : Int) + sp ≤ 4; omega⟩, ⟨by show 1 ≤ ord.length; omega, by show ord.length ≤ 6; omega⟩, fun k hk => ?_, ⟨by show 1 ≤ pats.length; omega, by show pats.length ≤ 6; omega⟩, fun p hp => ⟨(hr p hp).1, by have := (hr p hp).2.1; omega⟩, by rw [hv]; exact hvs, fun p hp r hrr => ?_, fun p hp r hrr b hb => ?_⟩
    · have := o2 k hk
      show k < pats.length
      omega
    · rw [hv]; exact ((hr p hp).2.2 r hrr).1
    · have := ((hr p hp).2.2 r hrr).2 b hb
      rw [show (1 + pl0) = ord.length from o1.symm] at this
      exact this
  · have hb : -1000000 ≤ 1 + (mn : Int) ∧ 1 + (mn : Int) ≤ 1000000 := by omega
    have ht : (1 + (mn : Int)).toNat = 1 + mn := by omega
    have hb2 : -1000000 ≤ 1 + (pl0 : Int) ∧ 1 + (pl0 : Int) ≤ 1000000 := by omega
    have ht2 : (1 + (pl0 : Int)).toNat = 1 + pl0 := by omega
    have hb3 : 1 + pl0 ≤ LIM := by show 1 + pl0 ≤ 100000; omega
    simp at h1 o3
    simp [M_L_song, B_L_song, p0, p1, p2, p3, a1, hb, ht, h1, hb2, ht2, hb3, o3, encSong, encOrd]
end W

set_option Elab.async false
set_option linter.all false
set_option maxRecDepth 100000
set_option maxHeartbeats 2000000
/-! K80: the plain law. -/
namespace W
open PySem L2 PL
def HsV (x : Hs1) (v : Nat) : Prop := x.length = v ∧ ∀ h ∈ x, ∀ i, h = some i → 0 ≤ i ∧ i < 12
theorem HsV.set {x : Hs1} {v u : Nat} (h : HsV x v) {z : Option Int} (hz : ∀ i, z = some i → 0 ≤ i ∧ i < 12) : HsV (x.set u z) v := by
  refine ⟨by rw [List.length_set]; exact h.1, fun y hy i e => ?_⟩
  rcases List.mem_or_eq_of_mem_set hy with w | w
  · exact h.2 y w i e
  · exact hz i (w ▸ e)
theorem sub_u {n u : Nat} (h : u < n) : ixN n (u : Int) = some u := by
  unfold ixN
  simp
  omega
def upH (L : List D) (u : Nat) (U : Int) : D → List D
  | .int i => L.set u (.int ((i + U + 2) % 12))
  | _ => L
theorem h_gen (ns : List Int) (K U W Q : Int) (L : List D) (u : Nat) (d : D) (x2 x4 y7 : Sl) (hs' : ∀ k : Nat → Fl, subF (.int U) L.length k = k u) (hd : oIx (.lst L) (.int U) = some d) (hd2 : d = .non ∨ ∃ i, d = .int i) (hW : 0 ≤ W ∧ W < 7)
    (p1 : M_L_pick [scr ns, .int (302 + 4 * K + U), .int 7] = .ok (.int W)) (p2 : M_L_pick [scr ns, .int (380 + 4 * K + U), .int 12] = .ok (.int Q)) (hm : small 4 = true) :
    B_L_heights_1 [.val (scr ns), .val (.int 300), x2, .own L, x4, .val (.int K), .val (.int U), y7] =
      .nx [.val (scr ns), .val (.int 300), x2, .own (if W = 5 then L.set u .non else if W = 6 then L.set u (.int Q) else if 1 < W then upH L u U d else L), x4, .val (.int K), .val (.int U), .val (.int W)] := by
  have hd' : atI L U = some d := hd
  clear hd
  have hw : W = 0 ∨ W = 1 ∨ W = 2 ∨ W = 3 ∨ W = 4 ∨ W = 5 ∨ W = 6 := by omega
  refine (seq_step (ε' := [.val (scr ns), .val (.int 300), x2, .own L, x4, .val (.int K), .val (.int U), .val (.int W)]) ?_).trans ?_
  · simp [hm, p1]
  rcases hd2 with rfl | ⟨i, rfl⟩
  · rcases hw with rfl | rfl | rfl | rfl | rfl | rfl | rfl <;> simp [hd', hs', hm, p2, PL.isNon, upH]
  · rcases hw with rfl | rfl | rfl | rfl | rfl | rfl | rfl <;> simp [hd', hs', hm, p2, PL.isNon, upH]
theorem h_step (ns : List Int) (k u v : Nat) (hu : u < v) (x : Hs1) (hx : HsV x v) (x2 x4 y7 : Sl) : ∃ x' z7, HsV x' v ∧
    B_L_heights_1 [.val (scr ns), .val (.int 300), x2, .own (x.map encOI), x4, .val (.int k), .val (.int u), y7] = .nx [.val (scr ns), .val (.int 300), x2, .own (x'.map encOI), x4, .val (.int k), .val (.int u), z7] := by
  obtain ⟨w, hw, ew⟩ := pick_n ns (302 + 4 * k + u) (m := 7) (by decide)
  obtain ⟨q, hq, eq⟩ := pick_n ns (380 + 4 * k + u) (m := 12) (by decide)
  have p1 := e_L_pick' ns (k := 302 + 4 * (k : Int) + u) (302 + 4 * k + u) (by omega) 7 (by decide)
  have p2 := e_L_pick' ns (k := 380 + 4 * (k : Int) + u) (380 + 4 * k + u) (by omega) 12 (by decide)
  rw [show pickI ns (302 + 4 * k + u) 7 = w from ew] at p1
  rw [show pickI ns (380 + 4 * k + u) 12 = q from eq] at p2
  have hxu : u < x.length := by rw [hx.1]; exact hu
  have hd : oIx (.lst (x.map encOI)) (.int (u : Int)) = some (encOI x[u]) := by
    rw [oIx_lst, atI_n, List.getElem?_map, List.getElem?_eq_getElem hxu]
    rfl
  have hs' : ∀ f : Nat → Fl, subF (.int (u : Int)) (x.map encOI).length f = f u := fun f => subF_int _ _ _ _ (by
    unfold ixN
    rw [List.length_map, if_pos (by omega), if_pos (by omega)]
    rfl)
  have hd2 : encOI x[u] = .non ∨ ∃ i, encOI x[u] = .int i := by
    cases x[u] with
    | none => exact .inl rfl
    | some i => exact .inr ⟨i, rfl⟩
  have e := h_gen ns k u w q (x.map encOI) u (encOI x[u]) x2 x4 y7 hs' hd hd2 (by omega) p1 p2 (by decide)
  have st : ∀ z : Option Int, (x.map encOI).set u (encOI z) = (x.set u z).map encOI := fun z => by rw [List.map_set]
  have key : ∃ x', HsV x' v ∧ (if (w : Int) = 5 then (x.map encOI).set u .non else if (w : Int) = 6 then (x.map encOI).set u (.int q) else if 1 < (w : Int) then upH (x.map encOI) u u (encOI x[u]) else x.map encOI) = x'.map encOI := by
    by_cases h5 : (w : Int) = 5
    · rw [if_pos h5]
      exact ⟨x.set u none, hx.set (fun i z => by cases z), st none⟩
    · rw [if_neg h5]
      by_cases h6 : (w : Int) = 6
      · rw [if_pos h6]
        exact ⟨x.set u (some (q : Int)), hx.set (fun i z => by cases z; omega), st (some (q : Int))⟩
      · rw [if_neg h6]
        by_cases h1 : 1 < (w : Int)
        · rw [if_pos h1]
          cases hxx : x[u] with
          | none => exact ⟨x, hx, rfl⟩
          | some i => exact ⟨x.set u (some ((i + u + 2) % 12)), hx.set (fun j z => by cases z; omega), st (some ((i + u + 2) % 12))⟩
        · rw [if_neg h1]
          exact ⟨x, hx, rfl⟩
  obtain ⟨x', h1, h2⟩ := key
  rw [h2] at e
  exact ⟨x', _, h1, e⟩
theorem e_L_heights (ns : List Int) : ∃ (hs : List Hs1) (v : Nat), HsG hs v ∧ hs.length ≤ 16 ∧ M_L_heights [scr ns, .int 300] = .ok (encHs1 hs) := by
  obtain ⟨v0, hv0, ev0⟩ := pick_n ns 300 (m := 3) (by decide)
  obtain ⟨m0, hm0, em0⟩ := pick_n ns 301 (m := 16) (by decide)
  have p0 := e_L_pick ns 300 3 (by decide)
  have p1 := e_L_pick ns 301 16 (by decide)
  rw [show pickI ns 300 3 = v0 from ev0] at p0
  rw [show pickI ns 301 16 = m0 from em0] at p1
  obtain ⟨v, hv⟩ : ∃ v, v = v0 + 1 := ⟨_, rfl⟩
  obtain ⟨m, hm⟩ : ∃ m, m = m0 + 1 := ⟨_, rfl⟩
  have e0 : (1 : Int) + v0 = v := by omega
  have e1 : (1 : Int) + m0 = m := by omega
  have vb : -1000000 ≤ (v : Int) ∧ (v : Int) ≤ 1000000 := by omega
  have mb : -1000000 ≤ (m : Int) ∧ (m : Int) ≤ 1000000 := by omega
  obtain ⟨ε1, f1, x, hs, y5, y6, y7, hx, hl, hg, e⟩ := forL_inv (ft := tgN 5) (body := B_L_heights_2)
    (fun i ε => ∃ (x : Hs1) (hs : List Hs1) (y5 y6 y7 : Sl), HsV x v ∧ hs.length = i ∧ (∀ z ∈ hs, HsV z v) ∧ ε = [.val (scr ns), .val (.int 300), .val (.int v), .own (x.map encOI), .own (hs.map encHs), y5, y6, y7]) (rng 0 m) 0
    [.val (scr ns), .val (.int 300), .val (.int v), .own ((List.replicate v none).map encOI), .own [], .un, .un, .un] ⟨List.replicate v none, [], .un, .un, .un, ⟨by simp, fun h hh i z => (by rw [(List.mem_replicate.mp hh).2] at z; cases z)⟩, rfl, fun z hz => (by cases hz), rfl⟩ (by
      rintro i d ε hd ⟨x, hs, y5, y6, y7, hx, hl, hg, rfl⟩
      rw [Nat.zero_add] at hl ⊢
      obtain ⟨hi, rfl⟩ := rng_get hd
      rw [Int.zero_add]
      obtain ⟨ε2, f2, x', z6, z7, hx', e2⟩ := forL_inv (ft := tgN 6) (body := B_L_heights_1)
        (fun _ ε => ∃ (x : Hs1) (y6 y7 : Sl), HsV x v ∧ ε = [.val (scr ns), .val (.int 300), .val (.int v), .own (x.map encOI), .own (hs.map encHs), .val (.int i), y6, y7]) (rng 0 v) 0
        [.val (scr ns), .val (.int 300), .val (.int v), .own (x.map encOI), .own (hs.map encHs), .val (.int i), y6, y7] ⟨x, y6, y7, hx, rfl⟩ (by
          rintro u d ε hd ⟨x, y6, y7, hx, rfl⟩
          obtain ⟨hu, rfl⟩ := rng_get hd
          rw [Int.zero_add]
          obtain ⟨x', z7, h1, h2⟩ := h_step ns i u v hu x hx (.val (.int v)) (.own (hs.map encHs)) y7
          exact ⟨_, _, rfl, h2, x', _, z7, h1, rfl⟩)
      subst e2
      have ll : hs.length < LIM := by show _ < 100000; omega
      refine ⟨[.val (scr ns), .val (.int 300), .val (.int v), .own (x.map encOI), .own (hs.map encHs), .val (.int i), y6, y7], [.val (scr ns), .val (.int 300), .val (.int v), .own (x'.map encOI), .own ((hs ++ [x']).map encHs), .val (.int i), z6, z7], rfl, ?_, x', hs ++ [x'], .val (.int i), z6, z7, hx', by rw [List.length_append, hl]; rfl, ?_, rfl⟩
      · refine (seq_step (ε' := [.val (scr ns), .val (.int 300), .val (.int v), .own (x'.map encOI), .own (hs.map encHs), .val (.int i), z6, z7]) ?_).trans ?_
        · have r1 : (iR1 (dVar 2)) [.val (scr ns), .val (.int 300), .val (.int v), .own (x.map encOI), .own (hs.map encHs), .val (.int i), y6, y7] = .ok (rng 0 v) := by simp [vb]
          rw [sFor, r1, bindS_ok]
          exact f2
        · have et : D.tup (x'.map encOI) = encHs x' := rfl
          simp [ll, et]
      · intro z hz
        rcases List.mem_append.mp hz with q | q
        · exact hg z q
        · rw [List.mem_singleton.mp q]; exact hx')
  rw [rng_len, Nat.zero_add] at hl
  subst e
  refine ⟨hs, v, ⟨by omega, by omega, fun z hz => (hg z hz).1, fun z hz => (hg z hz).2⟩, by omega, ?_⟩
  have mu : oMulL (.lst [.non]) (.int (v : Int)) = some ((List.replicate v none).map encOI) := by
    have : v = 1 ∨ v = 2 ∨ v = 3 := by omega
    rcases this with rfl | rfl | rfl <;> rfl
  simp at p0 p1
  have start : ∀ {r : Out D} {f : DS}, runF (f [.val (scr ns), .val (.int 300), .un, .un, .un, .un, .un, .un]) = r → runD 8 f [scr ns, .int 300] = r := fun h => h
  unfold M_L_heights B_L_heights
  refine start (run_step (ε' := [.val (scr ns), .val (.int 300), .val (.int v), .un, .un, .un, .un, .un]) (by simp [p0, e0]) ?_)
  refine run_step (ε' := [.val (scr ns), .val (.int 300), .val (.int v), .own ((List.replicate v none).map encOI), .un, .un, .un, .un]) (by
    generalize (List.replicate v none).map encOI = r0 at *
    simp [-oMulL_lst, mu]) ?_
  refine run_step (ε' := [.val (scr ns), .val (.int 300), .val (.int v), .own ((List.replicate v none).map encOI), .own [], .un, .un, .un]) (by simp) ?_
  refine run_step (ε' := [.val (scr ns), .val (.int 300), .val (.int v), .own (x.map encOI), .own (hs.map encHs), y5, y6, y7]) ?_ rfl
  generalize (List.replicate v none).map encOI = r0 at *
  have r1 : (iR1 (d2 oAdd (dC (.int 1)) (dCall M_L_pick (dArgs [(dVar 0), (d2 oAdd (dVar 1) (dC (.int 1))), (dC (.int 16))])))) [.val (scr ns), .val (.int 300), .val (.int v), .own r0, .own [], .un, .un, .un] = .ok (rng 0 m) := by
    simp [p1, e1, mb]
  rw [sFor, r1, bindS_ok]
  exact f1
theorem enumD_len : ∀ (ds : List D) (k : Nat), (enumD k ds).length = ds.length
  | [], _ => rfl
  | d :: ds, k => congrArg (· + 1) (enumD_len ds (k + 1))
theorem comp_en {ft : DG} {elt : DE} {ε : Ev} : ∀ (sts : List Int) (k : Nat), (∀ (j : Nat) (one : Int), ∃ i : Int, (0 ≤ i ∧ i < 12) ∧ ∃ ε1, ft (.tup [.int (j : Nat), .int one]) ε = some ε1 ∧ elt ε1 = .ok (.int i)) →
    ∃ x : Hs1, x.length = sts.length ∧ (∀ h ∈ x, ∀ i, h = some i → 0 ≤ i ∧ i < 12) ∧ compL ft dYes elt ε (enumD k (sts.map D.int)) = .ok (x.map encOI)
  | [], _, _ => ⟨[], rfl, fun _ h => (List.not_mem_nil h).elim, rfl⟩
  | s :: sts, k, h => by
    obtain ⟨i, hi, ε1, h1, h2⟩ := h k s
    obtain ⟨x, hl, hQ, hc⟩ := comp_en sts (k + 1) h
    refine ⟨some i :: x, by simp [hl], fun z hz => ?_, ?_⟩
    · rcases List.mem_cons.mp hz with rfl | hz
      · intro j e; cases e; exact hi
      · exact hQ z hz
    · rw [List.map_cons]
      show compL ft dYes elt ε (.tup [.int (k : Nat), .int s] :: enumD (k + 1) (sts.map D.int)) = _
      unfold compL
      rw [h1]
      simp only [dYes, h2, hc, bind_ok]
      rfl
theorem el2 (M : Int) (hM : small M = true) (x0 x1 x2 x3 x7 x8 x9 x10 x11 x12 : Sl) (j one : Int) : E_law_2 [x0, x1, x2, x3, .val (.int j), .val (.int M), .val (.int one), x7, x8, x9, x10, x11, x12] = .ok (.int ((one + (j + 2) * M) % 12)) := by
  have : oMul (.int (j + 2)) (.int M) = some (.int ((j + 2) * M)) := by rw [oMul_int, if_pos (by rw [hM, Bool.or_true])]
  simp [-oMul_int, this]
theorem way2 (ns : List Int) (x1 x2 : Sl) : ∃ (hs : List Hs1) (v : Nat) (y3 y4 y5 y6 : Sl), HsG hs v ∧ hs.length ≤ 16 ∧
    (sSeq (sSet 3 (dLst (lComp [4] (iR1 (d2 oAdd (dC (.int 1)) (dCall M_L_pick (dArgs [(dVar 0), (dC (.int 297)), (dC (.int 3))])))) (tgN 4) dYes E_law_1)))
    (sSeq (sOwn 1 (lLst []))
    (sFor (iR1 (d2 oAdd (dC (.int 2)) (dCall M_L_pick (dArgs [(dVar 0), (dC (.int 296)), (dC (.int 7))])))) (tgN 5)
    B_law_1))) [.val (scr ns), x1, x2, .un, .un, .un, .un, .un, .un, .un, .un, .un, .un] = .nx [.val (scr ns), .own (hs.map encHs), x2, y3, y4, y5, y6, .un, .un, .un, .un, .un, .un] := by
  obtain ⟨v0, hv0, ev0⟩ := pick_n ns 297 (m := 3) (by decide)
  obtain ⟨m0, hm0, em0⟩ := pick_n ns 296 (m := 7) (by decide)
  have p0 := e_L_pick ns 297 3 (by decide)
  have p1 := e_L_pick ns 296 7 (by decide)
  rw [show pickI ns 297 3 = v0 from ev0] at p0
  rw [show pickI ns 296 7 = m0 from em0] at p1
  obtain ⟨v, hv⟩ : ∃ v, v = v0 + 1 := ⟨_, rfl⟩
  obtain ⟨m, hm⟩ : ∃ m, m = m0 + 2 := ⟨_, rfl⟩
  have e0 : (1 : Int) + v0 = v := by omega
  have e1 : (2 : Int) + m0 = m := by omega
  have vb : -1000000 ≤ (v : Int) ∧ (v : Int) ≤ 1000000 := by omega
  have mb : -1000000 ≤ (m : Int) ∧ (m : Int) ≤ 1000000 := by omega
  obtain ⟨sts, sl, _, sc⟩ := comp_rng (β := Int) (g := D.int) (Q := fun _ => True) (ft := tgN 4) (elt := E_law_1) (ε := [.val (scr ns), x1, x2, .un, .un, .un, .un, .un, .un, .un, .un, .un, .un]) v (fun i hi => by
    have p2 := e_L_pick' ns (k := 290 + (i : Int)) (290 + i) (by omega) 12 (by decide)
    exact ⟨pickI ns (290 + i) 12, trivial, _, rfl, by simp [p2]⟩)
  simp at p0 p1
  obtain ⟨S, hS⟩ : ∃ S, S = sts.map D.int := ⟨_, rfl⟩
  obtain ⟨ε1, f1, hs, y5, hl, hg, e⟩ := forL_inv (ft := tgN 5) (body := B_law_1)
    (fun i ε => ∃ (hs : List Hs1) (y5 : Sl), hs.length = i ∧ (∀ z ∈ hs, HsV z v) ∧ ε = [.val (scr ns), .own (hs.map encHs), x2, .val (.lst S), .un, y5, .un, .un, .un, .un, .un, .un, .un]) (rng 0 m) 0
    [.val (scr ns), .own [], x2, .val (.lst S), .un, .un, .un, .un, .un, .un, .un, .un, .un] ⟨[], .un, rfl, fun z hz => (by cases hz), rfl⟩ (by
      rintro i d ε hd ⟨hs, y5, hl, hg, rfl⟩
      rw [Nat.zero_add] at hl ⊢
      obtain ⟨hi, rfl⟩ := rng_get hd
      rw [Int.zero_add]
      have sm : small (i : Int) = true := by
        unfold small
        rw [decide_eq_true (by omega), decide_eq_true (by omega)]
        rfl
      obtain ⟨x, xl, xo, xc⟩ := comp_en (ft := tgT [(tgN 4), (tgN 6)]) (elt := E_law_2) (ε := [.val (scr ns), .own (hs.map encHs), x2, .val (.lst S), .un, .val (.int i), .un, .un, .un, .un, .un, .un, .un]) sts 0 (fun j one => ⟨_, ⟨by omega, by omega⟩, _, rfl, el2 (i : Int) sm _ _ _ _ _ _ _ _ _ _ j one⟩)
      have ll : hs.length < LIM := by show _ < 100000; omega
      refine ⟨[.val (scr ns), .own (hs.map encHs), x2, .val (.lst S), .un, .val (.int i), .un, .un, .un, .un, .un, .un, .un], [.val (scr ns), .own ((hs ++ [x]).map encHs), x2, .val (.lst S), .un, .val (.int i), .un, .un, .un, .un, .un, .un, .un], rfl, ?_, hs ++ [x], .val (.int i), by rw [List.length_append, hl]; rfl, ?_, rfl⟩
      · have et : D.tup (x.map encOI) = encHs x := rfl
        rw [← hS] at xc
        have eL : (enumD 0 S).length ≤ LIM := by rw [enumD_len, hS, List.length_map, sl]; show _ ≤ 100000; omega
        simp [xc, ll, et, eL]
      · intro z hz
        rcases List.mem_append.mp hz with q | q
        · exact hg z q
        · rw [List.mem_singleton.mp q]; exact ⟨by rw [xl, sl], xo⟩)
  rw [rng_len, Nat.zero_add] at hl
  subst e
  refine ⟨hs, v, .val (.lst S), .un, y5, .un, ⟨by omega, by omega, fun z hz => (hg z hz).1, fun z hz => (hg z hz).2⟩, by omega, ?_⟩
  rw [← hS] at sc
  refine (seq_step (ε' := [.val (scr ns), x1, x2, .val (.lst S), .un, .un, .un, .un, .un, .un, .un, .un, .un]) ?_).trans ?_
  · have vL : v ≤ LIM := by show _ ≤ 100000; omega
    simp [-tgN, p0, e0, vb, sc, vL]
  refine (seq_step (ε' := [.val (scr ns), .own [], x2, .val (.lst S), .un, .un, .un, .un, .un, .un, .un, .un, .un]) (by simp)).trans ?_
  have r1 : (iR1 (d2 oAdd (dC (.int 2)) (dCall M_L_pick (dArgs [(dVar 0), (dC (.int 296)), (dC (.int 7))])))) [.val (scr ns), .own [], x2, .val (.lst S), .un, .un, .un, .un, .un, .un, .un, .un, .un] = .ok (rng 0 m) := by
    simp [p1, e1, mb]
  rw [sFor, r1, bindS_ok]
  exact f1
theorem law_true (ns : List Int) (_ : ns.length ≤ 63) : M_law [.lst (ns.map .int)] = .ok (.bl true) := by
  obtain ⟨hs, v, g, hn, eh⟩ := e_L_heights ns
  obtain ⟨w, hw, ew⟩ := pick_n ns 299 (m := 5) (by decide)
  have pw := e_L_pick ns 299 5 (by decide)
  rw [show pickI ns 299 5 = w from ew] at pw
  simp at pw
  show runD 13 B_law [scr ns] = _
  have start : ∀ {r : Out D} {f : DS}, runF (f [.val (scr ns), .un, .un, .un, .un, .un, .un, .un, .un, .un, .un, .un, .un]) = r → runD 13 f [scr ns] = r := fun h => h
  unfold B_law
  refine start (run_step (ε' := [.val (scr ns), .val (encHs1 hs), .un, .un, .un, .un, .un, .un, .un, .un, .un, .un, .un]) (by simp [eh]) ?_)
  refine run_step (ε' := [.val (scr ns), .val (encHs1 hs), .val (.int w), .un, .un, .un, .un, .un, .un, .un, .un, .un, .un]) (by simp [pw]) ?_
  by_cases h2 : w < 2
  · obtain ⟨s, wf, _, _, _, es⟩ := L_song_ok ns 0 4 (by decide)
    obtain ⟨n0, hn0, en0⟩ := pick_n ns 298 (m := 16) (by decide)
    have pn := e_L_pick ns 298 16 (by decide)
    rw [show pickI ns 298 16 = n0 from en0] at pn
    obtain ⟨n, hn⟩ : ∃ n, n = n0 + 1 := ⟨_, rfl⟩
    have e1 : (1 : Int) + n0 = n := by omega
    have hd := e_heard wf n (by omega)
    have gg := hear_good wf (n := n) (by omega)
    have hl : (hear s n (firstS s)).length = n := hear_len s n _
    obtain ⟨H, hH⟩ : ∃ H, H = hear s n (firstS s) := ⟨_, rfl⟩
    rw [← hH] at hd gg hl
    have ee : encHss H = encHs1 H := rfl
    rw [ee] at hd
    have c2 : (w : Int) < 2 := by omega
    simp at pn es
    refine run_step (ε' := [.val (scr ns), .val (encHs1 H), .val (.int w), .un, .un, .un, .un, .un, .un, .un, .un, .un, .un]) (by
      simp [c2, es, pn, e1, hd]) ?_
    exact law_rest gg (by omega) ns _ _ _ _ _ _ (.inl rfl)
  · by_cases h3 : w = 2
    · subst h3
      obtain ⟨hs2, v2, y3, y4, y5, y6, g2, hn2, f2⟩ := way2 ns (.val (encHs1 hs)) (.val (.int (2 : Nat)))
      refine run_step (ε' := [.val (scr ns), .own (hs2.map encHs), .val (.int (2 : Nat)), y3, y4, y5, y6, .un, .un, .un, .un, .un, .un]) ?_ ?_
      · rw [← f2]
        rfl
      · exact law_rest g2 (by omega) ns _ _ _ _ _ _ (.inr rfl)
    · have c2 : ¬ (w : Int) < 2 := by omega
      have c3 : ¬ (w : Int) = 2 := by omega
      refine run_step (ε' := [.val (scr ns), .val (encHs1 hs), .val (.int w), .un, .un, .un, .un, .un, .un, .un, .un, .un, .un]) (by
        simp [c2, c3]) ?_
      exact law_rest g (by omega) ns _ _ _ _ _ _ (.inl rfl)
end W

open PySem PySem.W PyProof.Rows
set_option maxHeartbeats 0 in
theorem PySem.Challenge.cw_rowsong_k80_whole_made_holds : PySem.Challenge.rw_rowsong_k80_whole_made.Holds := by
  w_on; o_law; k_head; (case hw => w_witness2)
  k_fill
  refine L2.walk_of (l := PySem.Challenge.rw_rowsong_k80_whole_made) (n := 63) (k := 8) (x := "script") (CX := fun _ => L2.CX0) (sp := fun w => PL.spLaw _) rfl (by decide) rfl ⟨rfl, by decide, by decide⟩ (fun w h Y => PySem.W.kIn_of Y) ?F (fun _ _ a ns hl _ hS => ⟨a, ns, rfl, hS, hl, fun _ => rfl⟩) (fun _ _ _ _ _ h => h)
  case F =>
    intro w mg fa h KX G hmg
    refine' W.all_mk W.law_true KX G hmg ?a_is_whole ?l_is_whole ?k_is_whole ?j_is_whole ?a_is_between ?l_is_between ?k_is_between ?j_is_between ?a_is_sound ?l_is_sound ?k_is_sound ?j_is_sound ?a_is_deed ?l_is_deed ?k_is_deed ?j_is_deed ?a_is_box ?l_is_box ?k_is_box ?j_is_box ?a_is_row ?l_is_row ?k_is_row ?j_is_row ?a_is_pattern ?l_is_pattern ?k_is_pattern ?j_is_pattern ?a_is_song ?l_is_song ?k_is_song ?j_is_song ?a_voices_of ?l_voices_of ?k_voices_of ?j_voices_of ?a_pattern_at ?l_pattern_at ?k_pattern_at ?j_pattern_at ?a_number_by ?l_number_by ?k_number_by ?j_number_by ?a_slide_for ?l_slide_for ?k_slide_for ?j_slide_for ?a_boxes_for ?l_boxes_for ?k_boxes_for ?j_boxes_for ?a_fewest_rows ?l_fewest_rows ?k_fewest_rows ?j_fewest_rows ?a_song_of ?l_song_of ?k_song_of ?j_song_of ?a_first_state ?l_first_state ?k_first_state ?j_first_state ?a_struck ?l_struck ?k_struck ?j_struck ?a_slid ?l_slid ?k_slid ?j_slid ?a_place_behind ?l_place_behind ?k_place_behind ?j_place_behind ?a_state_on ?l_state_on ?k_state_on ?j_state_on ?a_next_state ?l_next_state ?k_next_state ?j_next_state ?a_heard_from ?l_heard_from ?k_heard_from ?j_heard_from ?a_heard ?l_heard ?k_heard ?j_heard ?a_rows_played ?l_rows_played ?k_rows_played ?j_rows_played ?a_row_starts ?l_row_starts ?k_row_starts ?j_row_starts ?a_L_cell ?l_L_cell ?k_L_cell ?j_L_cell ?a_L_pick ?l_L_pick ?k_L_pick ?j_L_pick ?a_L_box ?l_L_box ?k_L_box ?j_L_box ?a_L_song ?l_L_song ?k_L_song ?j_L_song ?a_L_slides ?l_L_slides ?k_L_slides ?j_L_slides ?a_L_fewest ?l_L_fewest ?k_L_fewest ?j_L_fewest ?a_L_heights ?l_L_heights ?k_L_heights ?j_L_heights ?a_law ?l_law ?k_law ?j_law ?z_all ?z_bool ?z_dict ?z_enumerate ?z_int ?z_isinstance ?z_len ?z_list ?z_min ?z_range ?z_set ?z_str ?z_tuple ?z_zip ?y_FASTEST ?y_GREATEST ?yl_GREATEST ?yk_GREATEST ?yw_GREATEST ?yb_GREATEST ?y_HEIGHTS ?y_LEAST ?yl_LEAST ?yk_LEAST ?yw_LEAST ?yb_LEAST ?y_MOST_PATTERNS ?y_MOST_PLACES ?y_MOST_ROWS ?y_MOST_VOICES ?y_SLOWEST ?xa_TooLong ?xx_TooLong ?xk_TooLong ?xb_TooLong ?xt_TooLong
    (case a_is_whole => k_is); (case l_is_whole => k_is); (case k_is_whole => k_is); (case j_is_whole => k_is); (case a_is_between => k_is); (case l_is_between => k_is); (case k_is_between => k_is); (case j_is_between => k_is); (case a_is_sound => k_is); (case l_is_sound => k_is); (case k_is_sound => k_is); (case j_is_sound => k_is); (case a_is_deed => k_is); (case l_is_deed => k_is); (case k_is_deed => k_is); (case j_is_deed => k_is); (case a_is_box => k_is); (case l_is_box => k_is); (case k_is_box => k_is); (case j_is_box => k_is); (case a_is_row => k_is); (case l_is_row => k_is); (case k_is_row => k_is); (case j_is_row => k_is); (case a_is_pattern => k_is); (case l_is_pattern => k_is); (case k_is_pattern => k_is); (case j_is_pattern => k_is); (case a_is_song => k_is); (case l_is_song => k_is); (case k_is_song => k_is); (case j_is_song => k_is); (case a_voices_of => k_is); (case l_voices_of => k_is); (case k_voices_of => k_is); (case j_voices_of => k_is); (case a_pattern_at => k_is); (case l_pattern_at => k_is); (case k_pattern_at => k_is); (case j_pattern_at => k_is); (case a_number_by => k_is); (case l_number_by => k_is); (case k_number_by => k_is); (case j_number_by => k_is); (case a_slide_for => k_is); (case l_slide_for => k_is); (case k_slide_for => k_is); (case j_slide_for => k_is); (case a_boxes_for => k_is); (case l_boxes_for => k_is); (case k_boxes_for => k_is); (case j_boxes_for => k_is); (case a_fewest_rows => k_is); (case l_fewest_rows => k_is); (case k_fewest_rows => k_is); (case j_fewest_rows => k_is); (case a_song_of => k_is); (case l_song_of => k_is); (case k_song_of => k_is); (case j_song_of => k_is); (case a_first_state => k_is); (case l_first_state => k_is); (case k_first_state => k_is); (case j_first_state => k_is); (case a_struck => k_is); (case l_struck => k_is); (case k_struck => k_is); (case j_struck => k_is); (case a_slid => k_is); (case l_slid => k_is); (case k_slid => k_is); (case j_slid => k_is); (case a_place_behind => k_is); (case l_place_behind => k_is); (case k_place_behind => k_is); (case j_place_behind => k_is); (case a_state_on => k_is); (case l_state_on => k_is); (case k_state_on => k_is); (case j_state_on => k_is); (case a_next_state => k_is); (case l_next_state => k_is); (case k_next_state => k_is); (case j_next_state => k_is); (case a_heard_from => k_is); (case l_heard_from => k_is); (case k_heard_from => k_is); (case j_heard_from => k_is); (case a_heard => k_is); (case l_heard => k_is); (case k_heard => k_is); (case j_heard => k_is); (case a_rows_played => k_is); (case l_rows_played => k_is); (case k_rows_played => k_is); (case j_rows_played => k_is); (case a_row_starts => k_is); (case l_row_starts => k_is); (case k_row_starts => k_is); (case j_row_starts => k_is); (case a_L_cell => k_is); (case l_L_cell => k_is); (case k_L_cell => k_is); (case j_L_cell => k_is); (case a_L_pick => k_is); (case l_L_pick => k_is); (case k_L_pick => k_is); (case j_L_pick => k_is); (case a_L_box => k_is); (case l_L_box => k_is); (case k_L_box => k_is); (case j_L_box => k_is); (case a_L_song => k_is); (case l_L_song => k_is); (case k_L_song => k_is); (case j_L_song => k_is); (case a_L_slides => k_is); (case l_L_slides => k_is); (case k_L_slides => k_is); (case j_L_slides => k_is); (case a_L_fewest => k_is); (case l_L_fewest => k_is); (case k_L_fewest => k_is); (case j_L_fewest => k_is); (case a_L_heights => k_is); (case l_L_heights => k_is); (case k_L_heights => k_is); (case j_L_heights => k_is); (case a_law => k_is); (case l_law => k_is); (case k_law => k_is); (case j_law => k_is); (case z_all => k_is); (case z_bool => k_is); (case z_dict => k_is); (case z_enumerate => k_is); (case z_int => k_is); (case z_isinstance => k_is); (case z_len => k_is); (case z_list => k_is); (case z_min => k_is); (case z_range => k_is); (case z_set => k_is); (case z_str => k_is); (case z_tuple => k_is); (case z_zip => k_is); (case y_FASTEST => k_is); (case y_GREATEST => k_is); (case yl_GREATEST => k_is); (case yk_GREATEST => exact ⟨⟨_, _, rfl, rfl⟩, ⟨_, _, rfl, rfl⟩, ⟨_, _, rfl, rfl⟩, ⟨_, _, rfl, rfl⟩, ⟨_, _, rfl, rfl⟩, trivial⟩); (case yw_GREATEST => rfl); (case yb_GREATEST => exact .cons ⟨_, rfl⟩ ⟨_, rfl⟩ (.cons ⟨_, rfl⟩ ⟨_, rfl⟩ (.cons ⟨_, rfl⟩ ⟨_, rfl⟩ (.cons ⟨_, rfl⟩ ⟨_, rfl⟩ (.cons ⟨_, rfl⟩ ⟨_, rfl⟩ (.nil)))))); (case y_HEIGHTS => k_is); (case y_LEAST => k_is); (case yl_LEAST => k_is); (case yk_LEAST => exact ⟨⟨_, _, rfl, rfl⟩, ⟨_, _, rfl, rfl⟩, ⟨_, _, rfl, rfl⟩, ⟨_, _, rfl, rfl⟩, ⟨_, _, rfl, rfl⟩, trivial⟩); (case yw_LEAST => rfl); (case yb_LEAST => exact .cons ⟨_, rfl⟩ ⟨_, rfl⟩ (.cons ⟨_, rfl⟩ ⟨_, rfl⟩ (.cons ⟨_, rfl⟩ ⟨_, rfl⟩ (.cons ⟨_, rfl⟩ ⟨_, rfl⟩ (.cons ⟨_, rfl⟩ ⟨_, rfl⟩ (.nil)))))); (case y_MOST_PATTERNS => k_is); (case y_MOST_PLACES => k_is); (case y_MOST_ROWS => k_is); (case y_MOST_VOICES => k_is); (case y_SLOWEST => k_is); (case xa_TooLong => k_is); (case xx_TooLong => k_exc); (case xk_TooLong => k_is); (case xb_TooLong => k_is); (case xt_TooLong => k_is)
