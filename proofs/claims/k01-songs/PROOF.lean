import PyProof.Rows.All
import Wide.All
import OpenK.AllK
import Wide.FinOn
import HandS.ForMost
import HandS.ForExc
import HandS.TupMul
import HandS.TupAny
import HandS.Zip
import HandS.Conv
import HandS.Flow
import HandS.Deep
import HandS.IsInst
import HandS.Style
import KE.GoesMore
import HandS.Walk
import HandS.More
import PySem.Challenge.RW_rowsong_k01_songs
set_option Elab.async false
set_option linter.all false
set_option maxRecDepth 100000
/-! PL0: plain data, the two-layer heap, what a slot holds, what an expression and a statement denote. -/
namespace PL
open PySem PySem.Spec PyProof.Rows L2

inductive D where
  | non | bl (b : Bool) | int (i : Int) | str (x : Str) | tup (ds : List D) | lst (ds : List D)

inductive Out (α : Type) where
  | ok (a : α) | rs (c : Str) | no

def Out.bind {α β : Type} : Out α → (α → Out β) → Out β
  | .ok a, k => k a
  | .rs c, _ => .rs c
  | .no, _ => .no
@[simp] theorem bind_ok {α β : Type} (a : α) (k : α → Out β) : (Out.ok a).bind k = k a := rfl
@[simp] theorem bind_rs {α β : Type} (c : Str) (k : α → Out β) : (Out.rs c).bind k = .rs c := rfl
@[simp] theorem bind_no {α β : Type} (k : α → Out β) : (Out.no : Out α).bind k = .no := rfl

/-! ### heaps -/
def Ex (H H' : Hp) : Prop := ∀ a o, H a = some o → H' a = some o
theorem Ex.refl (H : Hp) : Ex H H := fun _ _ h => h
theorem Ex.trans {H H1 H2 : Hp} (a : Ex H H1) (b : Ex H1 H2) : Ex H H2 := fun x o h => b x o (a x o h)
theorem Ex.new {H : Hp} {p : Addr} {o : HO} (h : H p = none) : Ex H (upd H p o) := fun a u e => by
  rw [upd_ne (ne_of_none e h)]; exact e
theorem Ex.back {H H' : Hp} (e : Ex H H') {p : Addr} (h : H' p = none) : H p = none := by
  cases h1 : H p with
  | none => rfl
  | some o => rw [e p o h1] at h; cases h
theorem Ex.mut {H H' : Hp} {p : Addr} {o : HO} (e : Ex H H') (h : H p = none) : Ex H (upd H' p o) := fun a u ha => by
  rw [upd_ne (ne_of_none ha h)]; exact e a u ha
theorem Ex.both {G H : Hp} {p : Addr} {o : HO} (e : Ex G H) : Ex (upd G p o) (upd H p o) := fun a u ha => by
  by_cases h : a = p
  · subst h; rw [upd_same] at ha ⊢; exact ha
  · rw [upd_ne h] at ha ⊢; exact e a u ha
theorem ex_rd {H H' : Hp} {a : Addr} {u : HO} (e : Ex H H') (h : Rd H a u) : Rd H' a u := by
  rcases h with h | ⟨o, h⟩
  · exact .inl (e a _ h)
  · exact .inr ⟨o, e a _ h⟩
theorem ex_l {K : PySem.W.Frag} {H H' : Hp} {a : Addr} {xs : List V} (e : Ex H H') (h : SqL K H a xs) : SqL K H' a xs := by
  rcases h with h | h
  · exact .inl (ex_rd e h)
  · exact .inr h
theorem ex_t {K : PySem.W.Frag} {H H' : Hp} {a : Addr} {xs : List V} (e : Ex H H') (h : SqT K H a xs) : SqT K H' a xs := by
  rcases h with h | h
  · exact .inl (ex_rd e h)
  · exact .inr h

/-! ### a value stands for data in G -/
mutual
inductive Rp (K : PySem.W.Frag) (G : Hp) : V → D → Prop
  | non : Rp K G .non .non
  | bl (b : Bool) : Rp K G (.bl b) (.bl b)
  | int (i : Int) : Rp K G (.int i) (.int i)
  | str (x : Str) : Rp K G (.str x) (.str x)
  | lst {a : Addr} {xs : List V} {ds : List D} : SqL K G a xs → RpAll K G xs ds → Rp K G (.ref a) (.lst ds)
  | tup {a : Addr} {xs : List V} {ds : List D} : SqT K G a xs → RpAll K G xs ds → Rp K G (.ref a) (.tup ds)
inductive RpAll (K : PySem.W.Frag) (G : Hp) : List V → List D → Prop
  | nil : RpAll K G [] []
  | cons {v : V} {vs : List V} {d : D} {ds : List D} : Rp K G v d → RpAll K G vs ds → RpAll K G (v :: vs) (d :: ds)
end
section
variable {K : PySem.W.Frag} {G G' H : Hp}
mutual
theorem Rp.ex (e : Ex G G') : ∀ (d : D) (v : V), Rp K G v d → Rp K G' v d
  | .non, _, h => by cases h; exact .non
  | .bl b, _, h => by cases h; exact .bl b
  | .int i, _, h => by cases h; exact .int i
  | .str x, _, h => by cases h; exact .str x
  | .lst ds, _, h => by
    cases h with
    | lst hs ha => exact .lst (ex_l e hs) (RpAll.ex e ds _ ha)
  | .tup ds, _, h => by
    cases h with
    | tup hs ha => exact .tup (ex_t e hs) (RpAll.ex e ds _ ha)
theorem RpAll.ex (e : Ex G G') : ∀ (ds : List D) (vs : List V), RpAll K G vs ds → RpAll K G' vs ds
  | [], _, h => by cases h; exact .nil
  | d :: ds, _, h => by
    cases h with
    | cons h1 h2 => exact .cons (Rp.ex e d _ h1) (RpAll.ex e ds _ h2)
end
theorem Rp.up {d : D} {v : V} (h : Rp K G v d) (e : Ex G G') : Rp K G' v d := Rp.ex e d v h
theorem RpAll.up {ds : List D} {vs : List V} (h : RpAll K G vs ds) (e : Ex G G') : RpAll K G' vs ds := RpAll.ex e ds vs h
theorem RpAll.length : ∀ {vs : List V} {ds : List D}, RpAll K G vs ds → vs.length = ds.length
  | _, [], h => by cases h; rfl
  | _, _ :: ds, h => by
    cases h with
    | cons _ h2 => rw [List.length_cons, List.length_cons, RpAll.length h2]
theorem RpAll.get : ∀ {vs : List V} {ds : List D} {i : Nat} {v : V}, RpAll K G vs ds → vs[i]? = some v → ∃ d, ds[i]? = some d ∧ Rp K G v d
  | _, [], i, v, h, e => by cases h; simp at e
  | _, d :: ds, 0, v, h, e => by
    cases h with
    | cons h1 h2 => simp at e; subst e; exact ⟨d, rfl, h1⟩
  | _, d :: ds, i + 1, v, h, e => by
    cases h with
    | cons h1 h2 => exact RpAll.get (i := i) h2 (by simpa using e)
theorem RpAll.getD : ∀ {vs : List V} {ds : List D} {i : Nat} {d : D}, RpAll K G vs ds → ds[i]? = some d → ∃ v, vs[i]? = some v ∧ Rp K G v d
  | _, [], i, v, h, e => by cases h; simp at e
  | _, d :: ds, 0, v, h, e => by
    cases h with
    | cons h1 h2 => simp at e; subst e; exact ⟨_, rfl, h1⟩
  | _, d :: ds, i + 1, v, h, e => by
    cases h with
    | cons h1 h2 => exact RpAll.getD (i := i) h2 (by simpa using e)
theorem RpAll.append : ∀ {vs ws : List V} {ds es : List D}, RpAll K G vs ds → RpAll K G ws es → RpAll K G (vs ++ ws) (ds ++ es)
  | _, _, [], _, h, h' => by cases h; exact h'
  | _, _, _ :: _, _, h, h' => by
    cases h with
    | cons h1 h2 => exact .cons h1 (RpAll.append h2 h')
theorem RpAll.drop : ∀ (n : Nat) {vs : List V} {ds : List D}, RpAll K G vs ds → RpAll K G (vs.drop n) (ds.drop n)
  | 0, _, _, h => h
  | n + 1, _, [], h => by cases h; exact .nil
  | n + 1, _, _ :: _, h => by
    cases h with
    | cons _ h2 => exact RpAll.drop n h2
theorem RpAll.take : ∀ (n : Nat) {vs : List V} {ds : List D}, RpAll K G vs ds → RpAll K G (vs.take n) (ds.take n)
  | 0, _, _, _ => .nil
  | n + 1, _, [], h => by cases h; exact .nil
  | n + 1, _, _ :: _, h => by
    cases h with
    | cons h1 h2 => exact .cons h1 (RpAll.take n h2)
theorem RpAll.set {v : V} {d : D} (r : Rp K G v d) : ∀ (i : Nat) {vs : List V} {ds : List D}, RpAll K G vs ds → RpAll K G (vs.set i v) (ds.set i d)
  | _, _, [], h => by cases h; exact .nil
  | 0, _, _ :: _, h => by
    cases h with
    | cons h1 h2 => exact .cons r h2
  | i + 1, _, _ :: _, h => by
    cases h with
    | cons h1 h2 => exact .cons h1 (RpAll.set r i h2)
theorem RpAll.rep {vs : List V} {ds : List D} (h : RpAll K G vs ds) : ∀ n : Nat, RpAll K G (List.replicate n vs).flatten (List.replicate n ds).flatten
  | 0 => .nil
  | n + 1 => by
    rw [List.replicate_succ, List.replicate_succ, List.flatten_cons, List.flatten_cons]
    exact h.append (RpAll.rep h n)
theorem RpAll.reverse : ∀ {vs : List V} {ds : List D}, RpAll K G vs ds → RpAll K G vs.reverse ds.reverse
  | _, [], h => by cases h; exact .nil
  | _, _ :: _, h => by
    cases h with
    | cons h1 h2 =>
      rw [List.reverse_cons, List.reverse_cons]
      exact (RpAll.reverse h2).append (.cons h1 .nil)
theorem RpAll.ints : ∀ ns : List Int, RpAll K G (ns.map V.int) (ns.map D.int)
  | [] => .nil
  | i :: ns => .cons (.int i) (RpAll.ints ns)
end

/-! ### going on: G is what is never changed again, H all that is tracked -/
structure Ext (G H G' H' : Hp) : Prop where
  gg : Ex G G'
  hh : Ex H H'
  gh : Ex G' H'
  fr : ∀ a o, H a = some o → G a = none → G' a = none
section
variable {G H G1 H1 G2 H2 : Hp}
theorem Ext.refl (e : Ex G H) : Ext G H G H := ⟨Ex.refl _, Ex.refl _, e, fun _ _ _ h => h⟩
theorem Ext.trans (a : Ext G H G1 H1) (b : Ext G1 H1 G2 H2) : Ext G H G2 H2 :=
  ⟨a.gg.trans b.gg, a.hh.trans b.hh, b.gh, fun c o h n => b.fr c o (a.hh c o h) (a.fr c o h n)⟩
/-- a new object that is never changed -/
theorem Ext.lay {p : Addr} {o : HO} (e : Ex G H) (h : H p = none) : Ext G H (upd G p o) (upd H p o) :=
  ⟨Ex.new (e.back h), Ex.new h, e.both, fun a u ha n => by rw [upd_ne (ne_of_none ha h)]; exact n⟩
/-- a new object that stays open to change -/
theorem Ext.open_ {p : Addr} {o : HO} (e : Ex G H) (h : H p = none) : Ext G H G (upd H p o) :=
  ⟨Ex.refl _, Ex.new h, fun a u ha => by rw [upd_ne (ne_of_none (e a u ha) h)]; exact e a u ha, fun _ _ _ n => n⟩
/-- .. closed -/
theorem Ext.close {p : Addr} {o : HO} (x : Ext G H G1 H1) (h : H p = none) (h1 : H1 p = some o) (g1 : G1 p = none) : Ext G H (upd G1 p o) H1 :=
  ⟨x.gg.trans (Ex.new g1), x.hh, fun a u ha => by
    by_cases e : a = p
    · subst e; rw [upd_same] at ha; rw [h1]; exact ha
    · rw [upd_ne e] at ha; exact x.gh a u ha, fun a u ha n => by rw [upd_ne (ne_of_none ha h)]; exact x.fr a u ha n⟩
end

/-! ### slots -/
inductive Sl where
  | un
  | val (d : D)
  | own (ds : List D)
abbrev Ev := List Sl

def SlOk (K : PySem.W.Frag) (H0 G H : Hp) (ov : Option (Option V)) : Option Sl → Prop
  | some (.val d) => ∃ v, ov = some (some v) ∧ Rp K G v d
  | some (.own ds) => ∃ a vs, ov = some (some (.ref a)) ∧ H a = some (.lst vs) ∧ G a = none ∧ H0 a = none ∧ RpAll K G vs ds
  | _ => True

structure EnvOk (K : PySem.W.Frag) (G0 H0 : Hp) (ε : Ev) (σ : L2.St) (G H : Hp) : Prop where
  ext : Ext G0 H0 G H
  len : ε.length = σ.length
  sl : ∀ i : Nat, SlOk K H0 G H σ[i]? ε[i]?
  ap : ∀ (i j : Nat) (a : Addr) (ds es : List D), i ≠ j → ε[i]? = some (.own ds) → ε[j]? = some (.own es) → σ[i]? = some (some (.ref a)) → σ[j]? = some (some (.ref a)) → False

section
variable {K : PySem.W.Frag} {G0 H0 G H G' H' : Hp} {ε : Ev} {σ : L2.St}
theorem EnvOk.gh (e : EnvOk K G0 H0 ε σ G H) : Ex G H := e.ext.gh
theorem SlOk.on {ov : Option (Option V)} {s : Option Sl} (x : Ext G H G' H') (h : SlOk K H0 G H ov s) : SlOk K H0 G' H' ov s := by
  cases s with
  | none => trivial
  | some s =>
    cases s with
    | un => trivial
    | val d => obtain ⟨v, e, r⟩ := h; exact ⟨v, e, r.up x.gg⟩
    | own ds => obtain ⟨a, vs, e, h1, h2, h3, r⟩ := h; exact ⟨a, vs, e, x.hh _ _ h1, x.fr _ _ h1 h2, h3, r.up x.gg⟩
theorem EnvOk.on (e : EnvOk K G0 H0 ε σ G H) (x : Ext G H G' H') : EnvOk K G0 H0 ε σ G' H' :=
  ⟨e.ext.trans x, e.len, fun i => (e.sl i).on x, e.ap⟩
theorem EnvOk.val {i : Nat} {d : D} (e : EnvOk K G0 H0 ε σ G H) (h : ε[i]? = some (.val d)) : ∃ v, σ[i]? = some (some v) ∧ Rp K G v d := by
  have := e.sl i; rw [h] at this; exact this
theorem EnvOk.own {i : Nat} {ds : List D} (e : EnvOk K G0 H0 ε σ G H) (h : ε[i]? = some (.own ds)) :
    ∃ a vs, σ[i]? = some (some (.ref a)) ∧ H a = some (.lst vs) ∧ G a = none ∧ H0 a = none ∧ RpAll K G vs ds := by
  have := e.sl i; rw [h] at this; exact this
theorem set_none {α : Type} {l : List α} {i : Nat} {x : α} (h : ¬ i < l.length) : (l.set i x)[i]? = none := List.getElem?_eq_none (by rw [List.length_set]; omega)
theorem lt_of_get {α : Type} {l : List α} {i : Nat} {x : α} (h : l[i]? = some x) : i < l.length := (List.getElem?_eq_some_iff.mp h).1
/-- a slot gets a value that is never changed -/
theorem EnvOk.setVal {i : Nat} {v : V} {d : D} (e : EnvOk K G0 H0 ε σ G H) (r : Rp K G v d) : EnvOk K G0 H0 (ε.set i (.val d)) (σ.set i (some v)) G H := by
  refine ⟨e.ext, by rw [List.length_set, List.length_set]; exact e.len, fun j => ?_, fun j k a ds es hjk h1 h2 h3 h4 => ?_⟩
  · by_cases hj : i = j
    · subst hj
      by_cases hi : i < ε.length
      · rw [List.getElem?_set_self hi, List.getElem?_set_self (by rw [← e.len]; exact hi)]
        exact ⟨v, rfl, r⟩
      · rw [set_none (l := ε) hi]; trivial
    · rw [List.getElem?_set_ne hj, List.getElem?_set_ne hj]; exact e.sl j
  · have n1 : i ≠ j := fun z => by
      subst z
      by_cases hi : i < ε.length
      · rw [List.getElem?_set_self hi] at h1; cases h1
      · rw [List.getElem?_eq_none (by rw [List.length_set]; omega)] at h1; cases h1
    have n2 : i ≠ k := fun z => by
      subst z
      by_cases hi : i < ε.length
      · rw [List.getElem?_set_self hi] at h2; cases h2
      · rw [List.getElem?_eq_none (by rw [List.length_set]; omega)] at h2; cases h2
    rw [List.getElem?_set_ne n1] at h1 h3
    rw [List.getElem?_set_ne n2] at h2 h4
    exact e.ap j k a ds es hjk h1 h2 h3 h4
/-- a slot is forgotten -/
theorem EnvOk.setUn {i : Nat} {o : Option V} (e : EnvOk K G0 H0 ε σ G H) : EnvOk K G0 H0 (ε.set i .un) (σ.set i o) G H := by
  refine ⟨e.ext, by rw [List.length_set, List.length_set]; exact e.len, fun j => ?_, fun j k a ds es hjk h1 h2 h3 h4 => ?_⟩
  · by_cases hj : i = j
    · subst hj
      by_cases hi : i < ε.length
      · rw [List.getElem?_set_self hi]; trivial
      · rw [set_none (l := ε) hi]; trivial
    · rw [List.getElem?_set_ne hj, List.getElem?_set_ne hj]; exact e.sl j
  · have n1 : i ≠ j := fun z => by
      subst z
      by_cases hi : i < ε.length
      · rw [List.getElem?_set_self hi] at h1; cases h1
      · rw [List.getElem?_eq_none (by rw [List.length_set]; omega)] at h1; cases h1
    have n2 : i ≠ k := fun z => by
      subst z
      by_cases hi : i < ε.length
      · rw [List.getElem?_set_self hi] at h2; cases h2
      · rw [List.getElem?_eq_none (by rw [List.length_set]; omega)] at h2; cases h2
    rw [List.getElem?_set_ne n1] at h1 h3
    rw [List.getElem?_set_ne n2] at h2 h4
    exact e.ap j k a ds es hjk h1 h2 h3 h4
/-- a slot gets a new list, open to change -/
theorem EnvOk.setOwn {i : Nat} {p : Addr} {vs : List V} {ds : List D} (e : EnvOk K G0 H0 ε σ G H) (hH : H p = some (.lst vs)) (hG : G p = none) (h0 : H0 p = none) (r : RpAll K G vs ds)
    (nw : ∀ (j : Nat) (es : List D), ε[j]? = some (.own es) → σ[j]? = some (some (.ref p)) → j = i) : EnvOk K G0 H0 (ε.set i (.own ds)) (σ.set i (some (.ref p))) G H := by
  refine ⟨e.ext, by rw [List.length_set, List.length_set]; exact e.len, fun j => ?_, fun j k a ds' es hjk h1 h2 h3 h4 => ?_⟩
  · by_cases hj : i = j
    · subst hj
      by_cases hi : i < ε.length
      · rw [List.getElem?_set_self hi, List.getElem?_set_self (by rw [← e.len]; exact hi)]
        exact ⟨p, vs, rfl, hH, hG, h0, r⟩
      · rw [set_none (l := ε) hi]; trivial
    · rw [List.getElem?_set_ne hj, List.getElem?_set_ne hj]; exact e.sl j
  · by_cases n1 : i = j
    · subst n1
      rw [List.getElem?_set_ne hjk] at h2 h4
      have hi : i < (σ.set i (some (V.ref p))).length := lt_of_get h3
      rw [List.length_set] at hi
      rw [List.getElem?_set_self hi] at h3
      cases h3
      exact hjk (nw k es h2 h4).symm
    · rw [List.getElem?_set_ne n1] at h1 h3
      by_cases n2 : i = k
      · subst n2
        have hi : i < (σ.set i (some (V.ref p))).length := lt_of_get h4
        rw [List.length_set] at hi
        rw [List.getElem?_set_self hi] at h4
        cases h4
        exact hjk (nw j ds' h1 h3)
      · rw [List.getElem?_set_ne n2] at h2 h4
        exact e.ap j k a ds' es hjk h1 h2 h3 h4
/-- the list that a slot holds is changed -/
theorem EnvOk.change {i : Nat} {a : Addr} {vs vs' : List V} {ds ds' : List D} (e : EnvOk K G0 H0 ε σ G H) (hi : ε[i]? = some (.own ds)) (hs : σ[i]? = some (some (.ref a))) (hH : H a = some (.lst vs)) (hG : G a = none) (h0 : H0 a = none)
    (r : RpAll K G vs' ds') : EnvOk K G0 H0 (ε.set i (.own ds')) σ G (upd H a (.lst vs')) := by
  have hlt := lt_of_get hi
  have gh : Ex G (upd H a (.lst vs')) := fun b u hb => by rw [upd_ne (ne_of_none hb hG)]; exact e.gh b u hb
  refine ⟨⟨e.ext.gg, e.ext.hh.mut h0, gh, e.ext.fr⟩, by rw [List.length_set]; exact e.len, fun j => ?_, fun j k b ds1 es hjk h1 h2 h3 h4 => ?_⟩
  · by_cases hj : i = j
    · subst hj
      rw [List.getElem?_set_self hlt]
      exact ⟨a, vs', hs, upd_same, hG, h0, r⟩
    · rw [List.getElem?_set_ne hj]
      have q := e.sl j
      cases hx : ε[j]? with
      | none => trivial
      | some s =>
        rw [hx] at q
        cases s with
        | un => trivial
        | val d => exact q
        | own es =>
          obtain ⟨b, ws, e1, e2, e3, e4, e5⟩ := q
          have nb : b ≠ a := fun z => by subst z; exact e.ap i j b ds es hj hi hx hs e1
          exact ⟨b, ws, e1, by rw [upd_ne nb]; exact e2, e3, e4, e5⟩
  · have o1 : ∃ d1, ε[j]? = some (.own d1) := by
      by_cases z : i = j
      · subst z; exact ⟨ds, hi⟩
      · rw [List.getElem?_set_ne z] at h1; exact ⟨_, h1⟩
    have o2 : ∃ d1, ε[k]? = some (.own d1) := by
      by_cases z : i = k
      · subst z; exact ⟨ds, hi⟩
      · rw [List.getElem?_set_ne z] at h2; exact ⟨_, h2⟩
    obtain ⟨d1, o1⟩ := o1
    obtain ⟨d2, o2⟩ := o2
    exact e.ap j k b d1 d2 hjk o1 o2 h3 h4
/-- the list that a slot holds is changed no more -/
theorem EnvOk.freeze {i : Nat} {ds : List D} (e : EnvOk K G0 H0 ε σ G H) (hi : ε[i]? = some (.own ds)) : ∃ G', EnvOk K G0 H0 (ε.set i (.val (.lst ds))) σ G' H ∧ Ex G G' := by
  have hlt := lt_of_get hi
  obtain ⟨a, vs, hs, hH, hG, h0, r⟩ := e.own hi
  have xg : Ex G (upd G a (.lst vs)) := Ex.new hG
  refine ⟨upd G a (.lst vs), ⟨e.ext.close h0 hH hG, by rw [List.length_set]; exact e.len, fun j => ?_, fun j k b ds1 es hjk h1 h2 h3 h4 => ?_⟩, xg⟩
  · by_cases hj : i = j
    · subst hj
      rw [List.getElem?_set_self hlt]
      exact ⟨_, hs, .lst (SqL.of upd_same) (r.up xg)⟩
    · rw [List.getElem?_set_ne hj]
      have q := e.sl j
      cases hx : ε[j]? with
      | none => trivial
      | some s =>
        rw [hx] at q
        cases s with
        | un => trivial
        | val d => obtain ⟨v, e1, r1⟩ := q; exact ⟨v, e1, r1.up xg⟩
        | own es =>
          obtain ⟨b, ws, e1, e2, e3, e4, e5⟩ := q
          have nb : b ≠ a := fun z => by subst z; exact e.ap i j b ds es hj hi hx hs e1
          exact ⟨b, ws, e1, e2, by rw [upd_ne nb]; exact e3, e4, e5.up xg⟩
  · have n1 : i ≠ j := fun z => by subst z; rw [List.getElem?_set_self hlt] at h1; cases h1
    have n2 : i ≠ k := fun z => by subst z; rw [List.getElem?_set_self hlt] at h2; cases h2
    rw [List.getElem?_set_ne n1] at h1
    rw [List.getElem?_set_ne n2] at h2
    exact e.ap j k b ds1 es hjk h1 h2 h3 h4
end
end PL

set_option Elab.async false
set_option linter.all false
set_option maxRecDepth 100000
/-! PL1: denotations; expressions. -/
namespace PL
open PySem PySem.Spec PyProof.Rows L2

/-! ### data -/
mutual
def D.py : D → PyData
  | .non => .none
  | .bl b => .bool b
  | .int i => .int i
  | .str x => .str x
  | .tup ds => .tuple (pyAll ds)
  | .lst ds => .list (pyAll ds)
def pyAll : List D → List PyData
  | [] => []
  | d :: ds => d.py :: pyAll ds
end
def deq (d e : D) : Bool := PyData.eqv d.py e.py
def eqok (d : D) : Bool := SeqAt.shaped d.py
abbrev LIM : Nat := 100000

def tru : D → Option Bool
  | .non => some false
  | .bl b => some b
  | .int i => some (i != 0)
  | .str x => if x.length ≤ LIM then some ((x.length : Int) != 0) else none
  | .tup ds => some (!ds.isEmpty)
  | .lst ds => some (!ds.isEmpty)
def cut {α : Type} (xs : List α) (lo hi : Option Int) : List α := (xs.drop (HT.sIx xs.length 0 lo)).take (HT.sIx xs.length xs.length hi - HT.sIx xs.length 0 lo)

def oIx : D → D → Option D
  | .tup ds, .int i => atI ds i
  | .lst ds, .int i => atI ds i
  | .str z, .int i => if z.length ≤ LIM then (atI z.cps.toList i).map fun c => .str ⟨#[c]⟩ else none
  | _, _ => none
def oAdd : D → D → Option D
  | .int i, .int j => some (.int (i + j))
  | .tup a, .tup b => if a.length + b.length ≤ LIM then some (.tup (a ++ b)) else none
  | .lst a, .lst b => if a.length + b.length ≤ LIM then some (.lst (a ++ b)) else none
  | .str x, .str y => if x.length + y.length ≤ LIM then some (.str (x ++ y)) else none
  | _, _ => none
def oSub : D → D → Option D
  | .int i, .int j => some (.int (i - j))
  | _, _ => none
def small (i : Int) : Bool := decide (-18446744073709551616 < i) && decide (i < 18446744073709551616)
def oMul : D → D → Option D
  | .int i, .int j => if small i || small j then some (.int (i * j)) else none
  | .tup a, .int k => if !a.isEmpty && decide (1 ≤ k) && decide (k ≤ 1000) && decide (a.length ≤ 1000) then some (.tup (List.replicate k.toNat a).flatten) else none
  | .lst a, .int k => if decide (-1000 ≤ k) && decide (k ≤ 1000) && decide (a.length ≤ 1000) then some (.lst (List.replicate k.toNat a).flatten) else none
  | _, _ => none
def oFdiv : D → D → Option D
  | .int i, .int j => if 0 < j ∧ j < 1073741824 then some (.int (i / j)) else none
  | _, _ => none
def oMod : D → D → Option D
  | .int i, .int j => if 0 < j then some (.int (i % j)) else none
  | _, _ => none
def oEq (d e : D) : Option D := if eqok d && eqok e then some (.bl (deq d e)) else none
def oNe (d e : D) : Option D := if eqok d && eqok e then some (.bl (!deq d e)) else none
def oCmp (p : Int → Int → Bool) : D → D → Option D
  | .int i, .int j => some (.bl (p i j))
  | _, _ => none
abbrev oLt := oCmp fun i j => decide (i < j)
abbrev oLe := oCmp fun i j => decide (i ≤ j)
abbrev oGt := oCmp fun i j => decide (j < i)
abbrev oGe := oCmp fun i j => decide (j ≤ i)
def isNon : D → Bool
  | .non => true
  | _ => false
def oIs : D → D → Option D
  | d, .non => some (.bl (isNon d))
  | .bl a, .bl b => some (.bl (decide (a = b)))
  | _, _ => none
def oIsNot : D → D → Option D
  | d, .non => some (.bl (!isNon d))
  | .bl a, .bl b => some (.bl (!decide (a = b)))
  | _, _ => none
def oNeg : D → Option D
  | .int i => some (.int (-i))
  | _ => none
def oLen : D → Option D
  | .tup ds => some (.int ds.length)
  | .lst ds => some (.int ds.length)
  | .str z => if z.length ≤ LIM then some (.int z.length) else none
  | _ => none
def oTuple : D → Option D
  | .tup ds => some (.tup ds)
  | .lst ds => some (.tup ds)
  | _ => none
def oList : D → Option (List D)
  | .tup ds => some ds
  | .lst ds => some ds
  | _ => none
def oMin2 : D → D → Option D
  | .int i, .int j => some (.int (if j < i then j else i))
  | _, _ => none
def oMax2 : D → D → Option D
  | .int i, .int j => some (.int (if j > i then j else i))
  | _, _ => none
def oPart : Option D → Option (Option Int)
  | none => some none
  | some (.int i) => some (some i)
  | _ => none
def oSl : D → Option Int → Option Int → Option D
  | .tup ds, lo, hi => some (.tup (cut ds lo hi))
  | .lst ds, lo, hi => some (.lst (cut ds lo hi))
  | .str z, lo, hi => if z.length ≤ LIM then some (.str (cutS z lo hi)) else none
  | _, _, _ => none
def Out.of {α : Type} : Option α → Out α
  | some a => .ok a
  | none => .no
@[simp] theorem of_some {α : Type} (a : α) : Out.of (some a) = .ok a := rfl
@[simp] theorem of_none {α : Type} : Out.of (none : Option α) = .no := rfl
@[simp] theorem tru_non : tru .non = some false := rfl
@[simp] theorem tru_bl (b : Bool) : tru (.bl b) = some b := rfl
@[simp] theorem tru_int (i : Int) : tru (.int i) = some (i != 0) := rfl
@[simp] theorem tru_tup (ds : List D) : tru (.tup ds) = some (!ds.isEmpty) := rfl
@[simp] theorem tru_lst (ds : List D) : tru (.lst ds) = some (!ds.isEmpty) := rfl
@[simp] theorem oIx_tup (ds : List D) (i : Int) : oIx (.tup ds) (.int i) = atI ds i := rfl
@[simp] theorem oIx_lst (ds : List D) (i : Int) : oIx (.lst ds) (.int i) = atI ds i := rfl
@[simp] theorem oAdd_int (i j : Int) : oAdd (.int i) (.int j) = some (.int (i + j)) := rfl
@[simp] theorem oAdd_tup (a b : List D) : oAdd (.tup a) (.tup b) = if a.length + b.length ≤ LIM then some (.tup (a ++ b)) else none := rfl
@[simp] theorem oAdd_lst (a b : List D) : oAdd (.lst a) (.lst b) = if a.length + b.length ≤ LIM then some (.lst (a ++ b)) else none := rfl
@[simp] theorem oSub_int (i j : Int) : oSub (.int i) (.int j) = some (.int (i - j)) := rfl
@[simp] theorem oMul_int (i j : Int) : oMul (.int i) (.int j) = if small i || small j then some (.int (i * j)) else none := rfl
@[simp] theorem oMul_tup (a : List D) (k : Int) : oMul (.tup a) (.int k) = if !a.isEmpty && decide (1 ≤ k) && decide (k ≤ 1000) && decide (a.length ≤ 1000) then some (.tup (List.replicate k.toNat a).flatten) else none := rfl
@[simp] theorem oMul_lst (a : List D) (k : Int) : oMul (.lst a) (.int k) = if decide (-1000 ≤ k) && decide (k ≤ 1000) && decide (a.length ≤ 1000) then some (.lst (List.replicate k.toNat a).flatten) else none := rfl
@[simp] theorem oFdiv_int (i j : Int) : oFdiv (.int i) (.int j) = if 0 < j ∧ j < 1073741824 then some (.int (i / j)) else none := rfl
@[simp] theorem oMod_int (i j : Int) : oMod (.int i) (.int j) = if 0 < j then some (.int (i % j)) else none := rfl
@[simp] theorem oCmp_int (p : Int → Int → Bool) (i j : Int) : oCmp p (.int i) (.int j) = some (.bl (p i j)) := rfl
@[simp] theorem isNon_non : isNon .non = true := rfl
@[simp] theorem isNon_int (i : Int) : isNon (.int i) = false := rfl
@[simp] theorem isNon_bl (i : Bool) : isNon (.bl i) = false := rfl
@[simp] theorem isNon_str (i : Str) : isNon (.str i) = false := rfl
@[simp] theorem isNon_tup (i : List D) : isNon (.tup i) = false := rfl
@[simp] theorem isNon_lst (i : List D) : isNon (.lst i) = false := rfl
@[simp] theorem oIs_non (d : D) : oIs d .non = some (.bl (isNon d)) := by cases d <;> rfl
@[simp] theorem oIs_bl (a b : Bool) : oIs (.bl a) (.bl b) = some (.bl (decide (a = b))) := rfl
@[simp] theorem oIsNot_non (d : D) : oIsNot d .non = some (.bl (!isNon d)) := by cases d <;> rfl
@[simp] theorem oIsNot_bl (a b : Bool) : oIsNot (.bl a) (.bl b) = some (.bl (!decide (a = b))) := rfl
@[simp] theorem oNeg_int (i : Int) : oNeg (.int i) = some (.int (-i)) := rfl
@[simp] theorem oLen_tup (ds : List D) : oLen (.tup ds) = some (.int ds.length) := rfl
@[simp] theorem oLen_lst (ds : List D) : oLen (.lst ds) = some (.int ds.length) := rfl
@[simp] theorem oTuple_tup (ds : List D) : oTuple (.tup ds) = some (.tup ds) := rfl
@[simp] theorem oTuple_lst (ds : List D) : oTuple (.lst ds) = some (.tup ds) := rfl
@[simp] theorem oList_tup (ds : List D) : oList (.tup ds) = some ds := rfl
@[simp] theorem oList_lst (ds : List D) : oList (.lst ds) = some ds := rfl
@[simp] theorem oMin2_int (i j : Int) : oMin2 (.int i) (.int j) = some (.int (if j < i then j else i)) := rfl
@[simp] theorem oMax2_int (i j : Int) : oMax2 (.int i) (.int j) = some (.int (if j > i then j else i)) := rfl
@[simp] theorem oSl_tup (ds : List D) (lo hi : Option Int) : oSl (.tup ds) lo hi = some (.tup (cut ds lo hi)) := rfl
@[simp] theorem oSl_lst (ds : List D) (lo hi : Option Int) : oSl (.lst ds) lo hi = some (.lst (cut ds lo hi)) := rfl

/-! ### views -/
inductive Vw (K : PySem.W.Frag) (G H : Hp) : V → D → Prop
  | v {v : V} {d : D} : Rp K G v d → Vw K G H v d
  | o {a : Addr} {vs : List V} {ds : List D} : H a = some (.lst vs) → RpAll K G vs ds → Vw K G H (.ref a) (.lst ds)
inductive VwAll (K : PySem.W.Frag) (G H : Hp) : List V → List D → Prop
  | nil : VwAll K G H [] []
  | cons {v : V} {vs : List V} {d : D} {ds : List D} : Vw K G H v d → VwAll K G H vs ds → VwAll K G H (v :: vs) (d :: ds)
section
variable {K : PySem.W.Frag} {G H G' H' : Hp}
theorem Vw.on {v : V} {d : D} (h : Vw K G H v d) (x : Ext G H G' H') : Vw K G' H' v d := by
  cases h with
  | v r => exact .v (r.up x.gg)
  | o h r => exact .o (x.hh _ _ h) (r.up x.gg)
theorem Vw.lst {v : V} {ds : List D} (h : Vw K G H v (.lst ds)) (e : Ex G H) : ∃ a vs, v = .ref a ∧ SqL K H a vs ∧ RpAll K G vs ds := by
  cases h with
  | v r =>
    cases r with
    | lst q r => exact ⟨_, _, rfl, ex_l e q, r⟩
  | o h r => exact ⟨_, _, rfl, SqL.of h, r⟩
theorem Vw.tup {v : V} {ds : List D} (h : Vw K G H v (.tup ds)) (e : Ex G H) : ∃ a vs, v = .ref a ∧ SqT K H a vs ∧ SqT K G a vs ∧ RpAll K G vs ds := by
  cases h with
  | v r =>
    cases r with
    | tup q r => exact ⟨_, _, rfl, ex_t e q, q, r⟩
theorem Vw.tupR {v : V} {ds : List D} (h : Vw K G H v (.tup ds)) : Rp K G v (.tup ds) := by
  cases h with
  | v r => exact r
theorem Vw.int {v : V} {i : Int} (h : Vw K G H v (.int i)) : v = .int i := by
  cases h with
  | v r => cases r; rfl
theorem Vw.bl {v : V} {i : Bool} (h : Vw K G H v (.bl i)) : v = .bl i := by
  cases h with
  | v r => cases r; rfl
theorem Vw.str {v : V} {i : Str} (h : Vw K G H v (.str i)) : v = .str i := by
  cases h with
  | v r => cases r; rfl
theorem Vw.non {v : V} (h : Vw K G H v .non) : v = .non := by
  cases h with
  | v r => cases r; rfl
theorem Vw.isN {v : V} {d : D} (h : Vw K G H v d) : decide (v = .non) = isNon d := by
  cases h with
  | v r => cases r <;> simp [isNon]
  | o h r => simp [isNon]
mutual
theorem Rp.dp : ∀ (d : D) (v : V), Rp K G v d → Dp K G v d.py
  | .non, _, h => by cases h; exact .non
  | .bl b, _, h => by cases h; exact .bl b
  | .int i, _, h => by cases h; exact .int i
  | .str x, _, h => by cases h; exact .str x
  | .lst ds, _, h => by
    cases h with
    | lst hs ha => exact .lst hs (RpAll.dp ds _ ha)
  | .tup ds, _, h => by
    cases h with
    | tup hs ha => exact .tup hs (RpAll.dp ds _ ha)
theorem RpAll.dp : ∀ (ds : List D) (vs : List V), RpAll K G vs ds → DpAll K G vs (pyAll ds)
  | [], _, h => by cases h; exact .nil
  | d :: ds, _, h => by
    cases h with
    | cons h1 h2 => exact .cons (Rp.dp d _ h1) (RpAll.dp ds _ h2)
end
theorem Vw.dp {v : V} {d : D} (h : Vw K G H v d) (e : Ex G H) : Dp K H v d.py := by
  cases h with
  | v r => exact Rp.dp _ _ (r.up e)
  | o h r => exact .lst (.inl (.inl h)) (RpAll.dp _ _ (r.up e))
end

/-! ### what is wanted behind -/
abbrev DE := Ev → Out D
def Xok (mg : Str → Option Value) (E : XK) (c : Str) (H : Hp) : Prop := ∀ u, mg c = some u → E u none H
def Post {α β : Type} (mg : Str → Option Value) (E : XK) (G H : Hp) (o : Out α) (R : α → β → Hp → Hp → Prop) (Q : β → Hp → Prop) : Prop :=
  match o with
  | .ok d => ∀ b G' H', Ext G H G' H' → R d b G' H' → Q b H'
  | .rs c => ∀ G' H', Ext G H G' H' → Xok mg E c H'
  | .no => False
section
variable {α β γ δ : Type} {mg : Str → Option Value} {E : XK} {G H G' H' : Hp}
theorem Post.on {o : Out α} {R : α → β → Hp → Hp → Prop} {Q : β → Hp → Prop} (h : Post mg E G H o R Q) (x : Ext G H G' H') : Post mg E G' H' o R Q := by
  cases o with
  | ok d => exact fun b G2 H2 x2 r => h b G2 H2 (x.trans x2) r
  | rs c => exact fun G2 H2 x2 => h G2 H2 (x.trans x2)
  | no => exact h
theorem Post.bind {o : Out α} {k : α → Out γ} {R : α → β → Hp → Hp → Prop} {R' : γ → δ → Hp → Hp → Prop} {Q : δ → Hp → Prop} {P : β → Hp → Prop} (h : Post mg E G H (o.bind k) R' Q)
    (f : ∀ d b G' H', o = .ok d → Ext G H G' H' → R d b G' H' → Post mg E G' H' (k d) R' Q → P b H') : Post mg E G H o R P := by
  cases o with
  | ok d => exact fun b G2 H2 x2 r => f d b G2 H2 rfl x2 r (Post.on (o := k d) h x2)
  | rs c => exact h
  | no => exact h
theorem Post.of {o : Option α} {R : α → β → Hp → Hp → Prop} {Q : β → Hp → Prop} (h : Post mg E G H (Out.of o) R Q) : ∃ d, o = some d ∧ ∀ b G' H', Ext G H G' H' → R d b G' H' → Q b H' := by
  cases o with
  | some d => exact ⟨d, rfl, h⟩
  | none => exact h.elim
theorem Post.imp {o : Out α} {R : α → β → Hp → Hp → Prop} {R' : α → β → Hp → Hp → Prop} {Q : β → Hp → Prop} (h : Post mg E G H o R' Q) (f : ∀ d b G' H', Ext G H G' H' → R d b G' H' → R' d b G' H') : Post mg E G H o R Q := by
  cases o with
  | ok d => exact fun b G2 H2 x2 r => h b G2 H2 x2 (f d b G2 H2 x2 r)
  | rs c => exact h
  | no => exact h
end
/-- the reading that a denotation gives -/
def tG {α β : Type} (K : PySem.W.Frag) (mg : Str → Option Value) (E : XK) (R : α → β → Hp → Hp → Prop) (f : Ev → Out α) : L2.St → Hp → (β → Hp → Prop) → Prop :=
  fun σ H Q => ∃ G0 H0 ε G, EnvOk K G0 H0 ε σ G H ∧ Post mg E G H (f ε) R Q
abbrev rV (K : PySem.W.Frag) : D → V → Hp → Hp → Prop := fun d v G _ => Rp K G v d
abbrev rW (K : PySem.W.Frag) : D → V → Hp → Hp → Prop := fun d v G H => Vw K G H v d
abbrev rB : Bool → Bool → Hp → Hp → Prop := fun b c _ _ => b = c
abbrev rA (K : PySem.W.Frag) : List D → List V → Hp → Hp → Prop := fun ds vs G _ => RpAll K G vs ds
abbrev rAw (K : PySem.W.Frag) : List D → List V → Hp → Hp → Prop := fun ds vs G H => VwAll K G H vs ds
/-- a value | a view | a test | arguments | viewed arguments -/
abbrev PD (X : Cx) (E : XK) (e : Expr) (f : DE) : Prop := PE X e (tG X.K X.mg E (rV X.K) f)
abbrev PVw (X : Cx) (E : XK) (e : Expr) (f : DE) : Prop := PE X e (tG X.K X.mg E (rW X.K) f)
abbrev PTt (X : Cx) (E : XK) (e : Expr) (f : Ev → Out Bool) : Prop := PT X e (tG X.K X.mg E rB f)
abbrev PAd (X : Cx) (E : XK) (es : List Expr) (f : Ev → Out (List D)) : Prop := PA X es (tG X.K X.mg E (rA X.K) f)
abbrev PAw (X : Cx) (E : XK) (es : List Expr) (f : Ev → Out (List D)) : Prop := PA X es (tG X.K X.mg E (rAw X.K) f)
/-- a new list, open to change -/
def PostF (K : PySem.W.Frag) (mg : Str → Option Value) (E : XK) (G H : Hp) (o : Out (List D)) (Q : VK) : Prop :=
  match o with
  | .ok ds => ∀ p vs G' H', Ext G H G' H' → H p = none → H' p = some (.lst vs) → G' p = none → RpAll K G' vs ds → Q (.ref p) H'
  | .rs c => ∀ G' H', Ext G H G' H' → Xok mg E c H'
  | .no => False
def tF (K : PySem.W.Frag) (mg : Str → Option Value) (E : XK) (f : Ev → Out (List D)) : TE :=
  fun σ H Q => ∃ G0 H0 ε G, EnvOk K G0 H0 ε σ G H ∧ PostF K mg E G H (f ε) Q
abbrev PF (X : Cx) (E : XK) (e : Expr) (f : Ev → Out (List D)) : Prop := PE X e (tF X.K X.mg E f)
theorem PostF.on {K : PySem.W.Frag} {mg : Str → Option Value} {E : XK} {G H G' H' : Hp} {o : Out (List D)} {Q : VK} (h : PostF K mg E G H o Q) (x : Ext G H G' H') : PostF K mg E G' H' o Q := by
  cases o with
  | ok d => exact fun p vs G2 H2 x2 h1 => h p vs G2 H2 (x.trans x2) (x.hh.back h1)
  | rs c => exact fun G2 H2 x2 => h G2 H2 (x.trans x2)
  | no => exact h
theorem PostF.bind {α β : Type} {K : PySem.W.Frag} {mg : Str → Option Value} {E : XK} {G H : Hp} {o : Out α} {k : α → Out (List D)} {R : α → β → Hp → Hp → Prop} {Q : VK} {P : β → Hp → Prop} (h : PostF K mg E G H (o.bind k) Q)
    (f : ∀ d b G' H', o = .ok d → Ext G H G' H' → R d b G' H' → PostF K mg E G' H' (k d) Q → P b H') : Post mg E G H o R P := by
  cases o with
  | ok d => exact fun b G2 H2 x2 r => f d b G2 H2 rfl x2 r (PostF.on (o := k d) h x2)
  | rs c => exact h
  | no => exact h
theorem PostF.of {K : PySem.W.Frag} {mg : Str → Option Value} {E : XK} {G H : Hp} {o : Option (List D)} {Q : VK} (h : PostF K mg E G H (Out.of o) Q) :
    ∃ ds, o = some ds ∧ ∀ p vs G' H', Ext G H G' H' → H p = none → H' p = some (.lst vs) → G' p = none → RpAll K G' vs ds → Q (.ref p) H' := by
  cases o with
  | some d => exact ⟨d, rfl, h⟩
  | none => exact h.elim

theorem PE.weak {X : Cx} {e : Expr} {t t' : TE} (h : PE X e t) (f : ∀ σ H Q, t' σ H Q → t σ H Q) : PE X e t' := ⟨fun pins s σ H Q I q => h.run pins s σ H Q I (f σ H Q q)⟩
theorem PT.weak {X : Cx} {e : Expr} {t t' : TT} (h : PT X e t) (f : ∀ σ H Q, t' σ H Q → t σ H Q) : PT X e t' := ⟨fun pins s σ H Q I q => h.run pins s σ H Q I (f σ H Q q)⟩
theorem PA.weak {X : Cx} {es : List Expr} {t t' : TA} (h : PA X es t) (f : ∀ σ H Q, t' σ H Q → t σ H Q) : PA X es t' := ⟨fun pos pins s σ H Q I q => h.run pos pins s σ H Q I (f σ H Q q)⟩

/-! ### denotations of expressions -/
def getV : Option Sl → Out D
  | some (.val d) => .ok d
  | _ => .no
def getW : Option Sl → Out D
  | some (.val d) => .ok d
  | some (.own ds) => .ok (.lst ds)
  | _ => .no
@[simp] theorem getV_val (d : D) : getV (some (.val d)) = .ok d := rfl
@[simp] theorem getW_val (d : D) : getW (some (.val d)) = .ok d := rfl
@[simp] theorem getW_own (ds : List D) : getW (some (.own ds)) = .ok (.lst ds) := rfl
@[simp] def dVar (i : Nat) (ε : Ev) : Out D := getV ε[i]?
@[simp] def vVar (i : Nat) (ε : Ev) : Out D := getW ε[i]?
def testB : D → Out Bool
  | .bl b => .ok b
  | _ => .no
@[simp] theorem testB_bl (b : Bool) : testB (.bl b) = .ok b := rfl
def nrm {α : Type} : Out α → Out α
  | .ok d => .ok d
  | _ => .no
@[simp] theorem nrm_ok {α : Type} (d : α) : nrm (.ok d) = .ok d := rfl
def partI : D → Out (Option Int)
  | .int i => .ok (some i)
  | _ => .no
@[simp] theorem partI_int (i : Int) : partI (.int i) = .ok (some i) := rfl
def chF (z : D) (k : Out D) : Out D := match z with
  | .bl true => k
  | .bl false => .ok (.bl false)
  | _ => .no
@[simp] theorem chF_true (k : Out D) : chF (.bl true) k = k := rfl
@[simp] theorem chF_false (k : Out D) : chF (.bl false) k = .ok (.bl false) := rfl
@[simp] def dC (d : D) (_ : Ev) : Out D := .ok d
@[simp] def d1 (o : D → Option D) (fa : DE) (ε : Ev) : Out D := (fa ε).bind fun a => .of (o a)
@[simp] def d2 (o : D → D → Option D) (fa fb : DE) (ε : Ev) : Out D := (fa ε).bind fun a => (fb ε).bind fun b => .of (o a b)
def dArgs : List DE → Ev → Out (List D)
  | [], _ => .ok []
  | f :: fs, ε => (f ε).bind fun d => (dArgs fs ε).bind fun ds => .ok (d :: ds)
@[simp] theorem dArgs_nil (ε : Ev) : dArgs [] ε = .ok [] := rfl
@[simp] theorem dArgs_cons (f : DE) (fs : List DE) (ε : Ev) : dArgs (f :: fs) ε = (f ε).bind fun d => (dArgs fs ε).bind fun ds => .ok (d :: ds) := rfl
@[simp] def dTup (fl : List DE) (ε : Ev) : Out D := (dArgs fl ε).bind fun ds => .ok (.tup ds)
@[simp] def dLst (f : Ev → Out (List D)) (ε : Ev) : Out D := (f ε).bind fun ds => .ok (.lst ds)
@[simp] def dIf (fc : Ev → Out Bool) (fa fb : DE) (ε : Ev) : Out D := (fc ε).bind fun c => if c = true then fa ε else fb ε
@[simp] def dTest (fa : DE) (ε : Ev) : Out Bool := (fa ε).bind fun a => .of (tru a)
@[simp] def dTestB (fa : DE) (ε : Ev) : Out Bool := (fa ε).bind testB
@[simp] def dAndT (fa fb : Ev → Out Bool) (ε : Ev) : Out Bool := (fa ε).bind fun a => if a = true then fb ε else .ok false
@[simp] def dOrT (fa fb : Ev → Out Bool) (ε : Ev) : Out Bool := (fa ε).bind fun a => if a = true then .ok true else fb ε
@[simp] def dNotT (fa : Ev → Out Bool) (ε : Ev) : Out Bool := (fa ε).bind fun a => .ok (!a)
@[simp] def dAnd (fa fb : DE) (ε : Ev) : Out D := (fa ε).bind fun a => (Out.of (tru a)).bind fun k => if k = true then fb ε else .ok a
@[simp] def dOr (fa fb : DE) (ε : Ev) : Out D := (fa ε).bind fun a => (Out.of (tru a)).bind fun k => if k = true then .ok a else fb ε
@[simp] def dNot (fa : DE) (ε : Ev) : Out D := (fa ε).bind fun a => (Out.of (tru a)).bind fun k => .ok (.bl (!k))
/-- a op b op' c -/
@[simp] def dCh (o o' : D → D → Option D) (fa fb fc : DE) (ε : Ev) : Out D := (fa ε).bind fun a => (fb ε).bind fun b => (Out.of (o a b)).bind fun z => chF z ((fc ε).bind fun c => .of (o' b c))
@[simp] def dCall (M : List D → Out D) (fl : Ev → Out (List D)) (ε : Ev) : Out D := (fl ε).bind fun ds => nrm (M ds)
def dPart : Option DE → Ev → Out (Option Int)
  | none, _ => .ok none
  | some f, ε => (f ε).bind partI
@[simp] theorem dPart_none (ε : Ev) : dPart none ε = .ok none := rfl
@[simp] theorem dPart_some (f : DE) (ε : Ev) : dPart (some f) ε = (f ε).bind partI := rfl
@[simp] def dSl (fa : DE) (lo hi : Option DE) (ε : Ev) : Out D := (fa ε).bind fun a => (dPart lo ε).bind fun l => (dPart hi ε).bind fun h => .of (oSl a l h)
@[simp] def lLst (fl : List DE) (ε : Ev) : Out (List D) := dArgs fl ε
@[simp] def lList (fa : DE) (ε : Ev) : Out (List D) := (fa ε).bind fun a => .of (oList a)

section
variable {X : Cx} {E : XK} {a b c : Expr} {es : List Expr} {fa fb fc : DE} {pos : Pos}

theorem pw_of {f : DE} (h : PD X E a f) : PVw X E a f := PE.weak h fun σ H Q ⟨G0, H0, ε, G, e, q⟩ => ⟨G0, H0, ε, G, e, q.imp fun d v G' H' _ r => .v r⟩
theorem pd_of {f : Ev → Out (List D)} (h : PF X E a f) : PD X E a (dLst f) := PE.weak h fun σ H Q ⟨G0, H0, ε, G, e, q⟩ => by
  refine ⟨G0, H0, ε, G, e, ?_⟩
  unfold dLst at q
  cases h : f ε with
  | ok ds =>
    rw [h] at q
    refine fun p vs G' H' x h1 h2 h3 r => q _ (upd G' p (.lst vs)) H' (x.close h1 h2 h3) (.lst (SqL.of upd_same) (r.up (Ex.new h3)))
  | rs c => rw [h] at q; exact q
  | no => rw [h] at q; exact q

theorem pd_var (i : Nat) {x : Str} (hN : X.N[i]? = some x := by rfl) (hv : Vis X.env.scope x := by first | exact Or.inl rfl | exact Or.inr (Or.inl rfl) | exact Or.inr (Or.inr rfl)) (hd : (x == ("__debug__" : Str)) = false := by decide)
    (hcd : (x == ("__classdict__" : Str)) = false := by decide) : PD X E (.Name x pos) (dVar i) :=
  PE.weak (pv i hN hv hd hcd) fun σ H Q ⟨G0, H0, ε, G, e, q⟩ => by
    unfold dVar getV at q
    split at q
    · rename_i d hd'
      obtain ⟨v, h1, r⟩ := e.val hd'
      exact ⟨v, h1, q v G H (Ext.refl e.gh) r⟩
    · exact q.elim
theorem pw_var (i : Nat) {x : Str} (hN : X.N[i]? = some x := by rfl) (hv : Vis X.env.scope x := by first | exact Or.inl rfl | exact Or.inr (Or.inl rfl) | exact Or.inr (Or.inr rfl)) (hd : (x == ("__debug__" : Str)) = false := by decide)
    (hcd : (x == ("__classdict__" : Str)) = false := by decide) : PVw X E (.Name x pos) (vVar i) :=
  PE.weak (pv i hN hv hd hcd) fun σ H Q ⟨G0, H0, ε, G, e, q⟩ => by
    unfold vVar getW at q
    split at q
    · rename_i d hd'
      obtain ⟨v, h1, r⟩ := e.val hd'
      exact ⟨v, h1, q v G H (Ext.refl e.gh) (.v r)⟩
    · rename_i ds hd'
      obtain ⟨p, vs, h1, h2, _, _, r⟩ := e.own hd'
      exact ⟨_, h1, q _ G H (Ext.refl e.gh) (.o h2 r)⟩
    · exact q.elim
theorem tC_of {v : V} {d : D} (r : ∀ G, Rp X.K G v d) : ∀ σ H Q, tG X.K X.mg E (rV X.K) (dC d) σ H Q → tC v σ H Q := fun σ H Q ⟨G0, H0, ε, G, e, q⟩ => q v G H (Ext.refl e.gh) (r G)
theorem pd_int {i : Int} {j} : PD X E (.Constant (.int i) j pos) (dC (.int i)) := PE.weak pe_int (tC_of fun _ => .int i)
theorem pd_bl {i : Bool} {j} : PD X E (.Constant (.bool i) j pos) (dC (.bl i)) := PE.weak pe_bl (tC_of fun _ => .bl i)
theorem pd_str {i : Str} {j} : PD X E (.Constant (.str i) j pos) (dC (.str i)) := PE.weak pe_str (tC_of fun _ => .str i)
theorem pd_non {j} : PD X E (.Constant .none j pos) (dC .non) := PE.weak pe_non (tC_of fun _ => .non)
/-- a module's constant -/
theorem pd_gint {x : Str} {i : Int} (hg : Gl X x) (hm : ∃ t, X.mg x = some (.int i t)) (hd : (x == ("__debug__" : Str)) = false := by decide) : PD X E (.Name x pos) (dC (.int i)) := by
  obtain ⟨t, hm⟩ := hm
  exact PE.weak (pe_glob (v := .int i) hg hm ⟨t, rfl⟩ hd) (tC_of fun _ => .int i)
theorem pd_gstr {x : Str} {i : Str} (hg : Gl X x) (hm : ∃ t, X.mg x = some (.str i t)) (hd : (x == ("__debug__" : Str)) = false := by decide) : PD X E (.Name x pos) (dC (.str i)) := by
  obtain ⟨t, hm⟩ := hm
  exact PE.weak (pe_glob (v := .str i) hg hm ⟨t, rfl⟩ hd) (tC_of fun _ => .str i)

/-! binary operators by data -/
def OpD (X : Cx) (g : Value → Value → Sem Value) (o : D → D → Option D) : Prop :=
  ∃ r : R2, OpR X g r ∧ ∀ G H x y p q d, Ex G H → Vw X.K G H x p → Vw X.K G H y q → o p q = some d → ∀ Q : VK, (∀ v G' H', Ext G H G' H' → Rp X.K G' v d → Q v H') → r x y H Q
theorem op_of {r : R2} {o : D → D → Option D} (f : ∀ G H x y p q d, Ex G H → Vw X.K G H x p → Vw X.K G H y q → o p q = some d → ∀ Q : VK, (∀ v G' H', Ext G H G' H' → Rp X.K G' v d → Q v H') → r x y H Q) :
    ∀ σ H Q, tG X.K X.mg E (rV X.K) (d2 o fa fb) σ H Q → tOp r (tG X.K X.mg E (rW X.K) fa) (tG X.K X.mg E (rW X.K) fb) σ H Q := fun σ H Q ⟨G0, H0, ε, G, e, q⟩ => by
  refine ⟨G0, H0, ε, G, e, q.bind fun p x G1 H1 _ x1 w1 q1 => ?_⟩
  refine ⟨G0, H0, ε, G1, e.on x1, q1.bind fun p2 y G2 H2 _ x2 w2 q2 => ?_⟩
  obtain ⟨d, hd, q3⟩ := q2.of
  exact f G2 H2 x y p p2 d x2.gh (w1.on x2) w2 hd Q q3
theorem pd_op {op : Operator} {o : D → D → Option D} (ho : OpD X (binaryOp op) o) (ha : PVw X E a fa) (hb : PVw X E b fb) : PD X E (.BinOp a op b pos) (d2 o fa fb) := by
  obtain ⟨r, hr, f⟩ := ho
  exact PE.weak (pe_op hr ha hb) (op_of f)
theorem pd_cmp {op : CmpOp} {o : D → D → Option D} (ho : OpD X (compareOp op) o) (ha : PVw X E a fa) (hb : PVw X E b fb) (hm : behindInMarks op b = false) : PD X E (.Compare a [op] [b] pos) (d2 o fa fb) := by
  obtain ⟨r, hr, f⟩ := ho
  exact PE.weak (pe_cmpR hr ha hb hm) (op_of f)
theorem test_of {t : TE} {f : DE} (h : ∀ σ H Q, tG X.K X.mg E (rV X.K) f σ H Q → t σ H Q) : ∀ σ H Q, tG X.K X.mg E rB (dTestB f) σ H Q → tTest t σ H Q := fun σ H Q ⟨G0, H0, ε, G, e, q⟩ => by
  refine h σ H _ ⟨G0, H0, ε, G, e, ?_⟩
  unfold dTestB at q
  refine q.bind fun d v G1 H1 _ x1 r q1 => ?_
  cases d with
  | bl k => cases r; exact ⟨k, rfl, q1 k G1 H1 (Ext.refl x1.gh) rfl⟩
  | _ => exact q1.elim
theorem pt_cmp {op : CmpOp} {o : D → D → Option D} (ho : OpD X (compareOp op) o) (ha : PVw X E a fa) (hb : PVw X E b fb) (hm : behindInMarks op b = false) : PTt X E (.Compare a [op] [b] pos) (dTestB (d2 o fa fb)) := by
  obtain ⟨r, hr, f⟩ := ho
  exact PT.weak (pt_cmpR hr ha hb hm) (test_of (op_of f))
/-- a chain -/
theorem chain_of {r r' : R2} {o o' : D → D → Option D} (f : ∀ G H x y p q d, Ex G H → Vw X.K G H x p → Vw X.K G H y q → o p q = some d → ∀ Q : VK, (∀ v G' H', Ext G H G' H' → Rp X.K G' v d → Q v H') → r x y H Q)
    (f' : ∀ G H x y p q d, Ex G H → Vw X.K G H x p → Vw X.K G H y q → o' p q = some d → ∀ Q : VK, (∀ v G' H', Ext G H G' H' → Rp X.K G' v d → Q v H') → r' x y H Q) :
    ∀ σ H Q, tG X.K X.mg E (rV X.K) (dCh o o' fa fb fc) σ H Q → tChain r r' (tG X.K X.mg E (rW X.K) fa) (tG X.K X.mg E (rW X.K) fb) (tG X.K X.mg E (rW X.K) fc) σ H Q := fun σ H Q ⟨G0, H0, ε, G, e, q⟩ => by
  refine ⟨G0, H0, ε, G, e, q.bind fun p x G1 H1 _ x1 w1 q1 => ?_⟩
  refine ⟨G0, H0, ε, G1, e.on x1, q1.bind fun p2 y G2 H2 _ x2 w2 q2 => ?_⟩
  cases hd : o p p2 with
  | none => rw [hd] at q2; exact q2.elim
  | some d =>
    rw [hd] at q2
    refine f G2 H2 x y p p2 d x2.gh (w1.on x2) w2 hd _ fun v G3 H3 x3 r3 => ?_
    have q3 := Post.on (o := _) q2 x3
    cases d with
    | bl k =>
      cases r3
      refine ⟨k, rfl, ?_⟩
      cases k with
      | true =>
        rw [if_pos rfl]
        refine ⟨G0, H0, ε, G3, ((e.on x1).on x2).on x3, Post.bind q3 fun p3 z G4 H4 _ x4 w4 q4 => ?_⟩
        obtain ⟨d', hd', q5⟩ := q4.of
        exact f' G4 H4 y z p2 p3 d' x4.gh ((w2.on x3).on x4) w4 hd' Q q5
      | false =>
        rw [if_neg Bool.false_ne_true]
        exact q3 _ G3 H3 (Ext.refl x3.gh) (.bl false)
    | _ => exact q3.elim
theorem pd_ch {op op' : CmpOp} {o o' : D → D → Option D} (ho : OpD X (compareOp op) o) (ho' : OpD X (compareOp op') o') (ha : PVw X E a fa) (hb : PVw X E b fb) (hc : PVw X E c fc)
    (hm : lastMarks [op, op'] [b, c] = false := by with_unfolding_all rfl) : PD X E (.Compare a [op, op'] [b, c] pos) (dCh o o' fa fb fc) := by
  obtain ⟨r, hr, f⟩ := ho
  obtain ⟨r', hr', f'⟩ := ho'
  exact PE.weak (pe_chain hr hr' ha hb hc hm) (chain_of f f')
theorem pt_ch {op op' : CmpOp} {o o' : D → D → Option D} (ho : OpD X (compareOp op) o) (ho' : OpD X (compareOp op') o') (ha : PVw X E a fa) (hb : PVw X E b fb) (hc : PVw X E c fc)
    (hm : lastMarks [op, op'] [b, c] = false := by with_unfolding_all rfl) : PTt X E (.Compare a [op, op'] [b, c] pos) (dTestB (dCh o o' fa fb fc)) := by
  obtain ⟨r, hr, f⟩ := ho
  obtain ⟨r', hr', f'⟩ := ho'
  exact PT.weak (pt_chain hr hr' ha hb hc hm) (test_of (chain_of f f'))
end
end PL

set_option Elab.async false
set_option linter.all false
set_option maxRecDepth 100000
set_option maxHeartbeats 2000000
/-! PL2: operators by data; tests; arguments; displays; subscripts; calls. -/
namespace PL
open PySem PySem.Spec PyProof.Rows L2

/-! ### t * 1 -/
theorem tuple_mul1 (l : Addr) (items : Array Value) (n : Nat) (dd : Option Addr) (sl : Array (Option Value)) (u : Tok) :
    Meets (Builtin.«tuple.__mul__» ⟨[.ref l, .int 1 u], []⟩) (fun _ R s => s.heap.get? l = some { cls := .type "tuple", dict := dd, data := .seq items n, slots := sl } ∧ R (.ok (.ret (Value.ref l))) s) :=
  .of_wp fun prog w A R s h => by
    obtain ⟨hp, g, d, tk, os⟩ := s
    obtain ⟨hl, h⟩ := h
    have f1 := AutoSeq1.idx_int
    wp_walk using wpAny_loadPart' hl
    repeat (first
      | (refine wpAny_ite_false (decide_eq_false (by decide)) ?_; wp_walk using wpAny_loadPart' hl)
      | (refine wpAny_ite_true (decide_eq_true (by simp)) ?_; wp_walk using wpAny_loadPart' hl))
    exact ⟨_, rfl, h⟩
section
variable {X : Cx}
def rRep1 (K : PySem.W.Frag) : R2 := fun x y H Q => ∃ l xs, x = .ref l ∧ y = .int 1 ∧ SqT K H l xs ∧ Q (.ref l) H
theorem op_rep1 : OpR X (binaryOp .Mult) (rRep1 X.K) := by
  intro pins s σ H x y v u Q I rx ry h
  obtain ⟨l, xs, rfl, rfl, hT, q⟩ := h
  cases rx
  obtain ⟨t, rfl⟩ := ry
  obtain ⟨its, r, ⟨⟨cls, dd, data, sl⟩, ho, hc, n, hd⟩, hs⟩ := I.tuple hT
  simp only at hc hd
  subst hc hd
  refine wpAny_binaryOp_repeat_ref (T := "tuple") (U := "int") (by decide) ⟨_, ho, rfl⟩ (fun s' => typeIs_int s' 1 t) noFill_tuple_mul F.fills_int_mul F.slot_int_rmul repeat_tuple F.slot_int_index.lookup
    (call_meets F.slot_int_rmul (typeIs_int s 1 t) F.entry_int_rmul (F.args_int_rmul_2 _ _) (int_rmul_tuple 1 t l its.toArray n dd sl)
      ⟨ho, rfl, ⟨_, ho, rfl⟩, call_meets F.slot_tuple_mul ⟨_, ho, rfl⟩ F.entry_tuple_mul (F.args_tuple_mul_2 _ _) (tuple_mul1 l its.toArray n dd sl t) ⟨ho, ?_⟩⟩)
  exact ⟨.ref l, H, I, rfl, q⟩
/-! ### lists that are read or locked -/
theorem lstR {pins : List (Addr × Obj)} {σ : L2.St} {H : Hp} {s : Shared} {l : Addr} {xs : List V} (I : Inv X pins σ H s) (hH : SqL X.K H l xs) :
    xs.length ≤ sizeLine ∧ ∃ (its : List Value) (n : Nat) (sl : Array (Option Value)), Vals xs its ∧ xs.length = its.length ∧ s.heap.get? l = some { cls := .type "list", dict := none, data := .seq its.toArray n, slots := sl } := by
  obtain ⟨its, r, ⟨⟨c, d, dt, sl⟩, n, e, hc, hd, hdt⟩, z⟩ := I.list hH
  simp only at hc hd hdt
  subst hc hd hdt
  exact ⟨z, its, n, sl, r, r.length, e⟩
theorem list_addS (l : Addr) (items : Array Value) (n : Nat) (b : Addr) (items2 : Array Value) (n2 : Nat) (sl sl2 : Array (Option Value)) (hc0 : items.size + items2.size ≤ sizeLine) :
    Meets (Builtin.«list.__add__» ⟨[.ref l, .ref b], []⟩) (fun _ R s => s.heap.get? l = some { cls := .type "list", dict := none, data := .seq items n, slots := sl } ∧ s.heap.get? b = some { cls := .type "list", dict := none, data := .seq items2 n2, slots := sl2 } ∧
      R (.ok (.ret (Value.ref s.heap.objs.size))) { s with heap := s.heap.push { cls := Value.type "list", data := Data.seq (items ++ items2) }, toks := s.toks }) :=
  .of_wp fun prog w A R s h => by
    obtain ⟨hp, g, d, tk, os⟩ := s
    obtain ⟨hl, hb, h⟩ := h
    have f1 := AutoSeq1.idx_int
    have f3 := AutoSeq1.sub_list_list
    wp_walk using AutoSeq1.wpAny_loadPart' hl, AutoSeq1.wpAny_loadPart' hb
    exact ⟨_, rfl, h⟩
theorem list_extS (l : Addr) (items : Array Value) (n : Nat) (b : Addr) (items2 : Array Value) (n2 : Nat) (sl2 : Array (Option Value)) (hc0 : ¬(!items.isEmpty && Builtin.List.listTooLong (items.size + items2.size)) = true) (hc1 : items.size ≤ sizeLine) (hs2 : items.size + items2.size ≤ sizeLine + 1) :
    Meets (Builtin.«list.extend» ⟨[.ref l, .ref b], []⟩) (fun _ R s => s.heap.get? l = some { cls := .type "list", dict := none, data := .seq items n, slots := #[] } ∧ s.heap.get? b = some { cls := .type "list", dict := none, data := .seq items2 n2, slots := sl2 } ∧
      R (.ok (.ret Value.none)) { s with heap := s.heap.update l (Obj.mapSeq fun x => x ++ items2), toks := s.toks }) :=
  .of_wp fun prog w A R s h => by
    obtain ⟨hp, g, d, tk, os⟩ := s
    obtain ⟨hl, hb, h⟩ := h
    have f1 := AutoSeq1.idx_int
    have f3 := AutoSeq1.sub_list_list
    have hz' : (items ++ items2).size ≤ sizeLine + 1 := by rw [Array.size_append]; exact hs2
    wp_walk using (wpAny_updateSeq hl rfl (hz := hc1) (_hz' := hz')), AutoSeq1.wpAny_loadPart' hl, AutoSeq1.wpAny_loadPart' hb
    exact ⟨_, rfl, h⟩
theorem int_rmulS (a : Int) (t : Tok) (l : Addr) (items : Array Value) (n : Nat) (sl : Array (Option Value)) :
    Meets (Builtin.«int.__rmul__» ⟨[.int a t, .ref l], []⟩) (fun _ R s => s.heap.get? l = some { cls := .type "list", dict := none, data := .seq items n, slots := sl } ∧ R (.ok (.ret Value.notImplemented)) s) :=
  .of_wp fun prog w A R s h => by
    obtain ⟨hp, g, d, tk, os⟩ := s
    obtain ⟨hl, h⟩ := h
    wp_walk using AutoSeq1.wpAny_loadPart' hl
    exact ⟨_, rfl, h⟩
theorem list_mulS (l : Addr) (items : Array Value) (n : Nat) (sl : Array (Option Value)) (x : Int) (u : Tok) (hc0 : ¬(!Builtin.List.listFitsIndex x) = true) (hc1 : ¬items.size * x.toNat > (2 ^ 63 - 1) / 8) (hc2 : ¬Builtin.List.listTooLong (items.size * x.toNat) = true)
    (hsz : (List.foldl (fun x1 x2 => x1 ++ x2) #[] (List.replicate (if items.isEmpty = true then 0 else x.toNat) items)).size ≤ sizeLine) :
    Meets (Builtin.«list.__mul__» ⟨[.ref l, .int x u], []⟩) (fun _ R s => s.heap.get? l = some { cls := .type "list", dict := none, data := .seq items n, slots := sl } ∧
      R (.ok (.ret (Value.ref s.heap.objs.size))) { s with heap := s.heap.push { cls := Value.type "list", data := Data.seq (List.foldl (fun x1 x2 => x1 ++ x2) #[] (List.replicate (if items.isEmpty = true then 0 else x.toNat) items)) }, toks := s.toks }) :=
  .of_wp fun prog w A R s h => by
    obtain ⟨hp, g, d, tk, os⟩ := s
    obtain ⟨hl, h⟩ := h
    have f1 := AutoSeq1.idx_int
    wp_walk using AutoSeq1.wpAny_loadPart' hl
    repeat (first
      | (refine wpAny_ite_false (decide_eq_false hc0) ?_; wp_walk using AutoSeq1.wpAny_loadPart' hl)
      | (refine wpAny_ite_false (decide_eq_false hc1) ?_; wp_walk using AutoSeq1.wpAny_loadPart' hl)
      | (refine wpAny_ite_false (decide_eq_false hc2) ?_; wp_walk using AutoSeq1.wpAny_loadPart' hl)
      | (refine wpAny_ite_false (decide_eq_false (Nat.not_lt.mpr hsz)) ?_; wp_walk using AutoSeq1.wpAny_loadPart' hl))
    exact ⟨_, rfl, h⟩
def rCatR (K : PySem.W.Frag) : R2 := fun x y H Q => ∃ l b xs zs, x = .ref l ∧ y = .ref b ∧ SqL K H l xs ∧ SqL K H b zs ∧ xs.length + zs.length ≤ sizeLine ∧ ∀ p, H p = none → Q (.ref p) (upd H p (.lst (xs ++ zs)))
theorem op_catR : OpR X (binaryOp .Add) (rCatR X.K) := by
  intro pins s σ H x y v u Q I rx ry h
  obtain ⟨l, b, xs, zs, rfl, rfl, hH, hB, hz, q⟩ := h
  cases rx
  cases ry
  obtain ⟨z, its, n, sl, r, hl, e⟩ := lstR I hH
  obtain ⟨z2, its2, n2, sl2, r2, hl2, e2⟩ := lstR I hB
  refine concat_meets ⟨_, e, rfl⟩ ⟨_, e2, rfl⟩ noFill_list_add seq_list_add F.slot_list_add F.entry_list_add (F.args_list_add_2 _ _) (list_addS l its.toArray n b its2.toArray n2 sl sl2 (by rw [List.size_toArray, List.size_toArray]; omega)) ⟨e, e2, ?_⟩
  have ea : its.toArray ++ its2.toArray = (its ++ its2).toArray := by simp
  rw [ea]
  exact ⟨.ref _, _, I.lnew (t' := s.toks) (r.append r2) (by rw [List.length_append]; omega), rfl, q _ I.fresh⟩
def rRepR (K : PySem.W.Frag) : R2 := fun x y H Q => ∃ l k xs, x = .ref l ∧ y = .int k ∧ SqL K H l xs ∧ -(2 ^ 63) ≤ k ∧ k < 2 ^ 63 ∧ xs.length * k.toNat ≤ sizeLine ∧
  ∀ p, H p = none → Q (.ref p) (upd H p (.lst (List.replicate k.toNat xs).flatten))
theorem op_repR : OpR X (binaryOp .Mult) (rRepR X.K) := by
  intro pins s σ H x y v u Q I rx ry h
  obtain ⟨l, k, xs, rfl, rfl, hH, h1, h2, hz, q⟩ := h
  cases rx
  obtain ⟨t, rfl⟩ := ry
  obtain ⟨z, its, n, sl, r, hl, e⟩ := lstR I hH
  have hlen : its.toArray.size * k.toNat ≤ sizeLine := by rw [List.size_toArray, ← hl]; exact hz
  have hcap : ¬ its.toArray.size * k.toNat > (2 ^ 63 - 1) / 8 := by
    have : (sizeLine : Nat) ≤ (2 ^ 63 - 1) / 8 := by decide
    omega
  have hfit : ¬ (!Builtin.List.listFitsIndex k) = true := by
    rw [fitsIndex_both h1 h2]
    exact Bool.false_ne_true
  have hlong : ¬ Builtin.List.listTooLong (its.toArray.size * k.toNat) = true := by
    rw [notLongL hlen]
    exact Bool.false_ne_true
  have hnew : List.foldl (fun x1 x2 => x1 ++ x2) #[] (List.replicate (if its.toArray.isEmpty = true then 0 else k.toNat) its.toArray) = (List.replicate k.toNat its).flatten.toArray := by
    have f0 : ∀ m : Nat, List.foldl (fun x1 x2 => x1 ++ x2) #[] (List.replicate m its.toArray) = (List.replicate m its).flatten.toArray := fun m => by
      have := foldl_rep its m []
      rw [List.nil_append] at this
      exact this
    rw [f0]
    cases its with
    | nil => simp
    | cons a r' => rw [if_neg (by simp)]
  have hfl : (List.replicate k.toNat its).flatten.length ≤ sizeLine := by
    rw [PyProof.Rows.lm_len_rep_flat, Nat.mul_comm, ← hl]; exact hz
  refine wpAny_binaryOp_repeat_ref (T := "list") (U := "int") (by decide) ⟨_, e, rfl⟩ (fun s' => typeIs_int s' k t) noFill_list_mul F.fills_int_mul F.slot_int_rmul repeat_list F.slot_int_index.lookup
    (call_meets F.slot_int_rmul (typeIs_int s k t) F.entry_int_rmul (F.args_int_rmul_2 _ _) (int_rmulS k t l its.toArray n sl)
      ⟨e, rfl, ⟨_, e, rfl⟩, call_meets F.slot_list_mul ⟨_, e, rfl⟩ F.entry_list_mul (F.args_list_mul_2 _ _) (list_mulS l its.toArray n sl k t hfit hcap hlong (by rw [hnew, List.size_toArray]; exact hfl)) ⟨e, ?_⟩⟩)
  rw [hnew]
  exact ⟨.ref _, _, I.lnew (t' := s.toks) (r.rep k.toNat) (by rw [PyProof.Rows.lm_len_rep_flat, Nat.mul_comm]; exact hz), rfl, q _ I.fresh⟩

/-! ### operators by data -/
theorem lim_le {n : Nat} (h : n ≤ LIM) : n ≤ sizeLine := Nat.le_trans h (by decide)
theorem rep_one {α : Type} (a : List α) : (List.replicate 1 a).flatten = a := by simp
theorem opd_add : OpD X (binaryOp .Add) oAdd := by
  refine ⟨_, OpR.or op_add (OpR.or op_catA (OpR.or op_catR op_add_str)), fun G H x y p q d e wx wy h Q k => ?_⟩
  unfold oAdd at h
  split at h
  · cases h
    exact .inl ⟨_, _, wx.int, wy.int, k _ G H (Ext.refl e) (.int _)⟩
  · split at h
    · rename_i hl
      cases h
      obtain ⟨a, vs, rfl, s1, s1', r1⟩ := wx.tup e
      obtain ⟨b, ws, rfl, s2, s2', r2⟩ := wy.tup e
      have l1 := r1.length
      have l2 := r2.length
      refine .inr (.inl ⟨a, b, vs, ws, rfl, rfl, s1, s2, lim_le (by omega), fun z => ?_, fun _ z => ?_, fun _ _ p hp => ?_⟩)
      · subst z
        cases r1
        exact k _ G H (Ext.refl e) wy.tupR
      · subst z
        cases r2
        rw [List.append_nil] at k
        exact k _ G H (Ext.refl e) wx.tupR
      · exact k _ _ _ (Ext.lay e hp) (.tup (.inl (.inl upd_same)) ((r1.append r2).up (Ex.new (e.back hp))))
    · cases h
  · split at h
    · rename_i hl
      cases h
      obtain ⟨a, vs, rfl, s1, r1⟩ := wx.lst e
      obtain ⟨b, ws, rfl, s2, r2⟩ := wy.lst e
      have l1 := r1.length
      have l2 := r2.length
      refine .inr (.inr (.inl ⟨a, b, vs, ws, rfl, rfl, s1, s2, lim_le (by omega), fun p hp => ?_⟩))
      exact k _ _ _ (Ext.lay e hp) (.lst (SqL.of upd_same) ((r1.append r2).up (Ex.new (e.back hp))))
    · cases h
  · split at h
    · rename_i hl
      cases h
      exact .inr (.inr (.inr ⟨_, _, wx.str, wy.str, lim_le hl, k _ G H (Ext.refl e) (.str _)⟩))
    · cases h
  · cases h
theorem opd_sub : OpD X (binaryOp .Sub) oSub := by
  refine ⟨_, op_sub, fun G H x y p q d e wx wy h Q k => ?_⟩
  unfold oSub at h
  split at h
  · cases h; exact ⟨_, _, wx.int, wy.int, k _ G H (Ext.refl e) (.int _)⟩
  · cases h
theorem small_iff {i : Int} (h : small i = true) : -(2 ^ 64) < i ∧ i < 2 ^ 64 := by
  unfold small at h
  rw [Bool.and_eq_true, decide_eq_true_eq, decide_eq_true_eq] at h
  omega
theorem opd_mul : OpD X (binaryOp .Mult) oMul := by
  refine ⟨_, OpR.or op_mul (OpR.or op_rep1 (OpR.or op_repT op_repR)), fun G H x y p q d e wx wy h Q k => ?_⟩
  unfold oMul at h
  split at h
  · split at h
    · rename_i i j hs
      cases h
      refine .inl ⟨_, _, wx.int, wy.int, ?_, k _ G H (Ext.refl e) (.int _)⟩
      rw [Bool.or_eq_true] at hs
      rcases hs with hs | hs
      · exact .inl (small_iff hs)
      · exact .inr (small_iff hs)
    · cases h
  · split at h
    · rename_i a kk hs
      cases h
      simp only [Bool.and_eq_true, decide_eq_true_eq] at hs
      obtain ⟨⟨⟨h1, h2⟩, h3⟩, h4⟩ := hs
      obtain ⟨b, vs, rfl, s1, s1', r1⟩ := wx.tup e
      have l1 := r1.length
      by_cases hk : kk = 1
      · subst hk
        have ek := wy.int
        refine .inr (.inl ⟨b, vs, rfl, ek, s1, ?_⟩)
        rw [show (1 : Int).toNat = 1 from rfl, rep_one] at k
        exact k _ G H (Ext.refl e) wx.tupR
      · refine .inr (.inr (.inl ⟨b, kk, vs, rfl, wy.int, s1, fun z => ?_, by omega, h3, by omega, fun p hp => ?_⟩))
        · subst z
          cases r1
          simp at h1
        · exact k _ _ _ (Ext.lay e hp) (.tup (.inl (.inl upd_same)) ((r1.rep _).up (Ex.new (e.back hp))))
    · cases h
  · split at h
    · rename_i a kk hs
      cases h
      simp only [Bool.and_eq_true, decide_eq_true_eq] at hs
      obtain ⟨⟨h1, h2⟩, h3⟩ := hs
      obtain ⟨b, vs, rfl, s1, r1⟩ := wx.lst e
      have l1 := r1.length
      refine .inr (.inr (.inr ⟨b, kk, vs, rfl, wy.int, s1, by omega, by omega, ?_, fun p hp => ?_⟩))
      · have : vs.length * kk.toNat ≤ 1000 * 1000 := Nat.mul_le_mul (by omega) (by omega)
        rw [sizeLine_eq]; omega
      · exact k _ _ _ (Ext.lay e hp) (.lst (SqL.of upd_same) ((r1.rep _).up (Ex.new (e.back hp))))
    · cases h
  · cases h
theorem opd_fdiv : OpD X (binaryOp .FloorDiv) oFdiv := by
  refine ⟨_, op_fdiv, fun G H x y p q d e wx wy h Q k => ?_⟩
  unfold oFdiv at h
  split at h
  · split at h
    · rename_i hc; cases h; exact ⟨_, _, wx.int, wy.int, hc, k _ G H (Ext.refl e) (.int _)⟩
    · cases h
  · cases h
theorem opd_mod : OpD X (binaryOp .Mod) oMod := by
  refine ⟨_, op_mod, fun G H x y p q d e wx wy h Q k => ?_⟩
  unfold oMod at h
  split at h
  · split at h
    · rename_i hc; cases h; exact ⟨_, _, wx.int, wy.int, hc, k _ G H (Ext.refl e) (.int _)⟩
    · cases h
  · cases h
theorem opd_eq (hu : X.A.units + 64 < cLine) : OpD X (compareOp .Eq) oEq := by
  refine ⟨_, op_eqD hu, fun G H x y p q d e wx wy h Q k => ?_⟩
  unfold oEq at h
  split at h
  · rename_i hs
    cases h
    rw [Bool.and_eq_true] at hs
    exact ⟨_, _, wx.dp e, wy.dp e, hs.1, hs.2, k _ G H (Ext.refl e) (.bl _)⟩
  · cases h
theorem opd_ne (hu : X.A.units + 64 < cLine) : OpD X (compareOp .NotEq) oNe := by
  refine ⟨_, op_neD hu, fun G H x y p q d e wx wy h Q k => ?_⟩
  unfold oNe at h
  split at h
  · rename_i hs
    cases h
    rw [Bool.and_eq_true] at hs
    exact ⟨_, _, wx.dp e, wy.dp e, hs.1, hs.2, k _ G H (Ext.refl e) (.bl _)⟩
  · cases h
theorem opd_cmp {op : CmpOp} {p : Int → Int → Bool} (h : OpR X (compareOp op) (rI0 fun i j => .bl (p i j))) : OpD X (compareOp op) (oCmp p) := by
  refine ⟨_, h, fun G H x y p q d e wx wy h Q k => ?_⟩
  unfold oCmp at h
  split at h
  · cases h; exact ⟨_, _, wx.int, wy.int, k _ G H (Ext.refl e) (.bl _)⟩
  · cases h
theorem opd_lt : OpD X (compareOp .Lt) oLt := opd_cmp op_lt
theorem opd_le : OpD X (compareOp .LtE) oLe := opd_cmp op_le
theorem opd_gt : OpD X (compareOp .Gt) oGt := opd_cmp op_gt
theorem opd_ge : OpD X (compareOp .GtE) oGe := opd_cmp op_ge
theorem opd_is : OpD X (compareOp .Is) oIs := by
  refine ⟨_, OpR.or op_isN op_isBl, fun G H x y p q d e wx wy h Q k => ?_⟩
  unfold oIs at h
  split at h
  · cases h
    refine .inl ⟨wy.non, ?_⟩
    rw [wx.isN]
    exact k _ G H (Ext.refl e) (.bl _)
  · cases h
    exact .inr ⟨_, _, wx.bl, wy.bl, k _ G H (Ext.refl e) (.bl _)⟩
  · cases h
theorem opd_isNot : OpD X (compareOp .IsNot) oIsNot := by
  refine ⟨_, OpR.or op_notN op_notBl, fun G H x y p q d e wx wy h Q k => ?_⟩
  unfold oIsNot at h
  split at h
  · cases h
    refine .inl ⟨wy.non, ?_⟩
    rw [wx.isN]
    exact k _ G H (Ext.refl e) (.bl _)
  · cases h
    exact .inr ⟨_, _, wx.bl, wy.bl, k _ G H (Ext.refl e) (.bl _)⟩
  · cases h
end

section
variable {X : Cx} {E : XK} {a b c e : Expr} {es : List Expr} {fa fb fc : DE} {ta tb tc : Ev → Out Bool} {pos : Pos} {rest : List Expr}
theorem pd_neg (ha : PVw X E a fa) : PD X E (.UnaryOp .USub a pos) (d1 oNeg fa) := PE.weak (pe_un un_neg ha) fun σ H Q ⟨G0, H0, ε, G, ev, q⟩ => by
  refine ⟨G0, H0, ε, G, ev, q.bind fun p x G1 H1 _ x1 w1 q1 => ?_⟩
  obtain ⟨d, hd, q2⟩ := q1.of
  unfold oNeg at hd
  split at hd
  · cases hd; exact ⟨_, w1.int, q2 _ G1 H1 (Ext.refl x1.gh) (.int _)⟩
  · cases hd
/-! tests -/
theorem tru_of {K : PySem.W.Frag} {G H : Hp} {x : V} {d : D} {k : Bool} (w : Vw K G H x d) (e : Ex G H) (h : tru d = some k) : TruV K x H k := by
  cases d with
  | non => rw [w.non]; cases h; rfl
  | bl b => rw [w.bl]; cases h; rfl
  | int i => rw [w.int]; cases h; rfl
  | str z =>
    rw [w.str]
    simp only [tru] at h
    split at h
    · rename_i hl; cases h; exact ⟨lim_le hl, rfl⟩
    · cases h
  | tup ds =>
    obtain ⟨a, vs, rfl, s1, _, r1⟩ := w.tup e
    cases h
    refine .inr (.inl ⟨vs, s1, ?_⟩)
    cases r1 <;> rfl
  | lst ds =>
    obtain ⟨a, vs, rfl, s1, r1⟩ := w.lst e
    cases h
    refine .inl ⟨vs, s1, ?_⟩
    cases r1 <;> rfl
theorem pt_of (ha : PVw X E a fa) (he : ∀ whole, isTrue a X.env whole = (do let v ← whole; standAt a.pos; holding [v] (truthy v)) := by intro _; rfl) : PTt X E a (dTest fa) :=
  PT.weak (pt_truth ha he) fun σ H Q ⟨G0, H0, ε, G, ev, q⟩ => by
    refine ⟨G0, H0, ε, G, ev, q.bind fun p x G1 H1 _ x1 w1 q1 => ?_⟩
    obtain ⟨k, hk, q2⟩ := q1.of
    exact ⟨k, tru_of w1 x1.gh hk, q2 k G1 H1 (Ext.refl x1.gh) rfl⟩
theorem pt_no (ha : PTt X E a ta) : PTt X E (.UnaryOp .Not a pos) (dNotT ta) := PT.weak (pt_not ha) fun σ H Q ⟨G0, H0, ε, G, ev, q⟩ => by
  refine ⟨G0, H0, ε, G, ev, q.bind fun p x G1 H1 _ x1 w1 q1 => ?_⟩
  cases w1
  exact q1 _ G1 H1 (Ext.refl x1.gh) rfl
/-- and, or of tests -/
abbrev PWt (X : Cx) (E : XK) (e : Expr) (f : Ev → Out Bool) : Prop := PW X e (tG X.K X.mg E rB f)
theorem PW.weak {t t' : TT} (h : PW X e t) (f : ∀ σ H Q, t' σ H Q → t σ H Q) : PW X e t' := ⟨fun wh pins s σ H Q I q => h.run wh pins s σ H Q I (f σ H Q q)⟩
theorem pw_a1 (ha : PTt X E a ta) : PWt X E (.BoolOp .And [a] pos) ta := pw_and1 ha
theorem pw_o1 (ha : PTt X E a ta) : PWt X E (.BoolOp .Or [a] pos) ta := pw_or1 ha
theorem pw_a (ha : PTt X E a ta) (hb : PWt X E (.BoolOp .And (b :: rest) pos) tb) : PWt X E (.BoolOp .And (a :: b :: rest) pos) (dAndT ta tb) := PW.weak (pw_and ha hb) fun σ H Q ⟨G0, H0, ε, G, ev, q⟩ => by
  refine ⟨G0, H0, ε, G, ev, q.bind fun p x G1 H1 _ x1 w1 q1 => ?_⟩
  cases w1
  cases p with
  | true => exact ⟨G0, H0, ε, G1, ev.on x1, q1⟩
  | false => exact q1 _ G1 H1 (Ext.refl x1.gh) rfl
theorem pw_o (ha : PTt X E a ta) (hb : PWt X E (.BoolOp .Or (b :: rest) pos) tb) : PWt X E (.BoolOp .Or (a :: b :: rest) pos) (dOrT ta tb) := PW.weak (pw_or ha hb) fun σ H Q ⟨G0, H0, ε, G, ev, q⟩ => by
  refine ⟨G0, H0, ε, G, ev, q.bind fun p x G1 H1 _ x1 w1 q1 => ?_⟩
  cases w1
  cases p with
  | false => exact ⟨G0, H0, ε, G1, ev.on x1, q1⟩
  | true => exact q1 _ G1 H1 (Ext.refl x1.gh) rfl
theorem pt_w (h : PWt X E e ta) : PTt X E e ta := PW.pt h
/-- .. as values -/
theorem pd_one {op} (h : PD X E a fa) : PD X E (.BoolOp op [a] pos) fa := pe_one h
theorem pd_or (ha : PD X E a fa) (hb : PD X E (.BoolOp .Or (b :: rest) pos) fb) : PD X E (.BoolOp .Or (a :: b :: rest) pos) (dOr fa fb) := PE.weak (pe_orT ha hb) fun σ H Q ⟨G0, H0, ε, G, ev, q⟩ => by
  refine ⟨G0, H0, ε, G, ev, q.bind fun p x G1 H1 _ x1 w1 q1 => ?_⟩
  cases hk : tru p with
  | none => rw [hk] at q1; exact q1.elim
  | some k =>
    rw [hk] at q1
    refine ⟨k, tru_of (.v w1) x1.gh hk, ?_⟩
    cases k with
    | true => exact q1 _ G1 H1 (Ext.refl x1.gh) w1
    | false => exact ⟨G0, H0, ε, G1, ev.on x1, q1⟩
theorem pd_and (ha : PD X E a fa) (hb : PD X E (.BoolOp .And (b :: rest) pos) fb) : PD X E (.BoolOp .And (a :: b :: rest) pos) (dAnd fa fb) := PE.weak (pe_andT ha hb) fun σ H Q ⟨G0, H0, ε, G, ev, q⟩ => by
  refine ⟨G0, H0, ε, G, ev, q.bind fun p x G1 H1 _ x1 w1 q1 => ?_⟩
  cases hk : tru p with
  | none => rw [hk] at q1; exact q1.elim
  | some k =>
    rw [hk] at q1
    refine ⟨k, tru_of (.v w1) x1.gh hk, ?_⟩
    cases k with
    | false => exact q1 _ G1 H1 (Ext.refl x1.gh) w1
    | true => exact ⟨G0, H0, ε, G1, ev.on x1, q1⟩
theorem pd_not (ha : PVw X E a fa) : PD X E (.UnaryOp .Not a pos) (dNot fa) := PE.weak (pe_notT ha) fun σ H Q ⟨G0, H0, ε, G, ev, q⟩ => by
  refine ⟨G0, H0, ε, G, ev, q.bind fun p x G1 H1 _ x1 w1 q1 => ?_⟩
  cases hk : tru p with
  | none => rw [hk] at q1; exact q1.elim
  | some k =>
    rw [hk] at q1
    exact ⟨k, tru_of w1 x1.gh hk, q1 _ G1 H1 (Ext.refl x1.gh) (.bl _)⟩
theorem pd_if (hc : PTt X E c tc) (ha : PD X E a fa) (hb : PD X E b fb) : PD X E (.IfExp c a b pos) (dIf tc fa fb) := PE.weak (pe_ifExp hc ha hb) fun σ H Q ⟨G0, H0, ε, G, ev, q⟩ => by
  refine ⟨G0, H0, ε, G, ev, q.bind fun p x G1 H1 _ x1 w1 q1 => ?_⟩
  cases w1
  cases p with
  | true => exact ⟨G0, H0, ε, G1, ev.on x1, q1⟩
  | false => exact ⟨G0, H0, ε, G1, ev.on x1, q1⟩
/-! arguments, displays -/
theorem pa_n : PAd X E [] (dArgs []) := PA.weak pa_nil fun σ H Q ⟨G0, H0, ε, G, ev, q⟩ => q [] G H (Ext.refl ev.gh) .nil
theorem pa_c {fl : List DE} (ha : PD X E e fa) (hr : PAd X E es (dArgs fl)) (hs : starEach (e :: es) X.env = (false, eval e X.env) :: starEach es X.env := by rfl) : PAd X E (e :: es) (dArgs (fa :: fl)) :=
  PA.weak (pa_cons ha hr hs) fun σ H Q ⟨G0, H0, ε, G, ev, q⟩ => by
    refine ⟨G0, H0, ε, G, ev, Post.bind q fun p x G1 H1 _ x1 w1 q1 => ?_⟩
    refine ⟨G0, H0, ε, G1, ev.on x1, Post.bind q1 fun ps xs G2 H2 _ x2 w2 q2 => ?_⟩
    exact q2 _ G2 H2 (Ext.refl x2.gh) (.cons (w1.up x2.gg) w2)
theorem pv_n : PAw X E [] (dArgs []) := PA.weak pa_nil fun σ H Q ⟨G0, H0, ε, G, ev, q⟩ => q [] G H (Ext.refl ev.gh) .nil
theorem pv_c {fl : List DE} (ha : PVw X E e fa) (hr : PAw X E es (dArgs fl)) (hs : starEach (e :: es) X.env = (false, eval e X.env) :: starEach es X.env := by rfl) : PAw X E (e :: es) (dArgs (fa :: fl)) :=
  PA.weak (pa_cons ha hr hs) fun σ H Q ⟨G0, H0, ε, G, ev, q⟩ => by
    refine ⟨G0, H0, ε, G, ev, Post.bind q fun p x G1 H1 _ x1 w1 q1 => ?_⟩
    refine ⟨G0, H0, ε, G1, ev.on x1, Post.bind q1 fun ps xs G2 H2 _ x2 w2 q2 => ?_⟩
    exact q2 _ G2 H2 (Ext.refl x2.gh) (.cons (w1.on x2) w2)
theorem dArgs_len : ∀ {fl : List DE} {ε : Ev} {ds : List D}, dArgs fl ε = .ok ds → ds.length = fl.length
  | [], ε, ds, h => by cases h; rfl
  | f :: fl, ε, ds, h => by
    unfold dArgs at h
    cases h1 : f ε with
    | ok d =>
      rw [h1] at h
      simp only [Out.bind] at h
      cases h2 : dArgs fl ε with
      | ok ds' => rw [h2] at h; cases h; rw [List.length_cons, List.length_cons, dArgs_len h2]
      | rs c => rw [h2] at h; cases h
      | no => rw [h2] at h; cases h
    | rs c => rw [h1] at h; cases h
    | no => rw [h1] at h; cases h
theorem pd_tup {fl : List DE} {x1} (h : PAd X E es (dArgs fl)) (hn : fl.length ≤ LIM := by decide) : PD X E (.Tuple es x1 pos) (dTup fl) := PE.weak (pe_tup h) fun σ H Q ⟨G0, H0, ε, G, ev, q⟩ => by
  refine ⟨G0, H0, ε, G, ev, Post.bind q fun ps xs G1 H1 hd x1 w1 q1 => ⟨lim_le ?_, fun p hp => ?_⟩⟩
  · rw [w1.length, dArgs_len hd]; exact hn
  · exact q1 _ _ _ (Ext.lay x1.gh hp) (.tup (.inl (.inl upd_same)) (w1.up (Ex.new (x1.gh.back hp))))
theorem pf_lst {fl : List DE} (h : PAd X E es (dArgs fl)) (hn : fl.length ≤ LIM := by decide) : PF X E (.List es pos) (lLst fl) := PE.weak (pe_lst h) fun σ H Q ⟨G0, H0, ε, G, ev, q⟩ => by
  refine ⟨G0, H0, ε, G, ev, ?_⟩
  unfold lLst at q
  cases h1 : dArgs fl ε with
  | ok ds =>
    rw [h1] at q
    intro xs G1 H1 x1 w1
    refine ⟨lim_le ?_, fun p hp => ?_⟩
    · rw [w1.length, dArgs_len h1]; exact hn
    · exact q p xs G1 _ (x1.trans (Ext.open_ x1.gh hp)) (x1.hh.back hp) upd_same (x1.gh.back hp) w1
  | rs c => rw [h1] at q; exact q
  | no => rw [h1] at q; exact q
/-! subscripts -/
theorem at_get {K : PySem.W.Frag} {G : Hp} {vs : List V} {ds : List D} {i : Int} {d : D} (r : RpAll K G vs ds) (h : atI ds i = some d) : ∃ v, atI vs i = some v ∧ Rp K G v d := by
  unfold atI at h ⊢
  rw [r.length]
  cases hj : ixN ds.length i with
  | none => rw [hj] at h; cases h
  | some j =>
    rw [hj] at h
    obtain ⟨v, h1, h2⟩ := r.getD h
    exact ⟨v, h1, h2⟩
theorem pd_ix (ha : PVw X E a fa) (hb : PVw X E b fb) (hs : PlainIx b := by exact fun _ _ => rfl) : PD X E (.Subscript a b pos) (d2 oIx fa fb) :=
  PE.weak (pe_ix ix_seq ha hb hs) (op_of fun G H x y p q d e wx wy h Q k => by
    unfold oIx at h
    split at h
    · obtain ⟨u, vs, rfl, s1, _, r1⟩ := wx.tup e
      obtain ⟨v, h1, h2⟩ := at_get r1 h
      exact .inr (.inl ⟨u, vs, _, v, rfl, wy.int, s1, h1, k _ G H (Ext.refl e) h2⟩)
    · obtain ⟨u, vs, rfl, s1, r1⟩ := wx.lst e
      obtain ⟨v, h1, h2⟩ := at_get r1 h
      exact .inl ⟨u, vs, _, v, rfl, wy.int, s1, h1, k _ G H (Ext.refl e) h2⟩
    · split at h
      · rename_i z i hl
        cases hc : atI z.cps.toList i with
        | none => rw [hc] at h; cases h
        | some cc =>
          rw [hc] at h
          cases h
          exact .inr (.inr ⟨z, i, cc, wx.str, wy.int, lim_le hl, hc, k _ G H (Ext.refl e) (.str _)⟩)
      · cases h
    · cases h)
/-- an optional part of a slice -/
abbrev rO : Option Int → Option Int → Hp → Hp → Prop := fun a b _ _ => a = b
abbrev PPt (X : Cx) (E : XK) (e : Option Expr) (f : Ev → Out (Option Int)) : Prop := PO X e (tG X.K X.mg E rO f)
theorem PO.weak {oe : Option Expr} {t t' : TO} (h : PO X oe t) (f : ∀ σ H Q, t' σ H Q → t σ H Q) : PO X oe t' := ⟨fun pins s σ H Q I q => h.run pins s σ H Q I (f σ H Q q)⟩
theorem pp_n : PPt X E none (dPart none) := PO.weak po_none fun σ H Q ⟨G0, H0, ε, G, ev, q⟩ => q none G H (Ext.refl ev.gh) rfl
theorem pp_s (h : PVw X E e fa) : PPt X E (some e) (dPart (some fa)) := PO.weak (po_some h) fun σ H Q ⟨G0, H0, ε, G, ev, q⟩ => by
  refine ⟨G0, H0, ε, G, ev, Post.bind q fun p x G1 H1 _ x1 w1 q1 => ?_⟩
  cases p with
  | int i => exact ⟨i, w1.int, q1 _ G1 H1 (Ext.refl x1.gh) rfl⟩
  | _ => exact q1.elim
theorem cut_len {α : Type} (xs : List α) (lo hi : Option Int) : (cut xs lo hi).length ≤ xs.length := by
  unfold cut
  rw [List.length_take, List.length_drop]
  omega
theorem RpAll.cut {K : PySem.W.Frag} {G : Hp} {vs : List V} {ds : List D} (r : RpAll K G vs ds) (lo hi : Option Int) : RpAll K G (cutV vs lo hi) (PL.cut ds lo hi) := by
  unfold cutV PL.cut
  rw [r.length]
  exact (r.drop _).take _
theorem cut_all {α : Type} (xs : List α) (lo hi : Option Int) (h : HT.sIx xs.length 0 lo = 0 ∧ HT.sIx xs.length xs.length hi = xs.length) : cut xs lo hi = xs := by
  unfold cut
  rw [h.1, h.2, List.drop_zero, Nat.sub_zero, List.take_length]
theorem pd_sl {lo hi : Option Expr} {fl fh : Option DE} {p2 : Pos} (ha : PVw X E a fa) (hl : PPt X E lo (dPart fl)) (hh : PPt X E hi (dPart fh)) : PD X E (.Subscript a (.Slice lo hi none p2) pos) (dSl fa fl fh) :=
  PE.weak (pe_slice (SlR.or sl_tupA (SlR.or sl_list sl_str)) ha hl hh) fun σ H Q ⟨G0, H0, ε, G, ev, q⟩ => by
    refine ⟨G0, H0, ε, G, ev, Post.bind q fun p x G1 H1 _ x1 w1 q1 => ?_⟩
    refine ⟨G0, H0, ε, G1, ev.on x1, Post.bind q1 fun l l' G2 H2 _ x2 e2 q2 => ?_⟩
    cases e2
    refine ⟨G0, H0, ε, G2, (ev.on x1).on x2, Post.bind q2 fun h h' G3 H3 _ x3 e3 q3 => ?_⟩
    cases e3
    obtain ⟨d, hd, q4⟩ := q3.of
    have w3 := (w1.on x2).on x3
    unfold oSl at hd
    split at hd
    · cases hd
      obtain ⟨u, vs, rfl, s1, _, r1⟩ := w3.tup x3.gh
      refine .inl ⟨u, vs, rfl, s1, fun z => ?_, fun z p hp => ?_⟩
      · have z' : HT.sIx _ 0 l = 0 ∧ HT.sIx _ _ h = _ := z
        rw [r1.length] at z'
        have e5 := cut_all _ l h z'
        rw [e5] at q4
        exact q4 _ G3 H3 (Ext.refl x3.gh) w3.tupR
      · exact q4 _ _ _ (Ext.lay x3.gh hp) (.tup (.inl (.inl upd_same)) ((r1.cut l h).up (Ex.new (x3.gh.back hp))))
    · cases hd
      obtain ⟨u, vs, rfl, s1, r1⟩ := w3.lst x3.gh
      refine .inr (.inl ⟨u, vs, rfl, s1, fun p hp => ?_⟩)
      exact q4 _ _ _ (Ext.lay x3.gh hp) (.lst (SqL.of upd_same) ((r1.cut l h).up (Ex.new (x3.gh.back hp))))
    · split at hd
      · rename_i hz
        cases hd
        exact .inr (.inr ⟨_, w3.str, lim_le hz, q4 _ G3 H3 (Ext.refl x3.gh) (.str _)⟩)
      · cases hd
    · cases hd
end
end PL

set_option Elab.async false
set_option linter.all false
set_option maxRecDepth 100000
set_option maxHeartbeats 2000000
/-! PL3: what is walked; calls. -/
namespace PL
open PySem PySem.Spec PyProof.Rows L2
open AutoSeq1 (wpAny_loadPart')

/-! ### enumerate of a tuple -/
theorem meets_enum1 {v : Value} {o : Obj} {H : Heap → Prop} (B : Begins v o H) :
    Meets (Builtin.«enumerate.__new__» ⟨[.type "enumerate", v], []⟩) (fun _ R s => H s.heap ∧
      R (.ok (.ret (.ref (s.heap.push o).objs.size))) { s with heap := (s.heap.push o).push { cls := .type "enumerate", data := .fields #[.none, .bool false, .ref s.heap.objs.size, rawInt 0, .none, .none] } }) :=
  .of_wp fun prog w A R s h => by
    obtain ⟨hp, g, d, tk, os⟩ := s
    obtain ⟨h1, h⟩ := h
    have hsub := sub_enumerate
    have q1 : ∀ {A' : Around} {E : Value → Shared → Prop} {Q : Value → Shared → Prop}, Q (.ref hp.objs.size) ⟨(hp.push o), g, d, tk, os⟩ → wpAny (model prog w) A' (pyIter v) Q E ⟨hp, g, d, tk, os⟩ :=
      fun q => B.iter prog w _ _ ⟨hp, g, d, tk, os⟩ _ (B.keeps _ _ h1 fun b o' e => e) q
    wp_walk using q1
    refine wpAny_stack_any fun st => wpAny_pure ?_
    split
    · rename_i c _ _ _ _ _
      cases (c == Value.type "enumerate") <;> (wp_walk using q1; exact ⟨_, rfl, h⟩)
    · wp_walk using q1
      exact ⟨_, rfl, h⟩
theorem enum1_begins {prog : Program} {w : World} {A : Around} {E : Value → Shared → Prop} {s : Shared} {v : Value} {o : Obj} {H : Heap → Prop} {Q : Value → Shared → Prop} (B : Begins v o H) (h1 : H s.heap)
    (h : ∀ h', IsEnum h' (s.heap.objs.size + 1) s.heap.objs.size 0 .none → h'.get? s.heap.objs.size = some o →
      (∀ b o, s.heap.get? b = some o → h'.get? b = some o) → Q (.ref (s.heap.objs.size + 1)) { s with heap := h' }) :
    wpAny (model prog w) A (call (.type "enumerate") [v]) Q E s := by
  refine callType_new F.called_enumerate (by decide) (F.typeCall_enumerate_1 _) (F.newCall_enumerate_1 _) (fun obj => F.args_object_init_2 obj _) F.entry_enumerate_new (meets_enum1 B) ⟨h1, ?_⟩
  have hz : (s.heap.push o).objs.size = s.heap.objs.size + 1 := Heap.size_push ..
  have he := Heap.get?_push_size (s.heap.push o) (o := { cls := .type "enumerate", data := .fields #[.none, .bool false, .ref s.heap.objs.size, rawInt 0, .none, .none] }) rfl
  rw [hz] at he
  show _ ∧ _
  rw [hz]
  exact ⟨⟨_, he, rfl⟩, h _ he (Heap.get?_push_of_some _ (Heap.get?_push_size _ B.free)) fun b o x => Heap.get?_push_of_some _ (Heap.get?_push_of_some _ x)⟩
def IteT (K : PySem.W.Frag) (a : Addr) : It :=
  ⟨fun i H => ∃ (xs : List V) (x : V), SqT K H a xs ∧ xs[i]? = some x, fun i H v H' => ∃ T x, v = .ref T ∧ H T = none ∧ H' = upd H T (.tup [.int (i : Nat), x]) ∧ ∀ xs, SqT K H a xs → xs[i]? = some x, fun i H => ∃ xs : List V, SqT K H a xs ∧ xs.length ≤ i⟩
theorem turn_enumT {P : Program} {w : World} {K : PySem.W.Frag} {elts : List Expr} {kk : Nat} {tpos : Pos} (a e it : Addr) :
    Turn P w K (.Tuple elts kk tpos) (IteT K a) [e, it] e (fun i h => (∃ old, IsEnum h e it ((i : Nat) : Int) old) ∧ h.IsTupleIter it a i ∧ e ≠ it) where
  mem := by simp
  obj := fun i h st b hb => by
    obtain ⟨⟨old, he⟩, ⟨o, ho, hc, hd⟩, _⟩ := st
    have e' : b = e ∨ b = it := by simpa using hb
    rcases e' with z | z
    · rw [z]; exact ⟨_, he, fun v q => nomatch q⟩
    · rw [z]; exact ⟨o, ho, fun v q => by rw [hd] at q; cases q⟩
  keep := fun i h h' st k => let ⟨⟨old, he⟩, hi, hne⟩ := st; ⟨⟨old, k e (by simp) _ he⟩, hi.at fun o q => k it (by simp) o q, hne⟩
  item := by
    intro X hP hw hK hc i pins s σ H E I hf st hg
    subst hP hw hK
    obtain ⟨⟨old, he⟩, hit, hne⟩ := st
    obtain ⟨xs, x, hq, hx⟩ := hg
    obtain ⟨its, rv, p, hz⟩ := I.tuple hq
    obtain ⟨u, hu, ru⟩ := rv.get hx
    have hel : e < s.heap.objs.size := Heap.lt_size he
    have hil : it < s.heap.objs.size := by obtain ⟨_, q, _⟩ := hit; exact Heap.lt_size q
    have nat : a ≠ it := fun z => by
      obtain ⟨o1, h1, c1, _⟩ := p
      obtain ⟨o2, h2, c2, _⟩ := hit
      rw [z, h2] at h1
      cases h1
      rw [c2] at c1
      exact absurd (Value.type.inj c1) (by decide)
    have nae : e ≠ a := fun z => by
      obtain ⟨o1, h1, c1, _⟩ := p
      rw [← z, he] at h1
      cases h1
      exact absurd (Value.type.inj c1) (by decide)
    have DD := Draws.tuple (prog := X.prog) (w := X.w) (A := X.A.in1) (I.ok.hd hc) it a nat its.toArray
    have hiz : i < its.toArray.size := by rw [List.size_toArray]; exact lt_of_get hu
    refine wpAny_pyNext_enum_itemD DD he ⟨hit, p⟩ hiz hne (by simp [hne, nae]) fun x' h' tk hx' ho hst' hT hsz hk => ?_
    have ex : x' = u := by
      have : its.toArray[i]? = some x' := hx'
      rw [← Array.getElem?_toList] at this
      exact (Option.some.inj (hu.symm.trans this)).symm
    subst ex
    refine ⟨_, rfl, wpAny_letOwnedTupleGo_enum (s := { s with heap := h', toks := tk + 1 }) ho fun h'' he' sb => ?_⟩
    have hT2 : h''.get? s.heap.objs.size = some { cls := .type "tuple", data := .seq #[.int i tk, x'] } := (sb.2 _ (Nat.ne_of_gt hel)).trans hT
    have new : ObjOk X.prog X.w (upd H s.heap.objs.size (.tup [.int (i : Nat), x])) h'' s.heap.objs.size (.tup [.int (i : Nat), x]) :=
      ⟨by show 2 ≤ sizeLine; decide, [.int i tk, x'], .cons ⟨_, rfl⟩ (.cons ru .nil), ⟨_, hT2, rfl, _, rfl⟩⟩
    have I1 : Inv X pins σ (upd H s.heap.objs.size (.tup [.int (i : Nat), x])) { s with heap := h'', toks := tk + 1 } :=
      I.turnedNew (ch := [e, it]) (fun b ob hb q => (sb.2 b (fun z => hb (by simp [z]))).trans (hk b ob (fun z => hb (by simp [z])) (fun z => hb (by simp [z])) q)) hf (Nat.le_refl _) new
    refine ⟨.ref s.heap.objs.size, _, I1, rfl, ⟨_, x, rfl, I.hok.fresh (Nat.le_refl _), rfl, fun ys hy => by rw [I.tuple_inj hy hq]; exact hx⟩, ⟨⟨x', ?_⟩, hst'.1.at fun o q => (sb.2 it (Ne.symm hne)).trans q, hne⟩, fun b hb => ?_⟩
    · have e1 : ((i + 1 : Nat) : Int) = (i : Int) + 1 := by omega
      rw [e1]; exact he'
    · have hb' : b < s.heap.objs.size := by
        have e' : b = e ∨ b = it := by simpa using hb
        rcases e' with z | z
        · rw [z]; exact hel
        · rw [z]; exact hil
      rw [upd_ne (Nat.ne_of_lt hb')]
      exact (hf b hb).1
  done := by
    intro X hP hw hK hc i pins s σ H E I hf st hg
    subst hP hw hK
    obtain ⟨⟨old, he⟩, hit, hne⟩ := st
    obtain ⟨xs, hq, hx⟩ := hg
    obtain ⟨its, rv, p, hz⟩ := I.tuple hq
    obtain ⟨f0, f1, f2, f3, f4, f5⟩ := hf it (by simp)
    have hl := rv.length
    have hT : s.TypeIs (.ref e) "enumerate" := ⟨_, he, rfl⟩
    unfold pyNext
    refine wpAny_bind (wpAny_attempt (wpAny_callSpecial?_slot (name := Str.ofString "__next__") hT F.slot_enumerate_next
      (wpAny_call_entry F.slot_enumerate_next hT F.entry_enumerate_next ?_ (F.args_enumerate_next_1 _))))
    show wpAny _ _ (field (.ref e) 2 >>= _) _ _ _
    refine wpAny_bind (wpAny_field he rfl (x := .ref it) rfl ?_)
    refine wpAny_bind (wpAny_nextOf_tuple_end (I.ok.hd hc) hit p (by simp; omega) fun h' x he' hx' => ?_)
    obtain ⟨o, ho, hco⟩ := hx'
    refine wpAny_bind (wpAny_isInstance (T := "StopIteration") (b := true) ⟨o, ho, hco⟩ isSubtype_stop ?_)
    exact wpAny_pure ⟨rfl, I.turned (t' := s.toks) (fun b o hb q => he' b o hb q) f0 f1 f3 f4 f5⟩
  self := fun A i s Q E st h => let ⟨⟨_, he⟩, _⟩ := st; wpAny_pyIter_enum he h
section
variable {X : Cx} {tg : Expr}
/-- enumerate of a list or a tuple -/
def iEnumA (K : PySem.W.Frag) (ta : TA) : TI := fun σ H R => ta σ H fun vs H1 => ∃ a xs, vs = [.ref a] ∧ ((SqL K H1 a xs ∧ R (Ite K a) H1) ∨ (SqT K H1 a xs ∧ R (IteT K a) H1))
theorem pi_enumA {e : Expr} {ta : TA} {p pos tpos : Pos} {elts : List Expr} {kk : Nat} (hg : Gl X "enumerate") (hm : X.mg "enumerate" = none) (ha : PA X [e] ta) (hs : starEach [e] X.env = [(false, eval e X.env)] := by rfl) :
    PI X (.Tuple elts kk tpos) (.Call (.Name "enumerate" p) [e] [] pos) (iEnumA X.K ta) := by
  refine ⟨fun pins s σ H R I h => ?_⟩
  refine Call_ (ld_blt I hg hm boot_enumerate (PyProof.Rows.callWith_type1 (thn (ha.run pos pins s σ H _ I h) fun us s1 ⟨vs, H1, I1, r1, q1⟩ => ?_) hs rfl))
  obtain ⟨a, xs, ex, q⟩ := q1
  subst ex
  cases r1 with
  | cons r rr =>
    cases rr
    cases r
    have fr : ∀ b ∈ [s1.heap.objs.size + 1, s1.heap.objs.size], FpOk X pins H1 b := fun b hb => by
      have e' : b = s1.heap.objs.size + 1 ∨ b = s1.heap.objs.size := by simpa using hb
      have hle : s1.heap.objs.size ≤ b := by
        rcases e' with z | z
        · rw [z]; exact Nat.le_add_right _ _
        · rw [z]; exact Nat.le_refl _
      exact I1.fpOk hle (I1.hok.fresh hle)
    rcases q with ⟨hq, q⟩ | ⟨hq, q⟩
    · obtain ⟨its, rv, p', hz⟩ := I1.list hq
      refine enum1_begins (begins_list a its.toArray) p'.isList fun h' he hit hk => wpAny_pyIter_enum he ?_
      have I2 : Inv X pins σ H1 { s1 with heap := h' } := I1.kept (t' := s1.toks) hk
      exact ⟨_, _, _, _, H1, rfl, I2, turn_enum a (s1.heap.objs.size + 1) s1.heap.objs.size, ⟨⟨.none, he⟩, ⟨_, hit, rfl, rfl⟩, Nat.succ_ne_self _⟩, fr, q⟩
    · obtain ⟨its, rv, p', hz⟩ := I1.tuple hq
      refine enum1_begins (begins_tuple a its.toArray) p' fun h' he hit hk => wpAny_pyIter_enum he ?_
      have I2 : Inv X pins σ H1 { s1 with heap := h' } := I1.kept (t' := s1.toks) hk
      exact ⟨_, _, _, _, H1, rfl, I2, turn_enumT a (s1.heap.objs.size + 1) s1.heap.objs.size, ⟨⟨.none, he⟩, ⟨_, hit, rfl, rfl⟩, Nat.succ_ne_self _⟩, fr, q⟩
/-- a list, a tuple or a text is walked -/
def iSeq (K : PySem.W.Frag) (tl : TE) : TI := fun σ H R => tl σ H fun x H1 => (∃ a xs, x = .ref a ∧ SqL K H1 a xs ∧ R (Itl K a) H1) ∨ (∃ a xs, x = .ref a ∧ SqT K H1 a xs ∧ R (Itt K a) H1) ∨ ∃ z, x = .str z ∧ R (Its z) H1
theorem pi_seq {l : Expr} {tl : TE} (hl : PE X l tl) : PI X tg l (iSeq X.K tl) := by
  refine ⟨fun pins s σ H R I h => ?_⟩
  refine thn (hl.run pins s σ H _ I h) fun v s1 ⟨x, H1, I1, r1, q1⟩ => ?_
  rcases q1 with ⟨a, xs, e, hq, q⟩ | ⟨a, xs, e, hq, q⟩ | ⟨z, e, q⟩
  · subst e
    cases r1
    obtain ⟨its, rv, p, hz⟩ := I1.list hq
    refine wpAny_pyIter_list p.isList ⟨_, [s1.heap.objs.size], _, _, H1, rfl, I1.kept (t' := s1.toks) fun b o e => Heap.get?_push_of_some _ e, turn_list a _, ⟨_, Heap.get?_push_size _ rfl, rfl, rfl⟩, fun b hb => ?_, q⟩
    rw [List.mem_singleton.mp hb]
    exact I1.fpOk (Nat.le_refl _) (I1.hok.fresh (Nat.le_refl _))
  · subst e
    cases r1
    obtain ⟨its, rv, p, hz⟩ := I1.tuple hq
    refine wpAny_pyIter_tuple (items := its.toArray) p ⟨_, [s1.heap.objs.size], _, _, H1, rfl, I1.kept (t' := s1.toks) fun b o e => Heap.get?_push_of_some _ e, turn_tuple a _, ⟨_, Heap.get?_push_size _ rfl, rfl, rfl⟩, fun b hb => ?_, q⟩
    rw [List.mem_singleton.mp hb]
    exact I1.fpOk (Nat.le_refl _) (I1.hok.fresh (Nat.le_refl _))
  · subst e
    obtain ⟨t, rfl⟩ := r1
    cases ha : z.cps.all (· < 128) with
    | false => exact wpAny_pyIter_wide ha (pi_one (tk := s1.toks) I1 _ (turn_str _ z t _ (.inr rfl)) ⟨_, Heap.get?_push_size _ rfl, rfl, rfl⟩ q)
    | true => exact wpAny_pyIter_ascii ha (pi_one (tk := s1.toks) I1 _ (turn_str _ z t _ (.inl rfl)) ⟨_, Heap.get?_push_size _ rfl, rfl, rfl⟩ q)
end
end PL

set_option Elab.async false
set_option linter.all false
set_option maxRecDepth 100000
set_option maxHeartbeats 2000000
/-! PL4: walks, targets, comprehensions, statements, defs. -/
namespace PL
open PySem PySem.Spec PyProof.Rows L2

/-! ### walks -/
def ItOk (K : PySem.W.Frag) (G : Hp) (J : It) (ds : List D) : Prop :=
  ∀ G2 H2, Ex G G2 → Ex G2 H2 → ∀ i : Nat, (∀ d, ds[i]? = some d → J.go i H2 ∧ ∀ x H3, J.yld i H2 x H3 → ∃ G3, Ext G2 H2 G3 H3 ∧ Rp K G3 x d) ∧ (ds[i]? = none → J.stop i H2)
abbrev rIt (K : PySem.W.Frag) : List D → It → Hp → Hp → Prop := fun ds J G _ => ItOk K G J ds
abbrev PDI (X : Cx) (E : XK) (tg iter : Expr) (f : Ev → Out (List D)) : Prop := PI X tg iter (tG X.K X.mg E (rIt X.K) f)
theorem PI.weak {X : Cx} {tg e : Expr} {t t' : TI} (h : PI X tg e t) (f : ∀ σ H Q, t' σ H Q → t σ H Q) : PI X tg e t' := ⟨fun pins s σ H Q I q => h.run pins s σ H Q I (f σ H Q q)⟩
def oSeq : D → Option (List D)
  | .tup ds => some ds
  | .lst ds => some ds
  | .str z => some (z.cps.toList.map fun c => .str ⟨#[c]⟩)
  | _ => none
@[simp] theorem oSeq_tup (ds : List D) : oSeq (.tup ds) = some ds := rfl
@[simp] theorem oSeq_lst (ds : List D) : oSeq (.lst ds) = some ds := rfl
@[simp] theorem oSeq_str (z : Str) : oSeq (.str z) = some (z.cps.toList.map fun c => .str ⟨#[c]⟩) := rfl
@[simp] def iSq (f : DE) (ε : Ev) : Out (List D) := (f ε).bind fun d => .of (oSeq d)
def rng (lo : Int) (n : Nat) : List D := (List.range n).map fun (k : Nat) => D.int (lo + k)
def r1F : D → Out (List D)
  | .int n => if -1000000 ≤ n ∧ n ≤ 1000000 then .ok (rng 0 n.toNat) else .no
  | _ => .no
def r2F : D → D → Out (List D)
  | .int a, .int b => if (-1000000 ≤ a ∧ a ≤ 1000000) ∧ -1000000 ≤ b ∧ b ≤ 1000000 then .ok (rng a (b - a).toNat) else .no
  | _, _ => .no
@[simp] theorem r1F_int (n : Int) : r1F (.int n) = if -1000000 ≤ n ∧ n ≤ 1000000 then .ok (rng 0 n.toNat) else .no := rfl
@[simp] theorem r2F_int (a b : Int) : r2F (.int a) (.int b) = if (-1000000 ≤ a ∧ a ≤ 1000000) ∧ -1000000 ≤ b ∧ b ≤ 1000000 then .ok (rng a (b - a).toNat) else .no := rfl
@[simp] def iR1 (f : DE) (ε : Ev) : Out (List D) := (f ε).bind r1F
@[simp] def iR2 (f g : DE) (ε : Ev) : Out (List D) := (f ε).bind fun d => (g ε).bind fun e => r2F d e
@[simp] def enumD : Nat → List D → List D
  | _, [] => []
  | k, d :: ds => .tup [.int (k : Nat), d] :: enumD (k + 1) ds
def oSeq2 : D → Option (List D)
  | .tup ds => some ds
  | .lst ds => some ds
  | _ => none
@[simp] theorem oSeq2_tup (ds : List D) : oSeq2 (.tup ds) = some ds := rfl
@[simp] theorem oSeq2_lst (ds : List D) : oSeq2 (.lst ds) = some ds := rfl
@[simp] def iEn (f : DE) (ε : Ev) : Out (List D) := (f ε).bind fun d => (Out.of (oSeq2 d)).bind fun ds => .ok (enumD 0 ds)
@[simp] def zipD : List D → List D → List D
  | a :: as, b :: bs => .tup [a, b] :: zipD as bs
  | _, _ => []
def zpF : D → D → Out (List D)
  | .tup a, .tup b => .ok (zipD a b)
  | .lst a, .lst b => .ok (zipD a b)
  | _, _ => .no
@[simp] theorem zpF_tup (a b : List D) : zpF (.tup a) (.tup b) = .ok (zipD a b) := rfl
@[simp] theorem zpF_lst (a b : List D) : zpF (.lst a) (.lst b) = .ok (zipD a b) := rfl
@[simp] def iZp (f g : DE) (ε : Ev) : Out (List D) := (f ε).bind fun d => (g ε).bind fun e => zpF d e
section
variable {K : PySem.W.Frag} {G : Hp}
theorem it_list {a : Addr} {vs : List V} {ds : List D} (s : SqL K G a vs) (r : RpAll K G vs ds) : ItOk K G (Itl K a) ds := fun G2 H2 x1 x2 i => by
  have s2 := ex_l x2 (ex_l x1 s)
  refine ⟨fun d hd => ?_, fun hn => ⟨vs, s2, by rw [r.length]; exact List.getElem?_eq_none_iff.mp hn⟩⟩
  obtain ⟨v, h1, h2⟩ := r.getD hd
  refine ⟨⟨vs, v, s2, h1⟩, fun x H3 y => ?_⟩
  obtain ⟨rfl, y⟩ := y
  have := y vs s2
  rw [h1] at this
  cases this
  exact ⟨G2, Ext.refl x2, h2.up x1⟩
theorem it_tup {a : Addr} {vs : List V} {ds : List D} (s : SqT K G a vs) (r : RpAll K G vs ds) : ItOk K G (Itt K a) ds := fun G2 H2 x1 x2 i => by
  have s2 := ex_t x2 (ex_t x1 s)
  refine ⟨fun d hd => ?_, fun hn => ⟨vs, s2, by rw [r.length]; exact List.getElem?_eq_none_iff.mp hn⟩⟩
  obtain ⟨v, h1, h2⟩ := r.getD hd
  refine ⟨⟨vs, v, s2, h1⟩, fun x H3 y => ?_⟩
  obtain ⟨rfl, y⟩ := y
  have := y vs s2
  rw [h1] at this
  cases this
  exact ⟨G2, Ext.refl x2, h2.up x1⟩
theorem it_str {z : Str} : ItOk K G (Its z) (z.cps.toList.map fun c => .str ⟨#[c]⟩) := fun G2 H2 x1 x2 i => by
  refine ⟨fun d hd => ?_, fun hn => ?_⟩
  · rw [List.getElem?_map] at hd
    cases hc : z.cps.toList[i]? with
    | none => rw [hc] at hd; cases hd
    | some c =>
      rw [hc] at hd
      cases hd
      have hi := lt_of_get hc
      refine ⟨show i < z.cps.size by simpa using hi, fun x H3 y => ?_⟩
      obtain ⟨rfl, c', h1, rfl⟩ := y
      rw [Array.getElem?_toList] at hc
      rw [hc] at h1
      cases h1
      exact ⟨G2, Ext.refl x2, .str _⟩
  · have := List.getElem?_eq_none_iff.mp hn
    show z.cps.size ≤ i
    simpa using this
theorem it_rng {lo : Int} {n : Nat} : ItOk K G (Itr lo n) (rng lo n) := fun G2 H2 x1 x2 i => by
  unfold rng
  refine ⟨fun d hd => ?_, fun hn => ?_⟩
  · have hi : i < n := by simpa using lt_of_get hd
    rw [List.getElem?_map, List.getElem?_range hi] at hd
    cases hd
    refine ⟨hi, fun x H3 y => ?_⟩
    obtain ⟨rfl, rfl⟩ := y
    exact ⟨G2, Ext.refl x2, .int _⟩
  · have := List.getElem?_eq_none_iff.mp hn
    show n ≤ i
    simpa using this
theorem enumD_get : ∀ (ds : List D) (k i : Nat), (enumD k ds)[i]? = ds[i]?.map fun d => .tup [.int ((k + i : Nat) : Int), d]
  | [], _, _ => rfl
  | d :: ds, k, 0 => rfl
  | d :: ds, k, i + 1 => by
    show (enumD (k + 1) ds)[i]? = _
    rw [enumD_get ds (k + 1) i, show k + 1 + i = k + (i + 1) by omega]
    rfl
theorem zipD_get : ∀ (as bs : List D) (i : Nat), (zipD as bs)[i]? = as[i]?.bind fun a => bs[i]?.map fun b => .tup [a, b]
  | [], _, _ => by simp [zipD]
  | _ :: _, [], i => by
    rw [show zipD (_ :: _) [] = [] from rfl]
    cases h : (_ :: _ : List D)[i]? <;> simp
  | a :: as, b :: bs, 0 => rfl
  | a :: as, b :: bs, i + 1 => zipD_get as bs i
theorem pair_new {v1 v2 : V} {d1 d2 : D} {G2 H2 : Hp} {T : Addr} (e : Ex G2 H2) (hT : H2 T = none) (r1 : Rp K G2 v1 d1) (r2 : Rp K G2 v2 d2) : Ext G2 H2 (upd G2 T (.tup [v1, v2])) (upd H2 T (.tup [v1, v2])) ∧ Rp K (upd G2 T (.tup [v1, v2])) (.ref T) (.tup [d1, d2]) :=
  ⟨Ext.lay e hT, .tup (.inl (.inl upd_same)) (.cons (r1.up (Ex.new (e.back hT))) (.cons (r2.up (Ex.new (e.back hT))) .nil))⟩
theorem it_enumL {a : Addr} {vs : List V} {ds : List D} (s : SqL K G a vs) (r : RpAll K G vs ds) : ItOk K G (Ite K a) (enumD 0 ds) := fun G2 H2 x1 x2 i => by
  have s2 := ex_l x2 (ex_l x1 s)
  rw [enumD_get]
  refine ⟨fun d hd => ?_, fun hn => ⟨vs, s2, ?_⟩⟩
  · cases hc : ds[i]? with
    | none => rw [hc] at hd; cases hd
    | some c =>
      rw [hc] at hd
      cases hd
      obtain ⟨v, h1, h2⟩ := r.getD hc
      refine ⟨⟨vs, v, s2, h1⟩, fun x H3 y => ?_⟩
      obtain ⟨T, x', rfl, hT, rfl, y⟩ := y
      have := y vs s2
      rw [h1] at this
      cases this
      rw [Nat.zero_add]
      exact ⟨_, pair_new x2 hT (.int _) (h2.up x1)⟩
  · rw [r.length]
    cases hc : ds[i]? with
    | none => exact List.getElem?_eq_none_iff.mp hc
    | some c => rw [hc] at hn; cases hn
theorem it_enumT {a : Addr} {vs : List V} {ds : List D} (s : SqT K G a vs) (r : RpAll K G vs ds) : ItOk K G (IteT K a) (enumD 0 ds) := fun G2 H2 x1 x2 i => by
  have s2 := ex_t x2 (ex_t x1 s)
  rw [enumD_get]
  refine ⟨fun d hd => ?_, fun hn => ⟨vs, s2, ?_⟩⟩
  · cases hc : ds[i]? with
    | none => rw [hc] at hd; cases hd
    | some c =>
      rw [hc] at hd
      cases hd
      obtain ⟨v, h1, h2⟩ := r.getD hc
      refine ⟨⟨vs, v, s2, h1⟩, fun x H3 y => ?_⟩
      obtain ⟨T, x', rfl, hT, rfl, y⟩ := y
      have := y vs s2
      rw [h1] at this
      cases this
      rw [Nat.zero_add]
      exact ⟨_, pair_new x2 hT (.int _) (h2.up x1)⟩
  · rw [r.length]
    cases hc : ds[i]? with
    | none => exact List.getElem?_eq_none_iff.mp hc
    | some c => rw [hc] at hn; cases hn
theorem zip_none {as bs : List D} {i : Nat} (hn : (as[i]?.bind fun a => bs[i]?.map fun b => D.tup [a, b]) = none) : as.length ≤ i ∨ bs.length ≤ i := by
  cases h1 : as[i]? with
  | none => exact .inl (List.getElem?_eq_none_iff.mp h1)
  | some a =>
    cases h2 : bs[i]? with
    | none => exact .inr (List.getElem?_eq_none_iff.mp h2)
    | some b => rw [h1, h2] at hn; cases hn
theorem it_zipL {a b : Addr} {vs ws : List V} {ds es : List D} (s : SqL K G a vs) (t : SqL K G b ws) (r : RpAll K G vs ds) (q : RpAll K G ws es) : ItOk K G (Itz K a b) (zipD ds es) := fun G2 H2 x1 x2 i => by
  have s2 := ex_l x2 (ex_l x1 s)
  have t2 := ex_l x2 (ex_l x1 t)
  rw [zipD_get]
  refine ⟨fun d hd => ?_, fun hn => ⟨vs, ws, s2, t2, by rw [r.length, q.length]; exact zip_none hn⟩⟩
  cases hc : ds[i]? with
  | none => rw [hc] at hd; cases hd
  | some c =>
    cases hc' : es[i]? with
    | none => rw [hc, hc'] at hd; cases hd
    | some c' =>
      rw [hc, hc'] at hd
      cases hd
      obtain ⟨v, h1, h2⟩ := r.getD hc
      obtain ⟨w, h3, h4⟩ := q.getD hc'
      refine ⟨⟨vs, ws, v, w, s2, t2, h1, h3⟩, fun x H3 y => ?_⟩
      obtain ⟨T, x', y', rfl, hT, rfl, y1, y2⟩ := y
      have e1 := y1 vs s2
      have e2 := y2 ws t2
      rw [h1] at e1
      rw [h3] at e2
      cases e1
      cases e2
      exact ⟨_, pair_new x2 hT (h2.up x1) (h4.up x1)⟩
theorem it_zipT {a b : Addr} {vs ws : List V} {ds es : List D} (s : SqT K G a vs) (t : SqT K G b ws) (r : RpAll K G vs ds) (q : RpAll K G ws es) : ItOk K G (RZ.ItzT K a b) (zipD ds es) := fun G2 H2 x1 x2 i => by
  have s2 := ex_t x2 (ex_t x1 s)
  have t2 := ex_t x2 (ex_t x1 t)
  rw [zipD_get]
  refine ⟨fun d hd => ?_, fun hn => ⟨vs, ws, s2, t2, by rw [r.length, q.length]; exact zip_none hn⟩⟩
  cases hc : ds[i]? with
  | none => rw [hc] at hd; cases hd
  | some c =>
    cases hc' : es[i]? with
    | none => rw [hc, hc'] at hd; cases hd
    | some c' =>
      rw [hc, hc'] at hd
      cases hd
      obtain ⟨v, h1, h2⟩ := r.getD hc
      obtain ⟨w, h3, h4⟩ := q.getD hc'
      refine ⟨⟨vs, ws, v, w, s2, t2, h1, h3⟩, fun x H3 y => ?_⟩
      obtain ⟨T, x', y', rfl, hT, rfl, y1, y2⟩ := y
      have e1 := y1 vs s2
      have e2 := y2 ws t2
      rw [h1] at e1
      rw [h3] at e2
      cases e1
      cases e2
      exact ⟨_, pair_new x2 hT (h2.up x1) (h4.up x1)⟩
end
section
variable {X : Cx} {E : XK} {tg e e2 : Expr} {f g : DE} {p pos : Pos}
theorem pi_sq (h : PD X E e f) : PDI X E tg e (iSq f) := PI.weak (pi_seq h) fun σ H Q ⟨G0, H0, ε, G, ev, q⟩ => by
  refine ⟨G0, H0, ε, G, ev, Post.bind q fun d v G1 H1 _ x1 r q1 => ?_⟩
  cases r with
  | lst s r => exact .inl ⟨_, _, rfl, ex_l x1.gh s, q1 _ G1 H1 (Ext.refl x1.gh) (it_list s r)⟩
  | tup s r => exact .inr (.inl ⟨_, _, rfl, ex_t x1.gh s, q1 _ G1 H1 (Ext.refl x1.gh) (it_tup s r)⟩)
  | str z => exact .inr (.inr ⟨z, rfl, q1 _ G1 H1 (Ext.refl x1.gh) it_str⟩)
  | _ => exact q1.elim
theorem vw1 {K : PySem.W.Frag} {G H : Hp} {vs : List V} {d : D} (h : VwAll K G H vs [d]) : ∃ v, vs = [v] ∧ Vw K G H v d := by
  cases h with
  | cons h1 h2 => cases h2; exact ⟨_, rfl, h1⟩
theorem vw2 {K : PySem.W.Frag} {G H : Hp} {vs : List V} {d e : D} (h : VwAll K G H vs [d, e]) : ∃ v w, vs = [v, w] ∧ Vw K G H v d ∧ Vw K G H w e := by
  cases h with
  | cons h1 h2 =>
    obtain ⟨w, rfl, h3⟩ := vw1 h2
    exact ⟨_, _, rfl, h1, h3⟩
theorem rp1 {K : PySem.W.Frag} {G : Hp} {vs : List V} {d : D} (h : RpAll K G vs [d]) : ∃ v, vs = [v] ∧ Rp K G v d := by
  cases h with
  | cons h1 h2 => cases h2; exact ⟨_, rfl, h1⟩
theorem rp2 {K : PySem.W.Frag} {G : Hp} {vs : List V} {d e : D} (h : RpAll K G vs [d, e]) : ∃ v w, vs = [v, w] ∧ Rp K G v d ∧ Rp K G w e := by
  cases h with
  | cons h1 h2 =>
    obtain ⟨w, rfl, h3⟩ := rp1 h2
    exact ⟨_, _, rfl, h1, h3⟩
/-- one argument, two arguments -/
theorem args1 {α β : Type} {ε : Ev} {mg : Str → Option Value} {G H : Hp} {k : D → Out α} {R : α → β → Hp → Hp → Prop} {Q : β → Hp → Prop} {S : List D → List V → Hp → Hp → Prop} {P : List V → Hp → Prop} (q : Post mg E G H ((f ε).bind k) R Q)
    (F : ∀ d vs G' H', Ext G H G' H' → S [d] vs G' H' → Post mg E G' H' (k d) R Q → P vs H') : Post mg E G H (dArgs [f] ε) S P := by
  unfold dArgs dArgs
  cases h : f ε with
  | ok d =>
    rw [h] at q
    exact fun vs G2 H2 x2 r => F d vs G2 H2 x2 r (Post.on (o := k d) q x2)
  | rs c => rw [h] at q; exact q
  | no => rw [h] at q; exact q
theorem args2 {α β : Type} {ε : Ev} {mg : Str → Option Value} {G H : Hp} {k : D → D → Out α} {R : α → β → Hp → Hp → Prop} {Q : β → Hp → Prop} {S : List D → List V → Hp → Hp → Prop} {P : List V → Hp → Prop} (q : Post mg E G H ((f ε).bind fun d => (g ε).bind fun e => k d e) R Q)
    (F : ∀ d e vs G' H', Ext G H G' H' → S [d, e] vs G' H' → Post mg E G' H' (k d e) R Q → P vs H') : Post mg E G H (dArgs [f, g] ε) S P := by
  unfold dArgs dArgs dArgs
  cases h : f ε with
  | ok d =>
    rw [h] at q
    simp only [Out.bind] at q ⊢
    cases h2 : g ε with
    | ok e =>
      rw [h2] at q
      exact fun vs G2 H2 x2 r => F d e vs G2 H2 x2 r (Post.on (o := k d e) q x2)
    | rs c => rw [h2] at q; exact q
    | no => rw [h2] at q; exact q
  | rs c => rw [h] at q; exact q
  | no => rw [h] at q; exact q
theorem pi_r1 (hg : Gl X "range") (hm : X.mg "range" = none) (ha : PAw X E [e] (dArgs [f])) (hs : starEach [e] X.env = [(false, eval e X.env)] := by rfl) : PDI X E tg (.Call (.Name "range" p) [e] [] pos) (iR1 f) :=
  PI.weak (pi_range1 hg hm ha hs) fun σ H Q ⟨G0, H0, ε, G, ev, q⟩ => by
    refine ⟨G0, H0, ε, G, ev, args1 q fun d vs G1 H1 x1 r q1 => ?_⟩
    obtain ⟨v, rfl, w⟩ := vw1 r
    cases d with
    | int n =>
      dsimp only [r1F] at q1
      split at q1
      · rename_i hn
        rw [w.int]
        exact ⟨n, rfl, by omega, by omega, q1 _ G1 H1 (Ext.refl x1.gh) it_rng⟩
      · exact q1.elim
    | _ => exact q1.elim
theorem pi_r2 (hg : Gl X "range") (hm : X.mg "range" = none) (ha : PAw X E [e, e2] (dArgs [f, g])) (hs : starEach [e, e2] X.env = [(false, eval e X.env), (false, eval e2 X.env)] := by rfl) (hs2 : starEach [e2] X.env = [(false, eval e2 X.env)] := by rfl) :
    PDI X E tg (.Call (.Name "range" p) [e, e2] [] pos) (iR2 f g) :=
  PI.weak (pi_range2 hg hm ha hs hs2) fun σ H Q ⟨G0, H0, ε, G, ev, q⟩ => by
    refine ⟨G0, H0, ε, G, ev, args2 q fun d d' vs G1 H1 x1 r q1 => ?_⟩
    obtain ⟨v, v', rfl, w, w'⟩ := vw2 r
    unfold r2F at q1
    split at q1
    · split at q1
      · rename_i hn
        rw [w.int, w'.int]
        exact ⟨_, _, rfl, ⟨by omega, by omega, by omega, by omega⟩, q1 _ G1 H1 (Ext.refl x1.gh) it_rng⟩
      · exact q1.elim
    · exact q1.elim
theorem pi_en {elts : List Expr} {kk : Nat} {tpos : Pos} (hg : Gl X "enumerate") (hm : X.mg "enumerate" = none) (ha : PAd X E [e] (dArgs [f])) (hs : starEach [e] X.env = [(false, eval e X.env)] := by rfl) :
    PDI X E (.Tuple elts kk tpos) (.Call (.Name "enumerate" p) [e] [] pos) (iEn f) :=
  PI.weak (pi_enumA hg hm ha hs) fun σ H Q ⟨G0, H0, ε, G, ev, q⟩ => by
    refine ⟨G0, H0, ε, G, ev, args1 q fun d vs G1 H1 x1 r q1 => ?_⟩
    obtain ⟨v, rfl, w⟩ := rp1 r
    clear r
    cases w with
    | lst s r' => exact ⟨_, _, rfl, .inl ⟨ex_l x1.gh s, q1 _ G1 H1 (Ext.refl x1.gh) (it_enumL s r')⟩⟩
    | tup s r' => exact ⟨_, _, rfl, .inr ⟨ex_t x1.gh s, q1 _ G1 H1 (Ext.refl x1.gh) (it_enumT s r')⟩⟩
    | _ => exact q1.elim
theorem pi_zp {elts : List Expr} {kk : Nat} {tpos : Pos} (hg : Gl X "zip") (hm : X.mg "zip" = none) (ha : PAd X E [e, e2] (dArgs [f, g]))
    (hs : starEach [e, e2] X.env = (false, eval e X.env) :: starEach [e2] X.env := by rfl) (hpl : (backTo pos (starEach [e2] X.env)).any (·.1) = false := by rfl) :
    PDI X E (.Tuple elts kk tpos) (.Call (.Name "zip" p) [e, e2] [] pos) (iZp f g) :=
  PI.weak (RZ.pi_zipA hg hm ha hs hpl) fun σ H Q ⟨G0, H0, ε, G, ev, q⟩ => by
    refine ⟨G0, H0, ε, G, ev, args2 q fun d d' vs G1 H1 x1 r q1 => ?_⟩
    obtain ⟨v, v', rfl, w, w'⟩ := rp2 r
    clear r
    cases w with
    | lst s r =>
      cases w' with
      | lst s' r' => exact ⟨_, _, _, _, rfl, .inl ⟨ex_l x1.gh s, ex_l x1.gh s', q1 _ G1 H1 (Ext.refl x1.gh) (it_zipL s s' r r')⟩⟩
      | _ => exact q1.elim
    | tup s r =>
      cases w' with
      | tup s' r' => exact ⟨_, _, _, _, rfl, .inr ⟨ex_t x1.gh s, ex_t x1.gh s', q1 _ G1 H1 (Ext.refl x1.gh) (it_zipT s s' r r')⟩⟩
      | _ => exact q1.elim
    | _ => exact q1.elim
end

/-! ### targets -/
abbrev DG := D → Ev → Option Ev
def gD (K : PySem.W.Frag) (sl : List Nat) (ft : DG) : TG := fun v σ H Q => ∃ G0 H0 ε G d ε', EnvOk K G0 H0 ε σ G H ∧ Rp K G v d ∧ ft d ε = some ε' ∧ ∀ σ', EnvOk K G0 H0 ε' σ' G H → σ'.length = σ.length → (∀ i : Nat, i ∉ sl → σ'[i]? = σ[i]?) → Q σ' H
def gDs (K : PySem.W.Frag) (sl : List Nat) (ft : List D → Ev → Option Ev) : TGs := fun vs σ H Q => ∃ G0 H0 ε G ds ε', EnvOk K G0 H0 ε σ G H ∧ RpAll K G vs ds ∧ ft ds ε = some ε' ∧ ∀ σ', EnvOk K G0 H0 ε' σ' G H → σ'.length = σ.length → (∀ i : Nat, i ∉ sl → σ'[i]? = σ[i]?) → Q σ' H
abbrev PDG (X : Cx) (tg : Expr) (sl : List Nat) (ft : DG) : Prop := PG X tg (gD X.K sl ft)
abbrev PDGs (X : Cx) (tg : List Expr) (sl : List Nat) (ft : List D → Ev → Option Ev) : Prop := PGs X tg (gDs X.K sl ft)
theorem PG.weak {X : Cx} {tg : Expr} {t t' : TG} (h : PG X tg t) (f : ∀ v σ H Q, t' v σ H Q → t v σ H Q) : PG X tg t' := ⟨fun pins s σ H v u Q I r q => h.run pins s σ H v u Q I r (f v σ H Q q)⟩
theorem PGs.weak {X : Cx} {tg : List Expr} {t t' : TGs} (h : PGs X tg t) (f : ∀ v σ H Q, t' v σ H Q → t v σ H Q) : PGs X tg t' := ⟨fun pins s σ H v u Q I r q => h.run pins s σ H v u Q I r (f v σ H Q q)⟩
@[simp] def tgN (i : Nat) (d : D) (ε : Ev) : Option Ev := some (ε.set i (.val d))
def tgAll : List DG → List D → Ev → Option Ev
  | [], [], ε => some ε
  | f :: fs, d :: ds, ε => (f d ε).bind fun ε' => tgAll fs ds ε'
  | _, _, _ => none
@[simp] theorem tgAll_nil (ε : Ev) : tgAll [] [] ε = some ε := rfl
@[simp] theorem tgAll_cons (f : DG) (fs : List DG) (d : D) (ds : List D) (ε : Ev) : tgAll (f :: fs) (d :: ds) ε = (f d ε).bind fun ε' => tgAll fs ds ε' := rfl
def tgT (fs : List DG) (d : D) (ε : Ev) : Option Ev := match d with
  | .tup ds => tgAll fs ds ε
  | _ => none
@[simp] theorem tgT_tup (fs : List DG) (ds : List D) (ε : Ev) : tgT fs (.tup ds) ε = tgAll fs ds ε := rfl
theorem tgAll_len : ∀ {fs : List DG} {ds : List D} {ε ε' : Ev}, tgAll fs ds ε = some ε' → ds.length = fs.length
  | [], [], _, _, _ => rfl
  | [], _ :: _, _, _, h => by cases h
  | _ :: _, [], _, _, h => by cases h
  | f :: fs, d :: ds, ε, ε', h => by
    unfold tgAll at h
    cases h1 : f d ε with
    | none => rw [h1] at h; cases h
    | some ε1 =>
      rw [h1] at h
      rw [List.length_cons, List.length_cons, tgAll_len (ε := ε1) (ε' := ε') h]
section
variable {X : Cx} {pos : Pos}
theorem g_name (i : Nat) {x : Str} (hN : X.N.Nodup) (hi : X.N[i]? = some x := by rfl) (hx : Loc X.env.scope x := by first | exact Or.inl rfl | exact Or.inr rfl) (hf : X.fn x = true ∨ X.env.scope.names.lookup x = some .local := by first | exact .inl rfl | exact .inr rfl) : PDG X (.Name x pos) [i] (tgN i) :=
  PG.weak (pg_name hN hi hx hf) fun v σ H Q ⟨G0, H0, ε, G, d, ε', ev, r, h, q⟩ => by
    cases h
    refine q _ (ev.setVal r) (List.length_set ..) fun j hj => ?_
    rw [List.getElem?_set_ne]
    exact fun z => hj (by simp [z])
theorem g_nil : PDGs X [] [] (tgAll []) := PGs.weak pgs_nil fun v σ H Q ⟨G0, H0, ε, G, ds, ε', ev, r, h, q⟩ => by
  cases ds with
  | nil =>
    cases r
    cases h
    exact ⟨rfl, q σ ev rfl fun _ _ => rfl⟩
  | cons _ _ => cases h
theorem g_cons {e : Expr} {es : List Expr} {sl sl' : List Nat} {ft : DG} {fs : List DG} (h1 : PDG X e sl ft) (h2 : PDGs X es sl' (tgAll fs))
    (hs : (assignEach (e :: es) X.env).map (·.2) = assign e X.env :: (assignEach es X.env).map (·.2) := by rfl) : PDGs X (e :: es) (sl ++ sl') (tgAll (ft :: fs)) :=
  PGs.weak (pgs_cons h1 h2 hs) fun v σ H Q ⟨G0, H0, ε, G, ds, ε', ev, r, h, q⟩ => by
    cases ds with
    | nil => cases h
    | cons d ds =>
      cases r with
      | cons r1 r2 =>
        unfold tgAll at h
        cases e1 : ft d ε with
        | none => rw [e1] at h; cases h
        | some ε1 =>
          rw [e1] at h
          refine ⟨_, _, rfl, G0, H0, ε, G, d, ε1, ev, r1, e1, fun σ1 ev1 l1 k1 => ?_⟩
          refine ⟨G0, H0, ε1, G, ds, ε', ev1, r2, h, fun σ2 ev2 l2 k2 => q σ2 ev2 (l2.trans l1) fun i hi => ?_⟩
          rw [k2 i fun z => hi (List.mem_append_right _ z), k1 i fun z => hi (List.mem_append_left _ z)]
theorem g_tup {es : List Expr} {k : Nat} {sl : List Nat} {fs : List DG} (hc : X.calm = true) (h : PDGs X es sl (tgAll fs))
    (hn : (assignEach es X.env).length = fs.length := by rfl) (hst : (assignEach es X.env).findIdx? (·.1) = none := by rfl) : PDG X (.Tuple es k pos) sl (tgT fs) :=
  PG.weak (pg_tup hc h hn hst) fun v σ H Q ⟨G0, H0, ε, G, d, ε', ev, r, h, q⟩ => by
    cases r with
    | tup s r => exact ⟨_, _, rfl, ex_t ev.gh s, by rw [r.length]; exact tgAll_len h, G0, H0, ε, G, _, ε', ev, r, h, q⟩
    | _ => cases h
end
end PL

set_option Elab.async false
set_option linter.all false
set_option maxRecDepth 100000
set_option maxHeartbeats 2000000
/-! PL5: calls, comprehensions, statements, defs. -/
namespace PL
open PySem PySem.Spec PyProof.Rows L2

/-! ### calls -/
def spD (K : PySem.W.Frag) (mg : Str → Option Value) (n : Nat) (M : List D → Out D) : Sp := fun vs H Q E => ∃ G ds, Ex G H ∧ RpAll K G vs ds ∧ ds.length = n ∧ Post mg E G H (M ds) (rV K) Q
section
variable {X : Cx} {E : XK} {e e2 : Expr} {es : List Expr} {f g : DE} {p pos : Pos}
theorem pd_call {M : List D → Out D} {k : Nat} {fa : Addr} {fd : FuncData} {ps : List Str} {x : Str} {fl : List DE} (F : FnOk X.prog X.w X.K X.mg X.base CX0 k fa fd ps (spD X.K X.mg ps.length M)) (hr : Room k X.A) (hg : Gl X x) (hm : X.mg x = some (.ref fa))
    (hk : PySem.W.keepIn X.K (.ref fa) = true) (hb : Binds X.K fd ps []) (ha : PAd X E (e :: es) (dArgs fl)) (hn : fl.length = ps.length := by rfl) (hdb : (x == ("__debug__" : Str)) = false := by decide)
    (he : starEach (e :: es) X.env = (false, eval e X.env) :: starEach es X.env := by rfl) (hpl : (backTo pos (starEach es X.env)).any (·.1) = false := by rfl) : PD X E (.Call (.Name x p) (e :: es) [] pos) (dCall M (dArgs fl)) :=
  PE.weak (pe_call (E := E0) F hr hg hm hk hb .nil pass0 ha hdb he hpl) fun σ H Q ⟨G0, H0, ε, G, ev, q⟩ => by
    refine ⟨G0, H0, ε, G, ev, Post.bind q fun ds vs G1 H1 hd x1 r q1 => ?_⟩
    rw [List.append_nil]
    refine ⟨G1, ds, x1.gh, r, by rw [dArgs_len hd, hn], ?_⟩
    cases hM : M ds with
    | ok d => rw [hM] at q1; exact q1
    | rs c => rw [hM] at q1; exact q1.elim
    | no => rw [hM] at q1; exact q1.elim
theorem pd_call0 {M : List D → Out D} {k : Nat} {fa : Addr} {fd : FuncData} {x : Str} (F : FnOk X.prog X.w X.K X.mg X.base CX0 k fa fd [] (spD X.K X.mg 0 M)) (hr : Room k X.A) (hg : Gl X x) (hm : X.mg x = some (.ref fa))
    (hk : PySem.W.keepIn X.K (.ref fa) = true) (hb : Binds X.K fd [] []) (hdb : (x == ("__debug__" : Str)) = false := by decide) : PD X E (.Call (.Name x p) [] [] pos) (dCall M (dArgs [])) :=
  PE.weak (pe_call0 (E := E0) F hr hg hm hk hb .nil pass0 hdb) fun σ H Q ⟨G0, H0, ε, G, ev, q⟩ => by
    refine ⟨G, [], ev.gh, .nil, rfl, ?_⟩
    unfold dCall dArgs at q
    cases hM : M [] with
    | ok d => simp only [Out.bind, hM] at q; exact q
    | rs c => simp only [Out.bind, hM] at q; exact q.elim
    | no => simp only [Out.bind, hM] at q; exact q.elim
/-! built-ins -/
theorem pd_len (hg : Gl X "len") (hm : X.mg "len" = none) (ha : PAw X E [e] (dArgs [f])) (he : starEach [e] X.env = (false, eval e X.env) :: starEach [] X.env := by rfl) : PD X E (.Call (.Name "len" p) [e] [] pos) (d1 oLen f) :=
  PE.weak (pe_callB (CallR.or call_len_seq call_len_str) hg hm PySem.boot_len ha (by decide) (by decide) he) fun σ H Q ⟨G0, H0, ε, G, ev, q⟩ => by
    refine ⟨G0, H0, ε, G, ev, args1 q fun d vs G1 H1 x1 r q1 => ?_⟩
    obtain ⟨v, rfl, w⟩ := vw1 r
    obtain ⟨d', hd, q2⟩ := q1.of
    unfold oLen at hd
    split at hd
    · cases hd
      obtain ⟨a, vs, rfl, s1, _, r1⟩ := w.tup x1.gh
      refine .inl ⟨a, vs, rfl, .inr s1, ?_⟩
      rw [r1.length]
      exact q2 _ G1 H1 (Ext.refl x1.gh) (.int _)
    · cases hd
      obtain ⟨a, vs, rfl, s1, r1⟩ := w.lst x1.gh
      refine .inl ⟨a, vs, rfl, .inl s1, ?_⟩
      rw [r1.length]
      exact q2 _ G1 H1 (Ext.refl x1.gh) (.int _)
    · split at hd
      · rename_i hz
        cases hd
        exact .inr ⟨_, by rw [w.str], lim_le hz, q2 _ G1 H1 (Ext.refl x1.gh) (.int _)⟩
      · cases hd
    · cases hd
theorem pd_tuple (hg : Gl X "tuple") (hm : X.mg "tuple" = none) (ha : PAw X E [e] (dArgs [f])) (he : starEach [e] X.env = (false, eval e X.env) :: starEach [] X.env := by rfl) : PD X E (.Call (.Name "tuple" p) [e] [] pos) (d1 oTuple f) :=
  PE.weak (pe_callTy call_tuple_of hg hm (by decide +kernel) ha (by decide) (by decide) he) fun σ H Q ⟨G0, H0, ε, G, ev, q⟩ => by
    refine ⟨G0, H0, ε, G, ev, args1 q fun d vs G1 H1 x1 r q1 => ?_⟩
    obtain ⟨v, rfl, w⟩ := vw1 r
    obtain ⟨d', hd, q2⟩ := q1.of
    unfold oTuple at hd
    split at hd
    · cases hd
      have wr := w.tupR
      obtain ⟨a, vs, rfl, s1, _, r1⟩ := w.tup x1.gh
      exact ⟨a, vs, rfl, .inr ⟨s1, q2 _ G1 H1 (Ext.refl x1.gh) wr⟩⟩
    · cases hd
      obtain ⟨a, vs, rfl, s1, r1⟩ := w.lst x1.gh
      exact ⟨a, vs, rfl, .inl ⟨s1, fun l hl => q2 _ _ _ (Ext.lay x1.gh hl) (.tup (.inl (.inl upd_same)) (r1.up (Ex.new (x1.gh.back hl))))⟩⟩
    · cases hd
/-- (the fresh one) -/
theorem argsF {ε : Ev} {mg : Str → Option Value} {K : PySem.W.Frag} {G H : Hp} {k : D → Out (List D)} {Q : VK} {S : List D → List V → Hp → Hp → Prop} {P : List V → Hp → Prop} (q : PostF K mg E G H ((f ε).bind k) Q)
    (F : ∀ d vs G' H', Ext G H G' H' → S [d] vs G' H' → PostF K mg E G' H' (k d) Q → P vs H') : Post mg E G H (dArgs [f] ε) S P := by
  unfold dArgs dArgs
  cases h : f ε with
  | ok d =>
    rw [h] at q
    exact fun vs G2 H2 x2 r => F d vs G2 H2 x2 r (PostF.on (o := k d) q x2)
  | rs c => rw [h] at q; exact q
  | no => rw [h] at q; exact q
theorem pf_list (hg : Gl X "list") (hm : X.mg "list" = none) (ha : PAw X E [e] (dArgs [f])) (he : starEach [e] X.env = (false, eval e X.env) :: starEach [] X.env := by rfl) : PF X E (.Call (.Name "list" p) [e] [] pos) (lList f) :=
  PE.weak (pe_callTy call_list_of hg hm (by decide +kernel) ha (by decide) (by decide) he) fun σ H Q ⟨G0, H0, ε, G, ev, q⟩ => by
    refine ⟨G0, H0, ε, G, ev, argsF q fun d vs G1 H1 x1 r q1 => ?_⟩
    obtain ⟨v, rfl, w⟩ := vw1 r
    obtain ⟨ds, hd, q2⟩ := q1.of
    have fin : ∀ (a : Addr) (vs : List V), RpAll X.K G1 vs ds → ∀ l, H1 l = none → Q (.ref l) (upd H1 l (.lst vs)) := fun a vs r1 l hl => q2 l vs G1 _ (Ext.open_ x1.gh hl) hl upd_same (x1.gh.back hl) r1
    unfold oList at hd
    split at hd
    · cases hd
      obtain ⟨a, vs, rfl, s1, _, r1⟩ := w.tup x1.gh
      exact ⟨a, vs, rfl, .inr s1, fin a vs r1⟩
    · cases hd
      obtain ⟨a, vs, rfl, s1, r1⟩ := w.lst x1.gh
      exact ⟨a, vs, rfl, .inl s1, fin a vs r1⟩
    · cases hd
theorem pd_min2 (hc : X.calm = true) (hg : Gl X "min") (hm : X.mg "min" = none) (ha : PAw X E [e, e2] (dArgs [f, g])) (he : starEach [e, e2] X.env = (false, eval e X.env) :: starEach [e2] X.env := by rfl) (hpl : (backTo pos (starEach [e2] X.env)).any (·.1) = false := by rfl) :
    PD X E (.Call (.Name "min" p) [e, e2] [] pos) (d2 oMin2 f g) :=
  PE.weak (pe_callB (call_min2 hc) hg hm (by decide +kernel) ha (by decide) (by decide) he hpl) fun σ H Q ⟨G0, H0, ε, G, ev, q⟩ => by
    refine ⟨G0, H0, ε, G, ev, args2 q fun d d' vs G1 H1 x1 r q1 => ?_⟩
    obtain ⟨v, v', rfl, w, w'⟩ := vw2 r
    obtain ⟨d'', hd, q2⟩ := q1.of
    unfold oMin2 at hd
    split at hd
    · cases hd
      rw [w.int, w'.int]
      exact ⟨_, _, rfl, q2 _ G1 H1 (Ext.refl x1.gh) (.int _)⟩
    · cases hd
theorem pd_max2 (hc : X.calm = true) (hg : Gl X "max") (hm : X.mg "max" = none) (ha : PAw X E [e, e2] (dArgs [f, g])) (he : starEach [e, e2] X.env = (false, eval e X.env) :: starEach [e2] X.env := by rfl) (hpl : (backTo pos (starEach [e2] X.env)).any (·.1) = false := by rfl) :
    PD X E (.Call (.Name "max" p) [e, e2] [] pos) (d2 oMax2 f g) :=
  PE.weak (pe_callB (call_max2 hc) hg hm (by decide +kernel) ha (by decide) (by decide) he hpl) fun σ H Q ⟨G0, H0, ε, G, ev, q⟩ => by
    refine ⟨G0, H0, ε, G, ev, args2 q fun d d' vs G1 H1 x1 r q1 => ?_⟩
    obtain ⟨v, v', rfl, w, w'⟩ := vw2 r
    obtain ⟨d'', hd, q2⟩ := q1.of
    unfold oMax2 at hd
    split at hd
    · cases hd
      rw [w.int, w'.int]
      exact ⟨_, _, rfl, q2 _ G1 H1 (Ext.refl x1.gh) (.int _)⟩
    · cases hd
end

/-! ### comprehensions -/
@[simp] def wipeE (ε : Ev) : List Nat → Ev
  | [] => ε
  | v :: vs => (wipeE ε vs).set v .un
def compL (ft : DG) (test : Ev → Out Bool) (elt : DE) (ε : Ev) : List D → Out (List D)
  | [] => .ok []
  | d :: ds => match ft d ε with
    | none => .no
    | some ε1 => match test ε1 with
      | .ok true => match elt ε1 with
        | .ok x => (compL ft test elt ε ds).bind fun xs => .ok (x :: xs)
        | _ => .no
      | .ok false => compL ft test elt ε ds
      | _ => .no
@[simp] def lComp (own : List Nat) (it : Ev → Out (List D)) (ft : DG) (test : Ev → Out Bool) (elt : DE) (ε : Ev) : Out (List D) := (it ε).bind fun ds => if ds.length ≤ LIM then nrm (compL ft test elt (wipeE ε own) ds) else .no
@[simp] def dYes (_ : Ev) : Out Bool := .ok true
section
variable {K : PySem.W.Frag} {G0 H0 G H : Hp} {ε : Ev} {σ : L2.St}
theorem EnvOk.wipe (e : EnvOk K G0 H0 ε σ G H) : ∀ vs : List Nat, EnvOk K G0 H0 (wipeE ε vs) (L2.wipe σ vs) G H
  | [] => e
  | v :: vs => (EnvOk.wipe e vs).setUn
theorem wipe_get : ∀ (vs : List Nat) (σ : L2.St) (i : Nat), (L2.wipe σ vs)[i]? = if i ∈ vs ∧ i < σ.length then some none else σ[i]?
  | [], σ, i => by simp [L2.wipe]
  | v :: vs, σ, i => by
    unfold L2.wipe
    by_cases h : v = i
    · subst h
      by_cases hv : v < σ.length
      · rw [List.getElem?_set_self (by rw [L2.wipe_length]; exact hv)]
        rw [if_pos ⟨List.mem_cons_self .., hv⟩]
      · rw [List.getElem?_eq_none (by rw [List.length_set, L2.wipe_length]; omega), if_neg (fun z => hv z.2), List.getElem?_eq_none (by omega)]
    · rw [List.getElem?_set_ne h, wipe_get vs σ i]
      simp [show i ≠ v from fun z => h z.symm]
theorem wipe_same {σ σ2 : L2.St} {vs : List Nat} (hl : σ2.length = σ.length) (h : ∀ i : Nat, i ∉ vs → σ2[i]? = σ[i]?) : L2.wipe σ2 vs = L2.wipe σ vs := by
  apply List.ext_getElem?
  intro i
  rw [wipe_get, wipe_get, hl]
  by_cases hi : i ∈ vs
  · by_cases h2 : i < σ.length
    · simp [hi, h2]
    · rw [if_neg (by simp [h2]), if_neg (by simp [h2]), List.getElem?_eq_none (by omega), List.getElem?_eq_none (by omega)]
  · simp [hi, h i hi]
theorem wipe_wipe (σ : L2.St) (vs : List Nat) : L2.wipe (L2.wipe σ vs) vs = L2.wipe σ vs := by
  refine wipe_same (by rw [L2.wipe_length]) fun i hi => ?_
  rw [wipe_get]
  simp [hi]
end
section
variable {X : Cx} {E : XK} {pos : Pos}
theorem lc_of {own sl : List Nat} {it : Ev → Out (List D)} {ft : DG} {test : Ev → Out Bool} {elt : DE} (hsl : ∀ i ∈ sl, i ∈ own) :
    ∀ σ H Q, tF X.K X.mg E (lComp own it ft test elt) σ H Q → tLc (tG X.K X.mg E (rIt X.K) it) (gD X.K sl ft) (tG X.K X.mg E0 rB test) (tG X.K X.mg E0 (rV X.K) elt) own σ H Q := fun σ H Q ⟨G0, H0, ε, G, ev, q⟩ => by
  refine ⟨G0, H0, ε, G, ev, PostF.bind q fun ds J G1 H1 _ x1 ok1 q1 => ?_⟩
  intro DD hD
  split at q1
  · rename_i hlen
    cases hc : compL ft test elt (wipeE ε own) ds with
    | rs c => rw [hc] at q1; exact q1.elim
    | no => rw [hc] at q1; exact q1.elim
    | ok res =>
      rw [hc] at q1
      have ev1 : EnvOk X.K G0 H0 (wipeE ε own) (L2.wipe σ own) G1 H1 := (ev.on x1).wipe own
      refine ⟨fun i m H => i ≤ ds.length ∧ m = ds.length - i ∧ ∃ G acc dacc rest, Ext G1 H1 G H ∧ H DD = some (.lst acc) ∧ G DD = none ∧ RpAll X.K G acc dacc ∧ dacc.length ≤ i ∧ compL ft test elt (wipeE ε own) (ds.drop i) = .ok rest ∧ dacc ++ rest = res,
        ⟨ds.length, Nat.zero_le _, by omega, G1, [], [], res, Ext.open_ x1.gh hD, upd_same, x1.gh.back hD, .nil, Nat.le_refl _, hc, rfl⟩, ?_⟩
      rintro i m H2 ⟨hi, rfl, G2, acc, dacc, rest, x2, hH, hG, r, hl, hcr, hres⟩
      obtain ⟨goes, stops⟩ := ok1 G2 H2 x2.gg x2.gh i
      cases hd : ds[i]? with
      | none =>
        refine .inl ⟨stops hd, ?_⟩
        have hi2 : ds.length ≤ i := List.getElem?_eq_none_iff.mp hd
        rw [List.drop_eq_nil_of_le hi2] at hcr
        cases hcr
        rw [List.append_nil] at hres
        subst hres
        exact q1 DD acc G2 H2 x2 hD hH hG r
      | some d =>
        have hi2 := lt_of_get hd
        obtain ⟨go, yl⟩ := goes d hd
        refine .inr ⟨go, _, fun H' w => ⟨ds.length - (i + 1), by omega, w⟩, fun x H3 y => ?_⟩
        obtain ⟨G3, x3, r3⟩ := yl x H3 y
        have hdr : ds.drop i = d :: ds.drop (i + 1) := by
          rw [List.drop_eq_getElem_cons hi2]
          congr 1
          exact Option.some.inj ((List.getElem?_eq_getElem hi2).symm.trans hd)
        rw [hdr] at hcr
        unfold compL at hcr
        cases hft : ft d (wipeE ε own) with
        | none => rw [hft] at hcr; cases hcr
        | some ε1 =>
          rw [hft] at hcr
          dsimp only at hcr
          refine ⟨G0, H0, wipeE ε own, G3, d, ε1, (ev1.on x2).on x3, r3, hft, fun σ2 ev2 hl2 k2 => ⟨?_, ?_⟩⟩
          · rw [wipe_same hl2 fun j hj => k2 j fun z => hj (hsl j z), wipe_wipe]
          · refine ⟨G0, H0, ε1, G3, ev2, ?_⟩
            cases ht : test ε1 with
            | rs c => rw [ht] at hcr; cases hcr
            | no => rw [ht] at hcr; cases hcr
            | ok b =>
              rw [ht] at hcr
              intro b' G4 H4 x4 eb
              cases eb
              cases b with
              | false =>
                rw [if_neg Bool.false_ne_true]
                exact ⟨hi2, rfl, G4, acc, dacc, rest, (x2.trans x3).trans x4, x4.hh _ _ (x3.hh _ _ hH), x4.fr _ _ (x3.hh _ _ hH) (x3.fr _ _ hH hG), r.up (x3.gg.trans x4.gg), by omega, hcr, hres⟩
              | true =>
                rw [if_pos rfl]
                refine ⟨G0, H0, ε1, G4, ev2.on x4, ?_⟩
                cases he : elt ε1 with
                | rs c => rw [he] at hcr; cases hcr
                | no => rw [he] at hcr; cases hcr
                | ok y =>
                  rw [he] at hcr
                  dsimp only at hcr
                  cases hrr : compL ft test elt (wipeE ε own) (ds.drop (i + 1)) with
                  | rs c => rw [hrr] at hcr; cases hcr
                  | no => rw [hrr] at hcr; cases hcr
                  | ok ys =>
                    rw [hrr] at hcr
                    cases hcr
                    intro v G5 H5 x5 r5
                    have hH5 := x5.hh _ _ (x4.hh _ _ (x3.hh _ _ hH))
                    have hG5 := x5.fr _ _ (x4.hh _ _ (x3.hh _ _ hH)) (x4.fr _ _ (x3.hh _ _ hH) (x3.fr _ _ hH hG))
                    have x15 := ((x2.trans x3).trans x4).trans x5
                    have hal := r.length
                    refine ⟨acc, hH5, Nat.lt_of_le_of_lt (by omega : acc.length ≤ LIM) (by decide), hi2, rfl, G5, acc ++ [v], dacc ++ [y], ys, ⟨x15.gg, x15.hh.mut hD, fun a u ha => by rw [upd_ne (ne_of_none ha hG5)]; exact x15.gh a u ha, x15.fr⟩, upd_same, hG5, ?_, ?_, hrr, ?_⟩
                    · exact (r.up ((x3.gg.trans x4.gg).trans x5.gg)).append (.cons r5 .nil)
                    · rw [List.length_append, List.length_singleton]; omega
                    · rw [List.append_assoc]; exact hres
  · exact q1.elim
end
end PL

set_option Elab.async false
set_option linter.all false
set_option maxRecDepth 100000
set_option maxHeartbeats 2000000
/-! PL6: list comprehensions as expressions; statements; defs. -/
namespace PL
open PySem PySem.Spec PyProof.Rows L2
section
variable {X : Cx} {E : XK} {pos : Pos}
theorem pts_y : PTs X [] (tG X.K X.mg E rB dYes) := ⟨fun pins s σ H Q I ⟨G0, H0, ε, G, ev, q⟩ => pts_nil.run pins s σ H Q I (q true G H (Ext.refl ev.gh) rfl)⟩
theorem pts_o {c : Expr} {t : Ev → Out Bool} (h : PTt X E c t) : PTs X [c] (tG X.K X.mg E rB t) := pts_one h
theorem pf_lc {elt tg iter : Expr} {ifs : List Expr} {scope : Scope} {own : List (Str × Nat)} {sl : List Nat} {it : Ev → Out (List D)} {ft : DG} {test : Ev → Out Bool} {fe : DE} (hc : X.calm = true) (hN : X.N.Nodup) (hi : PDI X E tg iter it) (ok : BlkOk X.N X.env.scope scope own)
    (hg : ∀ (s : Shared) (H : Hp) (C : Addr) (cl : List (Str × Addr)) (fp : List Addr), PDG (X.blk s H scope (compEnvC scope cl C X.env) fp) tg sl ft) (ht : ∀ (s : Shared) (H : Hp) (C : Addr) (cl : List (Str × Addr)) (fp : List Addr), PTs (X.blk s H scope (compEnvC scope cl C X.env) fp) ifs (tG X.K X.mg E0 rB test))
    (he : ∀ (s : Shared) (H : Hp) (C : Addr) (cl : List (Str × Addr)) (fp : List Addr), PD (X.blk s H scope (compEnvC scope cl C X.env) fp) E0 elt fe) (hsl : ∀ i ∈ sl, i ∈ own.map (·.2) := by decide) (hs : ∀ x, foldedSetIterable iter X.env x = pure x := by intro _; rfl) :
    PF X E (.ListComp elt [⟨tg, iter, ifs, 0⟩] scope pos) (lComp (own.map (·.2)) it ft test fe) :=
  PE.weak (pe_lc hc hN hi ok hg ht he hs) (lc_of hsl)
end

/-! ### statements -/
inductive Fl where
  | nx (ε : Ev) | rt (d : D) | bk (ε : Ev) | ct (ε : Ev) | rs (c : Str) | no
abbrev DS := Ev → Fl
def PostS (K : PySem.W.Frag) (mg : Str → Option Value) (E : XK) (G0 H0 G1 : Hp) (Dn : Ends) : Fl → Prop
  | .nx ε => ∀ σ G H, EnvOk K G0 H0 ε σ G H → Ex G1 G → Dn.nx σ H
  | .bk ε => ∀ σ G H, EnvOk K G0 H0 ε σ G H → Ex G1 G → Dn.bk σ H
  | .ct ε => ∀ σ G H, EnvOk K G0 H0 ε σ G H → Ex G1 G → Dn.ct σ H
  | .rt d => ∀ v G H, Ext G0 H0 G H → Rp K G v d → Dn.rt v H
  | .rs c => ∀ G H, Ext G0 H0 G H → Xok mg E c H
  | .no => False
def sD (K : PySem.W.Frag) (mg : Str → Option Value) (E : XK) (f : DS) : TS := fun Dn σ H => ∃ G0 H0 ε G, EnvOk K G0 H0 ε σ G H ∧ PostS K mg E G0 H0 G Dn (f ε)
abbrev PSd (X : Cx) (E : XK) (st : Stmt) (f : DS) : Prop := PS X st (sD X.K X.mg E f)
abbrev PSsd (X : Cx) (E : XK) (st : List Stmt) (f : DS) : Prop := PSs X st (sD X.K X.mg E f)
theorem PS.weak {X : Cx} {st : Stmt} {t t' : TS} (h : PS X st t) (f : ∀ Dn σ H, t' Dn σ H → t Dn σ H) : PS X st t' := ⟨fun pins s σ H Dn I q => h.run pins s σ H Dn I (f Dn σ H q)⟩
theorem PSs.weak {X : Cx} {st : List Stmt} {t t' : TS} (h : PSs X st t) (f : ∀ Dn σ H, t' Dn σ H → t Dn σ H) : PSs X st t' := ⟨fun pins s σ H Dn I q => h.run pins s σ H Dn I (f Dn σ H q)⟩
def bindS {α : Type} : Out α → (α → Fl) → Fl
  | .ok a, k => k a
  | .rs c, _ => .rs c
  | .no, _ => .no
@[simp] theorem bindS_ok {α : Type} (a : α) (k : α → Fl) : bindS (.ok a) k = k a := rfl
@[simp] theorem bindS_rs {α : Type} (c : Str) (k : α → Fl) : bindS (.rs c) k = .rs c := rfl
@[simp] theorem bindS_no {α : Type} (k : α → Fl) : bindS .no k = .no := rfl
theorem PostS.up {K : PySem.W.Frag} {mg : Str → Option Value} {E : XK} {G0 H0 G G' : Hp} {Dn : Ends} {fl : Fl} (h : PostS K mg E G0 H0 G Dn fl) (x : Ex G G') : PostS K mg E G0 H0 G' Dn fl := by
  cases fl with
  | nx ε => exact fun σ G2 H2 ev x2 => h σ G2 H2 ev (x.trans x2)
  | bk ε => exact fun σ G2 H2 ev x2 => h σ G2 H2 ev (x.trans x2)
  | ct ε => exact fun σ G2 H2 ev x2 => h σ G2 H2 ev (x.trans x2)
  | _ => exact h
theorem PostS.bind {α β : Type} {K : PySem.W.Frag} {mg : Str → Option Value} {E : XK} {G0 H0 G H : Hp} {Dn : Ends} {o : Out α} {k : α → Fl} {R : α → β → Hp → Hp → Prop} {P : β → Hp → Prop} (h : PostS K mg E G0 H0 G Dn (bindS o k)) (x0 : Ext G0 H0 G H)
    (f : ∀ d b G' H', o = .ok d → Ext G H G' H' → R d b G' H' → PostS K mg E G0 H0 G' Dn (k d) → P b H') : Post mg E G H o R P := by
  cases o with
  | ok d => exact fun b G2 H2 x2 r => f d b G2 H2 rfl x2 r (PostS.up (fl := k d) h x2.gg)
  | rs c => exact fun G2 H2 x2 => h G2 H2 (x0.trans x2)
  | no => exact h
theorem PostS.bindF {K : PySem.W.Frag} {mg : Str → Option Value} {E : XK} {G0 H0 G H : Hp} {Dn : Ends} {o : Out (List D)} {k : List D → Fl} {P : VK} (h : PostS K mg E G0 H0 G Dn (bindS o k)) (x0 : Ext G0 H0 G H)
    (f : ∀ ds p vs G' H', Ext G H G' H' → H p = none → H' p = some (.lst vs) → G' p = none → RpAll K G' vs ds → PostS K mg E G0 H0 G' Dn (k ds) → P (.ref p) H') : PostF K mg E G H o P := by
  cases o with
  | ok d => exact fun p vs G2 H2 x2 h1 h2 h3 r => f d p vs G2 H2 x2 h1 h2 h3 r (PostS.up (fl := k d) h x2.gg)
  | rs c => exact fun G2 H2 x2 => h G2 H2 (x0.trans x2)
  | no => exact h

def seqF (o : Fl) (g : DS) : Fl := match o with
  | .nx ε' => g ε'
  | o => o
@[simp] theorem seqF_nx (ε : Ev) (g : DS) : seqF (.nx ε) g = g ε := rfl
@[simp] theorem seqF_rt (d : D) (g : DS) : seqF (.rt d) g = .rt d := rfl
@[simp] theorem seqF_bk (ε : Ev) (g : DS) : seqF (.bk ε) g = .bk ε := rfl
@[simp] theorem seqF_ct (ε : Ev) (g : DS) : seqF (.ct ε) g = .ct ε := rfl
@[simp] theorem seqF_rs (c : Str) (g : DS) : seqF (.rs c) g = .rs c := rfl
@[simp] def sSeq (f g : DS) (ε : Ev) : Fl := seqF (f ε) g
@[simp] def sNil (ε : Ev) : Fl := .nx ε
@[simp] def sSet (i : Nat) (f : DE) (ε : Ev) : Fl := bindS (f ε) fun d => .nx (ε.set i (.val d))
@[simp] def sOwn (i : Nat) (f : Ev → Out (List D)) (ε : Ev) : Fl := bindS (f ε) fun ds => .nx (ε.set i (.own ds))
def asgF : Option Ev → Fl
  | some ε' => .nx ε'
  | none => .no
@[simp] theorem asgF_some (ε : Ev) : asgF (some ε) = .nx ε := rfl
@[simp] def sAsg (f : DE) (ft : DG) (ε : Ev) : Fl := bindS (f ε) fun d => asgF (ft d ε)
@[simp] def sIf (c : Ev → Out Bool) (f g : DS) (ε : Ev) : Fl := bindS (c ε) fun b => if b = true then f ε else g ε
@[simp] def sRet (f : DE) (ε : Ev) : Fl := bindS (f ε) fun d => .rt d
@[simp] def sRetN (_ : Ev) : Fl := .rt .non
@[simp] def sDrop (f : DE) (ε : Ev) : Fl := bindS (f ε) fun _ => .nx ε
@[simp] def sBrk (ε : Ev) : Fl := .bk ε
@[simp] def sCt (ε : Ev) : Fl := .ct ε
def ownF (o : Option Sl) (k : List D → Fl) : Fl := match o with
  | some (.own ds) => k ds
  | _ => .no
@[simp] theorem ownF_own (ds : List D) (k : List D → Fl) : ownF (some (.own ds)) k = k ds := rfl
@[simp] def ownS (i : Nat) (k : Ev → List D → Fl) (ε : Ev) : Fl := ownF ε[i]? (k ε)
def extF (d : D) (k : List D → Fl) : Fl := match d with
  | .lst es => k es
  | _ => .no
@[simp] theorem extF_lst (ds : List D) (k : List D → Fl) : extF (.lst ds) k = k ds := rfl
def subF (d : D) (n : Nat) (k : Nat → Fl) : Fl := match d with
  | .int i => (match ixN n i with
    | some j => k j
    | none => .no)
  | _ => .no
theorem subF_int (i : Int) (n : Nat) (j : Nat) (k : Nat → Fl) (h : ixN n i = some j) : subF (.int i) n k = k j := by simp only [subF, h]
@[simp] def sApp (i : Nat) (f : DE) (ε : Ev) : Fl := ownS i (fun ε ds => bindS (f ε) fun d => if ds.length < LIM then .nx (ε.set i (.own (ds ++ [d]))) else .no) ε
@[simp] def sExt (i : Nat) (f : DE) (ε : Ev) : Fl := ownS i (fun ε ds => bindS (f ε) fun d => extF d fun es => if ds.length + es.length ≤ LIM then .nx (ε.set i (.own (ds ++ es))) else .no) ε
@[simp] def sSub (i : Nat) (fk f : DE) (ε : Ev) : Fl := ownS i (fun ε ds => bindS (f ε) fun d => bindS (fk ε) fun k => subF k ds.length fun j => .nx (ε.set i (.own (ds.set j d)))) ε
theorem ownS_of {i : Nat} {k : Ev → List D → Fl} {ε : Ev} {P : Fl → Prop} (h : P (ownS i k ε)) (hn : ¬ P .no) : ∃ ds, ε[i]? = some (.own ds) ∧ P (k ε ds) := by
  unfold ownS ownF at h
  split at h
  · rename_i ds hi; exact ⟨ds, hi, h⟩
  · exact (hn h).elim
def frzF (o : Option Sl) (i : Nat) (f : DS) (ε : Ev) : Fl := match o with
  | some (.own ds) => f (ε.set i (.val (.lst ds)))
  | some (.val d) => f ε
  | _ => .no
@[simp] theorem frzF_own (ds : List D) (i : Nat) (f : DS) (ε : Ev) : frzF (some (.own ds)) i f ε = f (ε.set i (.val (.lst ds))) := rfl
@[simp] theorem frzF_val (d : D) (i : Nat) (f : DS) (ε : Ev) : frzF (some (.val d)) i f ε = f ε := rfl
@[simp] def sFrz (i : Nat) (f : DS) (ε : Ev) : Fl := frzF ε[i]? i f ε
def forL (ft : DG) (body : DS) : List D → Ev → Fl
  | [], ε => .nx ε
  | d :: ds, ε => match ft d ε with
    | none => .no
    | some ε1 => match body ε1 with
      | .nx ε2 => forL ft body ds ε2
      | .ct ε2 => forL ft body ds ε2
      | .bk ε2 => .nx ε2
      | o => o
@[simp] def sFor (it : Ev → Out (List D)) (ft : DG) (body : DS) (ε : Ev) : Fl := bindS (it ε) fun ds => forL ft body ds ε
def whileD (c : Ev → Out Bool) (body : DS) : Nat → Ev → Fl
  | 0, _ => .no
  | n + 1, ε => bindS (c ε) fun b => if b = true then (match body ε with
      | .nx ε' => whileD c body n ε'
      | .ct ε' => whileD c body n ε'
      | .bk ε' => .nx ε'
      | o => o) else .nx ε
@[simp] def sWhile (n : Nat) (c : Ev → Out Bool) (body : DS) (ε : Ev) : Fl := whileD c body n ε

section
variable {X : Cx} {E : XK} {st : Stmt} {rest : List Stmt} {f g : DS} {e e2 : Expr} {fe fk : DE} {pos : Pos}
theorem ss_nil : PSsd X E [] sNil := PSs.weak pss_nil fun Dn σ H ⟨G0, H0, ε, G, ev, q⟩ => q σ G H ev (Ex.refl _)
theorem ss_cons (h1 : PSd X E st f) (h2 : PSsd X E rest g) : PSsd X E (st :: rest) (sSeq f g) := PSs.weak (pss_cons h1 h2) fun Dn σ H ⟨G0, H0, ε, G, ev, q⟩ => by
  refine ⟨G0, H0, ε, G, ev, ?_⟩
  unfold sSeq seqF at q
  cases h : f ε with
  | nx ε' =>
    rw [h] at q
    exact fun σ' G' H' ev' x' => ⟨G0, H0, ε', G', ev', PostS.up q x'⟩
  | _ => rw [h] at q; exact q
theorem ss_one (h1 : PSd X E st f) : PSsd X E [st] f := pss_one h1
theorem s_set (i : Nat) {x : Str} {pos' : Pos} (hN : X.N.Nodup) (he : PD X E e fe) (hi : X.N[i]? = some x := by rfl) (hx : Loc X.env.scope x := by first | exact Or.inl rfl | exact Or.inr rfl) (hs : swapsWith e (some (.Name x pos')) pos.line X.env = pure false := by rfl)
    (hf : X.fn x = true ∨ X.env.scope.names.lookup x = some .local := by first | exact .inl rfl | exact .inr rfl) : PSd X E (.Assign [.Name x pos'] e pos) (sSet i fe) :=
  PS.weak (ps_set hN hi hx he hs hf) fun Dn σ H ⟨G0, H0, ε, G, ev, q⟩ => by
    refine ⟨G0, H0, ε, G, ev, PostS.bind q ev.ext fun d v G1 H1 _ x1 r q1 => ?_⟩
    exact q1 _ G1 H1 ((ev.on x1).setVal r) (Ex.refl _)
theorem own_new {K : PySem.W.Frag} {G0 H0 G H G1 H1 : Hp} {ε : Ev} {σ : L2.St} {i : Nat} {p : Addr} {vs : List V} {ds : List D} (ev : EnvOk K G0 H0 ε σ G H) (x1 : Ext G H G1 H1) (h1 : H p = none) (h2 : H1 p = some (.lst vs)) (h3 : G1 p = none) (r : RpAll K G1 vs ds) :
    EnvOk K G0 H0 (ε.set i (.own ds)) (σ.set i (some (.ref p))) G1 H1 := by
  refine (ev.on x1).setOwn h2 h3 (ev.ext.hh.back h1) r fun j es hj hs => ?_
  obtain ⟨a, ws, e1, e2, _⟩ := ev.own hj
  rw [hs] at e1
  cases e1
  rw [h1] at e2
  cases e2
theorem s_own (i : Nat) {x : Str} {pos' : Pos} {fl : Ev → Out (List D)} (hN : X.N.Nodup) (he : PF X E e fl) (hi : X.N[i]? = some x := by rfl) (hx : Loc X.env.scope x := by first | exact Or.inl rfl | exact Or.inr rfl) (hs : swapsWith e (some (.Name x pos')) pos.line X.env = pure false := by rfl)
    (hf : X.fn x = true ∨ X.env.scope.names.lookup x = some .local := by first | exact .inl rfl | exact .inr rfl) : PSd X E (.Assign [.Name x pos'] e pos) (sOwn i fl) :=
  PS.weak (ps_set hN hi hx he hs hf) fun Dn σ H ⟨G0, H0, ε, G, ev, q⟩ => by
    refine ⟨G0, H0, ε, G, ev, PostS.bindF q ev.ext fun ds p vs G1 H1 x1 h1 h2 h3 r q1 => ?_⟩
    exact q1 _ G1 H1 (own_new ev x1 h1 h2 h3 r) (Ex.refl _)
/-- y = [..] on one line -/
theorem setLc_of {i : Nat} {fl : Ev → Out (List D)} {t : TE} (h : ∀ σ H Q, tF X.K X.mg E fl σ H Q → t σ H Q) : ∀ Dn σ H, sD X.K X.mg E (sSet i (dLst fl)) Dn σ H → tAsg t (gName i) Dn σ H := fun Dn σ H ⟨G0, H0, ε, G, ev, q⟩ => by
  refine h _ _ _ ⟨G0, H0, ε, G, ev, ?_⟩
  unfold sSet dLst at q
  cases h : fl ε with
  | ok ds =>
    rw [h] at q
    intro p vs G1 H1 x1 h1 h2 h3 r
    have x2 := x1.close h1 h2 h3
    exact q _ _ H1 ((ev.on x2).setVal (.lst (SqL.of upd_same) (r.up (Ex.new h3)))) x2.gg
  | rs c => rw [h] at q; exact fun G2 H2 x2 => q G2 H2 (ev.ext.trans x2)
  | no => rw [h] at q; exact q
theorem ownLc_of {i : Nat} {fl : Ev → Out (List D)} {t : TE} (h : ∀ σ H Q, tF X.K X.mg E fl σ H Q → t σ H Q) : ∀ Dn σ H, sD X.K X.mg E (sOwn i fl) Dn σ H → tAsg t (gName i) Dn σ H := fun Dn σ H ⟨G0, H0, ε, G, ev, q⟩ => by
  refine h _ _ _ ⟨G0, H0, ε, G, ev, PostS.bindF q ev.ext fun ds p vs G1 H1 x1 h1 h2 h3 r q1 => ?_⟩
  exact q1 _ G1 H1 (own_new ev x1 h1 h2 h3 r) (Ex.refl _)
theorem s_setLc (i : Nat) {y : Str} {py spos : Pos} {elt tg iter : Expr} {ifs : List Expr} {scope : Scope} {own : List (Str × Nat)} {sl : List Nat} {it : Ev → Out (List D)} {ft : DG} {test : Ev → Out Bool} {fe : DE} (hc : X.calm = true) (hN : X.N.Nodup)
    (hi : PDI X E tg iter it) (ok : BlkOk X.N X.env.scope scope own)
    (hg : ∀ (s : Shared) (H : Hp) (C : Addr) (cl : List (Str × Addr)) (fp : List Addr), PDG (X.blk s H scope (compEnvC scope cl C X.env) fp) tg sl ft) (ht : ∀ (s : Shared) (H : Hp) (C : Addr) (cl : List (Str × Addr)) (fp : List Addr), PTs (X.blk s H scope (compEnvC scope cl C X.env) fp) ifs (tG X.K X.mg E0 rB test))
    (he : ∀ (s : Shared) (H : Hp) (C : Addr) (cl : List (Str × Addr)) (fp : List Addr), PD (X.blk s H scope (compEnvC scope cl C X.env) fp) E0 elt fe) (hsw : swapsWith (.ListComp elt [⟨tg, iter, ifs, 0⟩] scope pos) (some (.Name y py)) spos.line X.env = pure true) (hy : X.N[i]? = some y := by rfl) (hyl : X.env.scope.names.lookup y = some .local := by rfl)
    (hsl : ∀ i ∈ sl, i ∈ own.map (·.2) := by decide) (hs : ∀ x, foldedSetIterable iter X.env x = pure x := by intro _; rfl) :
    PSd X E (.Assign [.Name y py] (.ListComp elt [⟨tg, iter, ifs, 0⟩] scope pos) spos) (sSet i (dLst (lComp (own.map (·.2)) it ft test fe))) :=
  PS.weak (ps_setLc hc hN hy hyl hsw hi ok hg ht he hs) (setLc_of (lc_of hsl))
theorem s_ownLc (i : Nat) {y : Str} {py spos : Pos} {elt tg iter : Expr} {ifs : List Expr} {scope : Scope} {own : List (Str × Nat)} {sl : List Nat} {it : Ev → Out (List D)} {ft : DG} {test : Ev → Out Bool} {fe : DE} (hc : X.calm = true) (hN : X.N.Nodup)
    (hi : PDI X E tg iter it) (ok : BlkOk X.N X.env.scope scope own)
    (hg : ∀ (s : Shared) (H : Hp) (C : Addr) (cl : List (Str × Addr)) (fp : List Addr), PDG (X.blk s H scope (compEnvC scope cl C X.env) fp) tg sl ft) (ht : ∀ (s : Shared) (H : Hp) (C : Addr) (cl : List (Str × Addr)) (fp : List Addr), PTs (X.blk s H scope (compEnvC scope cl C X.env) fp) ifs (tG X.K X.mg E0 rB test))
    (he : ∀ (s : Shared) (H : Hp) (C : Addr) (cl : List (Str × Addr)) (fp : List Addr), PD (X.blk s H scope (compEnvC scope cl C X.env) fp) E0 elt fe) (hsw : swapsWith (.ListComp elt [⟨tg, iter, ifs, 0⟩] scope pos) (some (.Name y py)) spos.line X.env = pure true) (hy : X.N[i]? = some y := by rfl) (hyl : X.env.scope.names.lookup y = some .local := by rfl)
    (hsl : ∀ i ∈ sl, i ∈ own.map (·.2) := by decide) (hs : ∀ x, foldedSetIterable iter X.env x = pure x := by intro _; rfl) :
    PSd X E (.Assign [.Name y py] (.ListComp elt [⟨tg, iter, ifs, 0⟩] scope pos) spos) (sOwn i (lComp (own.map (·.2)) it ft test fe)) :=
  PS.weak (ps_setLc hc hN hy hyl hsw hi ok hg ht he hs) (ownLc_of (lc_of hsl))
theorem s_asg {tg : Expr} {sl : List Nat} {ft : DG} (he : PD X E e fe) (hg : PDG X tg sl ft) (hs : swapsWithSole [tg] e pos.line X.env = pure false := by rfl) (hw : swappedStores [tg] e X.env = pure none := by rfl)
    (h1 : (assignEach [tg] X.env).map (·.2) = [assign tg X.env] := by rfl) : PSd X E (.Assign [tg] e pos) (sAsg fe ft) :=
  PS.weak (ps_asg he hg hs hw h1) fun Dn σ H ⟨G0, H0, ε, G, ev, q⟩ => by
    refine ⟨G0, H0, ε, G, ev, PostS.bind q ev.ext fun d v G1 H1 _ x1 r q1 => ?_⟩
    cases hf : ft d ε with
    | none => rw [hf] at q1; exact q1.elim
    | some ε' =>
      rw [hf] at q1
      exact ⟨G0, H0, ε, G1, d, ε', ev.on x1, r, hf, fun σ' ev' _ _ => q1 σ' G1 H1 ev' (Ex.refl _)⟩
theorem s_if {c : Expr} {a b : List Stmt} {tc : Ev → Out Bool} (hc : PTt X E c tc) (ha : PSsd X E a f) (hb : PSsd X E b g) : PSd X E (.If c a b pos) (sIf tc f g) := PS.weak (ps_if hc ha hb) fun Dn σ H ⟨G0, H0, ε, G, ev, q⟩ => by
  refine ⟨G0, H0, ε, G, ev, PostS.bind q ev.ext fun d v G1 H1 _ x1 r q1 => ?_⟩
  cases r
  cases d with
  | true => exact ⟨G0, H0, ε, G1, ev.on x1, q1⟩
  | false => exact ⟨G0, H0, ε, G1, ev.on x1, q1⟩
theorem s_ret (he : PD X E e fe) : PSd X E (.Return (some e) pos) (sRet fe) := PS.weak (ps_ret he) fun Dn σ H ⟨G0, H0, ε, G, ev, q⟩ => by
  refine ⟨G0, H0, ε, G, ev, PostS.bind q ev.ext fun d v G1 H1 _ x1 r q1 => ?_⟩
  exact q1 v G1 H1 (ev.ext.trans x1) r
theorem s_retN : PSd X E (.Return none pos) sRetN := PS.weak ps_retN fun Dn σ H ⟨G0, H0, ε, G, ev, q⟩ => q _ G H ev.ext .non
theorem s_drop (he : PVw X E e fe) (hs : swapsWith e none pos.line X.env = pure false := by rfl) : PSd X E (.Expr e pos) (sDrop fe) := PS.weak (ps_expr he hs) fun Dn σ H ⟨G0, H0, ε, G, ev, q⟩ => by
  refine ⟨G0, H0, ε, G, ev, PostS.bind q ev.ext fun d v G1 H1 _ x1 r q1 => ?_⟩
  exact q1 _ G1 H1 (ev.on x1) (Ex.refl _)
theorem s_pass : PSd X E (.Pass pos) sNil := PS.weak ps_pass fun Dn σ H ⟨G0, H0, ε, G, ev, q⟩ => q σ G H ev (Ex.refl _)
theorem s_brk : PSd X E (.Break pos) sBrk := PS.weak ps_break fun Dn σ H ⟨G0, H0, ε, G, ev, q⟩ => q σ G H ev (Ex.refl _)
theorem s_ct : PSd X E (.Continue pos) sCt := PS.weak ps_continue fun Dn σ H ⟨G0, H0, ε, G, ev, q⟩ => q σ G H ev (Ex.refl _)
theorem s_frz (i : Nat) (h : PSd X E st f) : PSd X E st (sFrz i f) := PS.weak h fun Dn σ H ⟨G0, H0, ε, G, ev, q⟩ => by
  unfold sFrz frzF at q
  split at q
  · rename_i ds hi
    obtain ⟨G', ev', x'⟩ := ev.freeze hi
    exact ⟨G0, H0, _, G', ev', PostS.up q x'⟩
  · exact ⟨G0, H0, ε, G, ev, q⟩
  · exact q.elim
/-- x.append(e), x a name that holds a list of its own -/
theorem s_app (i : Nat) {x : Str} {p2 apos cpos : Pos} (he : PD X E e fe) (hN : X.N[i]? = some x := by rfl) (hv : Vis X.env.scope x := by first | exact Or.inl rfl | exact Or.inr (Or.inl rfl) | exact Or.inr (Or.inr rfl))
    (hd : (x == ("__debug__" : Str)) = false := by decide) (hcd : (x == ("__classdict__" : Str)) = false := by decide)
    (hbase : attributeBase (.Name x p2) "append" X.env (eval (.Name x p2) X.env) = eval (.Name x p2) X.env := by rfl)
    (hfew : ((backTo cpos (starEach (e :: []) X.env)).all (fun x => !x.1) && (backToKw cpos (keywordEach [] X.env)).all (fun x => x.1.isSome)
      && decide ((e :: []).length + ([] : List Keyword).length + (if ([] : List Keyword).isEmpty then 0 else 1) < 30)) = true := by rfl)
    (hline : (apos.endLine == cpos.line) = true := by rfl) (hst : starEach (e :: []) X.env = (false, eval e X.env) :: starEach [] X.env := by rfl)
    (hs : swapsWith (.Call (.Attribute (.Name x p2) "append" apos) [e] [] cpos) none pos.line X.env = pure false := by rfl) :
    PSd X E (.Expr (.Call (.Attribute (.Name x p2) "append" apos) [e] [] cpos) pos) (sApp i fe) :=
  PS.weak (ps_expr (pe_bm PySem.F.plainAttrs_list PySem.F.slot_list_append PySem.F.type_list_append mt_append (pv i hN hv hd hcd) (pa_cons he pa_nil hst) hbase hfew hline hst) hs) fun Dn σ H ⟨G0, H0, ε, G, ev, q⟩ => by
    obtain ⟨ds, hi, q⟩ := ownS_of (P := PostS X.K X.mg E G0 H0 G Dn) q id
    obtain ⟨a, vs, hs1, hH, hG, h0, r⟩ := ev.own hi
    refine ⟨_, hs1, .inl ⟨rfl, _, .inl (.inl hH)⟩, G0, H0, ε, G, ev, PostS.bind q ev.ext fun d v G1 H1 _ x1 rv q1 => ?_⟩
    split at q1
    · rename_i hl
      have hlen := r.length
      refine ⟨a, vs, v, rfl, rfl, x1.hh _ _ hH, Nat.lt_of_lt_of_le (by omega : vs.length < LIM) (by decide), ?_⟩
      exact q1 σ G1 _ ((ev.on x1).change hi hs1 (x1.hh _ _ hH) (x1.fr _ _ hH hG) h0 ((r.up x1.gg).append (.cons rv .nil))) (Ex.refl _)
    · exact q1.elim
def rExtR (K : PySem.W.Frag) : V → List V → Hp → VK → Prop := fun x vs H Q => ∃ l b xs zs, x = .ref l ∧ vs = [.ref b] ∧ H l = some (.lst xs) ∧ SqL K H b zs ∧ xs.length + zs.length ≤ sizeLine ∧ Q .non (upd H l (.lst (xs ++ zs)))
theorem mt_extR : MtM X "list.extend" (rExtR X.K) := by
  intro pins s σ H x vs v us Q I rx rv h
  obtain ⟨l, b, xs, zs, rfl, rfl, hH, hB, hz, q⟩ := h
  cases rx
  obtain ⟨u, rfl, ru⟩ := rv.one
  cases ru
  obtain ⟨z, its, n, r, hl, e⟩ := I.lstM hH
  obtain ⟨z2, its2, n2, sl2, r2, hl2, e2⟩ := lstR I hB
  have hsz : its.toArray.size + its2.toArray.size ≤ sizeLine := by rw [List.size_toArray, List.size_toArray]; omega
  have hlong : ¬ (!its.toArray.isEmpty && Builtin.List.listTooLong (its.toArray.size + its2.toArray.size)) = true := by
    rw [notLongL hsz, Bool.and_false]
    exact Bool.false_ne_true
  refine call_meets F.slot_list_extend ⟨_, e, rfl⟩ F.entry_list_extend (F.args_list_extend_2 _ _)
    (list_extS l its.toArray n b its2.toArray n2 sl2 hlong (by rw [List.size_toArray]; omega) (by omega)) ⟨e, e2, ?_⟩
  refine ⟨.non, _, I.lset (its' := its ++ its2) hH e (by simp) (r.append r2) ?_, rfl, q⟩
  rw [List.length_append]
  omega
theorem s_ext (i : Nat) {x : Str} {p2 apos cpos : Pos} (he : PVw X E e fe) (hN : X.N[i]? = some x := by rfl) (hv : Vis X.env.scope x := by first | exact Or.inl rfl | exact Or.inr (Or.inl rfl) | exact Or.inr (Or.inr rfl))
    (hd : (x == ("__debug__" : Str)) = false := by decide) (hcd : (x == ("__classdict__" : Str)) = false := by decide)
    (hbase : attributeBase (.Name x p2) "extend" X.env (eval (.Name x p2) X.env) = eval (.Name x p2) X.env := by rfl)
    (hfew : ((backTo cpos (starEach (e :: []) X.env)).all (fun x => !x.1) && (backToKw cpos (keywordEach [] X.env)).all (fun x => x.1.isSome)
      && decide ((e :: []).length + ([] : List Keyword).length + (if ([] : List Keyword).isEmpty then 0 else 1) < 30)) = true := by rfl)
    (hline : (apos.endLine == cpos.line) = true := by rfl) (hst : starEach (e :: []) X.env = (false, eval e X.env) :: starEach [] X.env := by rfl)
    (hs : swapsWith (.Call (.Attribute (.Name x p2) "extend" apos) [e] [] cpos) none pos.line X.env = pure false := by rfl) :
    PSd X E (.Expr (.Call (.Attribute (.Name x p2) "extend" apos) [e] [] cpos) pos) (sExt i fe) :=
  PS.weak (ps_expr (pe_bm PySem.F.plainAttrs_list PySem.F.slot_list_extend PySem.F.type_list_extend mt_extR (pv i hN hv hd hcd) (pa_cons he pa_nil hst) hbase hfew hline hst) hs) fun Dn σ H ⟨G0, H0, ε, G, ev, q⟩ => by
    obtain ⟨ds, hi, q⟩ := ownS_of (P := PostS X.K X.mg E G0 H0 G Dn) q id
    obtain ⟨a, vs, hs1, hH, hG, h0, r⟩ := ev.own hi
    refine ⟨_, hs1, .inl ⟨rfl, _, .inl (.inl hH)⟩, G0, H0, ε, G, ev, PostS.bind q ev.ext fun d v G1 H1 _ x1 rv q1 => ?_⟩
    cases d with
    | lst es =>
      dsimp only [extF] at q1
      split at q1
      · rename_i hl
        obtain ⟨b, ws, rfl, s1, r1⟩ := rv.lst x1.gh
        have l1 := r.length
        have l2 := r1.length
        refine ⟨a, b, vs, ws, rfl, rfl, x1.hh _ _ hH, s1, lim_le (by omega), ?_⟩
        exact q1 σ G1 _ ((ev.on x1).change hi hs1 (x1.hh _ _ hH) (x1.fr _ _ hH hG) h0 ((r.up x1.gg).append r1)) (Ex.refl _)
      · exact q1.elim
    | _ => exact q1.elim
/-- x[k] = e -/
theorem s_sub (i : Nat) {x : Str} {p2 p3 : Pos} (hk : PVw X E e2 fk) (he : PD X E e fe) (hN : X.N[i]? = some x := by rfl) (hv : Vis X.env.scope x := by first | exact Or.inl rfl | exact Or.inr (Or.inl rfl) | exact Or.inr (Or.inr rfl))
    (hd : (x == ("__debug__" : Str)) = false := by decide) (hcd : (x == ("__classdict__" : Str)) = false := by decide)
    (ha : ∀ v, assign (.Subscript (.Name x p2) e2 p3) X.env v = (do
      let ov ← holding [v] (eval (.Name x p2) X.env)
      let iv ← holding [v, ov] (eval e2 X.env)
      standAt p3
      holding [v, ov, iv] (setItem ov iv v)
      release [v, ov, iv] []) := by intro _; rfl)
    (hs : swapsWithSole [.Subscript (.Name x p2) e2 p3] e pos.line X.env = pure false := by rfl) (hw : swappedStores [.Subscript (.Name x p2) e2 p3] e X.env = pure none := by rfl)
    (h1 : (assignEach [.Subscript (.Name x p2) e2 p3] X.env).map (·.2) = [assign (.Subscript (.Name x p2) e2 p3) X.env] := by rfl) :
    PSd X E (.Assign [.Subscript (.Name x p2) e2 p3] e pos) (sSub i fk fe) :=
  PS.weak (ps_asg he (pg_sub (pv i hN hv hd hcd) hk set_list ha) hs hw h1) fun Dn σ H ⟨G0, H0, ε, G, ev, q⟩ => by
    obtain ⟨ds, hi, q⟩ := ownS_of (P := PostS X.K X.mg E G0 H0 G Dn) q id
    obtain ⟨a, vs, hs1, hH, hG, h0, r⟩ := ev.own hi
    refine ⟨G0, H0, ε, G, ev, PostS.bind q ev.ext fun d v G1 H1 _ x1 rv q1 => ?_⟩
    refine ⟨_, hs1, G0, H0, ε, G1, ev.on x1, PostS.bind q1 (ev.on x1).ext fun k w G2 H2 _ x2 rw q2 => ?_⟩
    cases k with
    | int k =>
      dsimp only [subF] at q2
      split at q2
      · rename_i j hj
        have x12 := x1.trans x2
        refine ⟨a, vs, k, j, rfl, rw.int, x12.hh _ _ hH, by rw [r.length]; exact hj, ?_⟩
        exact q2 σ G2 _ (((ev.on x1).on x2).change hi hs1 (x12.hh _ _ hH) (x12.fr _ _ hH hG) h0 ((r.up x12.gg).set (rv.up x2.gg) j)) (Ex.refl _)
      · exact q2.elim
    | _ => exact q2.elim
/-! loops -/
theorem s_for {tg iter : Expr} {body : List Stmt} {it : Ev → Out (List D)} {sl : List Nat} {ft : DG} {fb : DS} (hp : PassesOwn (model X.prog X.w) X.A X.env X.xe) (hc : X.calm = true) (hi : PDI X E tg iter it) (hg : PDG X tg sl ft) (hb : PSsd X E body fb)
    (hs : ∀ x, foldedSetIterable iter X.env x = pure x := by intro _; rfl) : PSd X E (.For tg iter body [] pos) (sFor it ft fb) := PS.weak (ps_for hp hc hi hg hb hs) fun Dn σ H ⟨G0, H0, ε, G, ev, q⟩ => by
  refine ⟨G0, H0, ε, G, ev, PostS.bind q ev.ext fun ds J G1 H1 _ x1 ok1 q1 => ?_⟩
  refine ⟨fun i m σ H => i ≤ ds.length ∧ m = ds.length - i ∧ ∃ ε G, EnvOk X.K G0 H0 ε σ G H ∧ Ex G1 G ∧ PostS X.K X.mg E G0 H0 G1 Dn (forL ft fb (ds.drop i) ε), ⟨ds.length, Nat.zero_le _, by omega, ε, G1, ev.on x1, Ex.refl _, q1⟩, ?_⟩
  rintro i m σ2 H2 ⟨hi, rfl, ε2, G2, ev2, xg, q2⟩
  obtain ⟨goes, stops⟩ := ok1 G2 H2 xg ev2.gh i
  cases hd : ds[i]? with
  | none =>
    refine .inl ⟨stops hd, ?_⟩
    rw [List.drop_eq_nil_of_le (List.getElem?_eq_none_iff.mp hd)] at q2
    exact q2 σ2 G2 H2 ev2 xg
  | some d =>
    have hi2 := lt_of_get hd
    obtain ⟨go, yl⟩ := goes d hd
    have hdr : ds.drop i = d :: ds.drop (i + 1) := by
      rw [List.drop_eq_getElem_cons hi2]
      congr 1
      exact Option.some.inj ((List.getElem?_eq_getElem hi2).symm.trans hd)
    rw [hdr] at q2
    unfold forL at q2
    refine .inr ⟨go, _, fun σ' H' w => ⟨ds.length - (i + 1), by omega, w⟩, fun x H3 y => ?_⟩
    obtain ⟨G3, x3, r3⟩ := yl x H3 y
    cases hft : ft d ε2 with
    | none => rw [hft] at q2; exact q2.elim
    | some ε3 =>
      rw [hft] at q2
      dsimp only at q2
      refine ⟨G0, H0, ε2, G3, d, ε3, ev2.on x3, r3, hft, fun σ4 ev4 _ _ => ⟨G0, H0, ε3, G3, ev4, ?_⟩⟩
      have xg3 := xg.trans x3.gg
      cases hb : fb ε3 with
      | nx ε5 => rw [hb] at q2; exact fun σ5 G5 H5 ev5 x5 => ⟨hi2, rfl, ε5, G5, ev5, xg3.trans x5, q2⟩
      | ct ε5 => rw [hb] at q2; exact fun σ5 G5 H5 ev5 x5 => ⟨hi2, rfl, ε5, G5, ev5, xg3.trans x5, q2⟩
      | bk ε5 => rw [hb] at q2; exact fun σ5 G5 H5 ev5 x5 => q2 σ5 G5 H5 ev5 (xg3.trans x5)
      | rt d' => rw [hb] at q2; exact q2
      | rs c => rw [hb] at q2; exact q2
      | no => rw [hb] at q2; exact q2
theorem s_while {c : Expr} {body : List Stmt} {tc : Ev → Out Bool} {fb : DS} (n : Nat) (hp : PassesOwn (model X.prog X.w) X.A X.env X.xe) (hc : PTt X E c tc) (hb : PSsd X E body fb) : PSd X E (.While c body [] pos) (sWhile n tc fb) := PS.weak (ps_while hp hc hb) fun Dn σ H ⟨G0, H0, ε, G, ev, q⟩ => by
  refine ⟨fun m σ H => ∃ ε G2, EnvOk X.K G0 H0 ε σ G2 H ∧ Ex G G2 ∧ PostS X.K X.mg E G0 H0 G Dn (whileD tc fb m ε), ⟨n, ε, G, ev, Ex.refl _, q⟩, ?_⟩
  rintro m σ2 H2 ⟨ε2, G2, ev2, xg, q2⟩
  cases m with
  | zero => exact q2.elim
  | succ m =>
    refine ⟨G0, H0, ε2, G2, ev2, PostS.bind (PostS.up q2 xg) ev2.ext fun b b' G3 H3 _ x3 eb q3 => ?_⟩
    cases eb
    cases b with
    | false =>
      rw [if_neg Bool.false_ne_true] at q3 ⊢
      exact q3 σ2 G3 H3 (ev2.on x3) (Ex.refl _)
    | true =>
      rw [if_pos rfl]
      have q4 : PostS X.K X.mg E G0 H0 G Dn (whileD tc fb (m + 1) ε2) := q2
      unfold whileD at q4
      rename_i htc
      rw [htc] at q4
      simp only [bindS, if_true] at q4
      have xg3 := xg.trans x3.gg
      refine ⟨_, fun σ' H' w => ⟨m, Nat.lt_succ_self m, w⟩, G0, H0, ε2, G3, ev2.on x3, ?_⟩
      cases hb : fb ε2 with
      | nx ε5 => rw [hb] at q4; exact fun σ5 G5 H5 ev5 x5 => ⟨ε5, G5, ev5, xg3.trans x5, q4⟩
      | ct ε5 => rw [hb] at q4; exact fun σ5 G5 H5 ev5 x5 => ⟨ε5, G5, ev5, xg3.trans x5, q4⟩
      | bk ε5 => rw [hb] at q4; exact fun σ5 G5 H5 ev5 x5 => q4 σ5 G5 H5 ev5 (xg3.trans x5)
      | rt d' => rw [hb] at q4; exact q4
      | rs c => rw [hb] at q4; exact q4
      | no => rw [hb] at q4; exact q4
end

/-! ### defs -/
@[simp] def startE (n : Nat) (ds : List D) : Ev := ds.map .val ++ List.replicate (n - ds.length) .un
def runF : Fl → Out D
  | .rt d => .ok d
  | .nx _ => .ok .non
  | _ => .no
@[simp] theorem runF_rt (d : D) : runF (.rt d) = .ok d := rfl
@[simp] theorem runF_nx (ε : Ev) : runF (.nx ε) = .ok .non := rfl
@[simp] def runD (n : Nat) (f : DS) (ds : List D) : Out D := runF (f (startE n ds))
theorem start_ok {K : PySem.W.Frag} {G H : Hp} {N : List Str} {vs : List V} {ds : List D} (e : Ex G H) (r : RpAll K G vs ds) : EnvOk K G H (startE N.length ds) (L2.start N vs) G H := by
  have hl := r.length
  unfold startE L2.start
  refine ⟨Ext.refl e, by simp [hl], fun i => ?_, fun i j a d1 d2 _ h1 => ?_⟩
  · by_cases hi : i < ds.length
    · rw [List.getElem?_append_left (by simpa [hl] using hi), List.getElem?_append_left (by simpa using hi), List.getElem?_map, List.getElem?_map, List.getElem?_eq_getElem hi]
      obtain ⟨v, h1, h2⟩ := r.getD (List.getElem?_eq_getElem hi)
      exact ⟨v, by rw [h1]; rfl, h2⟩
    · rw [List.getElem?_append_right (l₁ := ds.map Sl.val) (by simpa using hi), List.getElem?_replicate (a := Sl.un)]
      split <;> trivial
  · exfalso
    by_cases hi : i < ds.length
    · rw [List.getElem?_append_left (by simpa using hi), List.getElem?_map, List.getElem?_eq_getElem hi] at h1
      cases h1
    · rw [List.getElem?_append_right (by simpa using hi), List.getElem?_replicate] at h1
      split at h1 <;> cases h1
theorem def_ok {P : Program} {w : World} {K : PySem.W.Frag} {mg : Str → Option Value} {base : Heap} {x qual : Str} {st : Stmt} {f : Addr} {fd : FuncData} {N ps : List Str} {k : Nat} {fb : DS} (F : Fun K x qual st f fd) (S : FnScope N ps (defScope st))
    (body : ∀ (cdv : Value) (A : Around) (outer : List Env) (s : Shared) (H : Hp) (E : XK), Room k (A.deeper (envOfC qual (defScope st) s.heap.objs.size f cdv)) →
      PSsd (cxOf CX0 P w K mg base N qual (defScope st) f cdv A outer s H E).nox E0 (defBody st) fb) : FnOk P w K mg base CX0 (k + 1) f fd ps (spD K mg ps.length (runD N.length fb)) := by
  refine F.ok S (fun vs H Q E h => ?_) (fun cdv A outer s H vs Q E hr h => ?_)
  · obtain ⟨G, ds, _, r, hn, _⟩ := h
    rw [r.length, hn]
  · obtain ⟨G, ds, e, r, hn, q⟩ := h
    refine ⟨_, body cdv A outer s H E hr, G, H, startE N.length ds, G, start_ok e r, ?_⟩
    unfold runD runF at q
    cases hf : fb (startE N.length ds) with
    | rt d => rw [hf] at q; exact fun v G' H' x' r' => q v G' H' x' r'
    | nx ε' => rw [hf] at q; exact fun σ' G' H' ev' _ => q .non G' H' ev'.ext .non
    | rs c => rw [hf] at q; exact q.elim
    | bk _ => rw [hf] at q; exact q.elim
    | ct _ => rw [hf] at q; exact q.elim
    | no => rw [hf] at q; exact q.elim
theorem def_M {P : Program} {w : World} {K : PySem.W.Frag} {mg : Str → Option Value} {base : Heap} {x qual : Str} {st : Stmt} {f : Addr} {fd : FuncData} {N ps : List Str} {k n : Nat} {fb : DS} {M : List D → Out D} (F : Fun K x qual st f fd) (S : FnScope N ps (defScope st)) (hM : M = runD N.length fb) (hn : n = ps.length)
    (body : ∀ (cdv : Value) (A : Around) (outer : List Env) (s : Shared) (H : Hp) (E : XK), Room k (A.deeper (envOfC qual (defScope st) s.heap.objs.size f cdv)) →
      PSsd (cxOf CX0 P w K mg base N qual (defScope st) f cdv A outer s H E).nox E0 (defBody st) fb) : FnOk P w K mg base CX0 (k + 1) f fd ps (spD K mg n M) := by
  subst hM hn
  exact def_ok F S body
/-! ### the end -/
def spLaw (K : PySem.W.Frag) : Sp := fun vs H Q _ => ∃ (a : Addr) (ns : List Int), vs = [.ref a] ∧ SqL K H a (ns.map V.int) ∧ ns.length ≤ 63 ∧ ∀ H', Q (.bl true) H'
theorem law_end {P : Program} {w : World} {K : PySem.W.Frag} {mg : Str → Option Value} {base : Heap} {k : Nat} {f : Addr} {fd : FuncData} {x : Str} {M : List D → Out D} (F : FnOk P w K mg base CX0 k f fd [x] (spD K mg 1 M))
    (h : ∀ ns : List Int, ns.length ≤ 63 → M [.lst (ns.map .int)] = .ok (.bl true)) : FnOk P w K mg base CX0 k f fd [x] (spLaw K) :=
  F.imp fun vs H Q E ⟨a, ns, e, s, hl, q⟩ => by
    subst e
    refine ⟨H, [.lst (ns.map .int)], Ex.refl H, .cons (.lst s (RpAll.ints ns)) .nil, rfl, ?_⟩
    rw [h ns hl]
    exact fun v G' H' _ r => by cases r; exact q H'
end PL

set_option Elab.async false
set_option linter.all false
set_option maxRecDepth 100000
set_option maxHeartbeats 1000000
/-! PL7: in, isinstance, all, any, written tables. -/
namespace PL
open PySem PySem.Spec PyProof.Rows L2

/-! ### in -/
def oInB (p : Bool → Bool) : D → D → Option D
  | d, .lst es => if eqok d && eqok (.lst es) then some (.bl (p (es.any fun z => deq z d))) else none
  | d, .tup es => if eqok d && eqok (.tup es) then some (.bl (p (es.any fun z => deq z d))) else none
  | _, _ => none
abbrev oIn := oInB id
abbrev oNotIn := oInB not
@[simp] theorem oInB_lst (p : Bool → Bool) (d : D) (es : List D) : oInB p d (.lst es) = if eqok d && eqok (.lst es) then some (.bl (p (es.any fun z => deq z d))) else none := rfl
@[simp] theorem oInB_tup (p : Bool → Bool) (d : D) (es : List D) : oInB p d (.tup es) = if eqok d && eqok (.tup es) then some (.bl (p (es.any fun z => deq z d))) else none := rfl
theorem any_py (d : D) : ∀ es : List D, (pyAll es).any (fun z => PyData.eqv z d.py) = es.any fun z => deq z d
  | [] => rfl
  | e :: es => by
    show (PyData.eqv e.py d.py || (pyAll es).any (fun z => PyData.eqv z d.py)) = (deq e d || es.any fun z => deq z d)
    rw [any_py d es]
    rfl
section
variable {X : Cx} {E : XK} {e e2 : Expr} {f g : DE} {p pos : Pos}
def rInS (K : PySem.W.Frag) (p : Bool → Bool) : R2 := fun x y H Q => ∃ d ds, Dp K H x d ∧ SeqAt.shaped d = true ∧ (Dp K H y (.list ds) ∧ SeqAt.shaped (.list ds) = true ∨ Dp K H y (.tuple ds) ∧ SeqAt.shaped (.tuple ds) = true) ∧ Q (.bl (p (ds.any fun z => PyData.eqv z d))) H
theorem op_inS (hu : X.A.units + 65 < cLine) : OpR X (compareOp .In) (rInS X.K id) := by
  intro pins s σ H x y v u Q I rx ry h
  obtain ⟨d, ds, hd, sd, h, q⟩ := h
  obtain ⟨as, r1⟩ := Dp.reads I d x v hd rx
  rcases h with ⟨he, se⟩ | ⟨he, se⟩
  · obtain ⟨bs, r2⟩ := Dp.reads I (.list ds) y u he ry
    exact SeqAt.in_list_reads r2 r1 (SeqAt.canLay_of_shaped se) (SeqAt.canLay_of_shaped sd) (room_in_shaped sd hu) ⟨.bl _, H, I, rfl, q⟩
  · obtain ⟨bs, r2⟩ := Dp.reads I (.tuple ds) y u he ry
    exact SeqAt.in_tuple_reads r2 r1 (SeqAt.canLay_of_shaped se) (SeqAt.canLay_of_shaped sd) (room_in_shaped sd hu) ⟨.bl _, H, I, rfl, q⟩
theorem op_notInS (hu : X.A.units + 65 < cLine) : OpR X (compareOp .NotIn) (rInS X.K not) := by
  intro pins s σ H x y v u Q I rx ry h
  obtain ⟨d, ds, hd, sd, h, q⟩ := h
  obtain ⟨as, r1⟩ := Dp.reads I d x v hd rx
  rcases h with ⟨he, se⟩ | ⟨he, se⟩
  · obtain ⟨bs, r2⟩ := Dp.reads I (.list ds) y u he ry
    exact SeqAt.notIn_list_reads r2 r1 (SeqAt.canLay_of_shaped se) (SeqAt.canLay_of_shaped sd) (room_in_shaped sd hu) ⟨.bl _, H, I, rfl, q⟩
  · obtain ⟨bs, r2⟩ := Dp.reads I (.tuple ds) y u he ry
    exact SeqAt.notIn_tuple_reads r2 r1 (SeqAt.canLay_of_shaped se) (SeqAt.canLay_of_shaped sd) (room_in_shaped sd hu) ⟨.bl _, H, I, rfl, q⟩
theorem opd_inB {op : CmpOp} {pr : Bool → Bool} (ho : OpR X (compareOp op) (rInS X.K pr)) : OpD X (compareOp op) (oInB pr) := by
  refine ⟨_, ho, fun G H x y p q d e wx wy h Q k => ?_⟩
  unfold oInB at h
  split at h
  · split at h
    · rename_i hs
      cases h
      rw [Bool.and_eq_true] at hs
      refine ⟨_, _, wx.dp e, hs.1, .inl ⟨wy.dp e, hs.2⟩, ?_⟩
      rw [any_py]
      exact k _ G H (Ext.refl e) (.bl _)
    · cases h
  · split at h
    · rename_i hs
      cases h
      rw [Bool.and_eq_true] at hs
      refine ⟨_, _, wx.dp e, hs.1, .inr ⟨wy.dp e, hs.2⟩, ?_⟩
      rw [any_py]
      exact k _ G H (Ext.refl e) (.bl _)
    · cases h
  · cases h
theorem opd_in (hu : X.A.units + 65 < cLine) : OpD X (compareOp .In) oIn := opd_inB (op_inS hu)
theorem opd_notIn (hu : X.A.units + 65 < cLine) : OpD X (compareOp .NotIn) oNotIn := opd_inB (op_notInS hu)
theorem mark_tup {op : CmpOp} {es : List Expr} {pos : Pos} {k : Nat} : behindInMarks op (.Tuple es k pos) = false := rfl

/-! ### isinstance -/
def tyN : D → String
  | .non => "NoneType"
  | .bl _ => "bool"
  | .int _ => "int"
  | .str _ => "str"
  | .tup _ => "tuple"
  | .lst _ => "list"
def oIsi (T : String) (d : D) : Option D := (kitB (tyN d) T).map .bl
theorem Vw.ty {K : PySem.W.Frag} {G H : Hp} {v : V} {d : D} (h : Vw K G H v d) (e : Ex G H) : TyX K H v (.type (tyN d)) := by
  cases d with
  | non => cases h with | v h => cases h; exact .base .non
  | bl b => cases h with | v h => cases h; exact .base (.bl b)
  | int i => cases h with | v h => cases h; exact .base (.int i)
  | str i => cases h with | v h => cases h; exact .base (.str i)
  | tup ds =>
    obtain ⟨a, vs, rfl, s1, _, _⟩ := h.tup e
    rcases s1 with (h1 | ⟨o, h1⟩) | ⟨o, its, n, h1, h2, _⟩
    · exact .base (.tup h1)
    · exact .fTuple h1
    · exact .kTuple h1 h2
  | lst ds =>
    obtain ⟨a, vs, rfl, s1, _⟩ := h.lst e
    rcases s1 with (h1 | ⟨o, h1⟩) | ⟨o, its, n, h1, h2, _⟩
    · exact .base (.lst h1)
    · exact .base (.frz h1)
    · exact .kList h1 h2
theorem pd_isi {T : String} {x : Str} {px : Pos} (hg : Gl X "isinstance") (hm : X.mg "isinstance" = none) (hgT : Gl X x) (hmT : X.mg x = none) (hT : bootBuiltins x = some (.type T)) (ha : PVw X E e f)
    (hn : x ≠ "__name__" := by decide) (hdb : (x == ("__debug__" : Str)) = false := by decide)
    (he : starEach [e, .Name x px] X.env = (false, eval e X.env) :: starEach [.Name x px] X.env := by rfl) (he2 : starEach [.Name x px] X.env = (false, eval (.Name x px) X.env) :: starEach [] X.env := by rfl) (hpl : (backTo pos (starEach [.Name x px] X.env)).any (·.1) = false := by rfl) :
    PD X E (.Call (.Name "isinstance" p) [e, .Name x px] [] pos) (d1 (oIsi T) f) :=
  PE.weak (pe_callB call_isi hg hm (by decide +kernel) (pa_cons ha (pa_cons (pe_bltn (v := .ty T) hgT hmT hT rfl hn hdb) pa_nil he2) he) (by decide) (by decide) he hpl) fun σ H Q ⟨G0, H0, ε, G, ev, q⟩ => by
    refine ⟨G0, H0, ε, G, ev, q.bind fun d v G1 H1 _ x1 w q1 => ?_⟩
    obtain ⟨d', hd, q2⟩ := q1.of
    unfold oIsi at hd
    cases hk : kitB (tyN d) T with
    | none => rw [hk] at hd; cases hd
    | some b =>
      rw [hk] at hd
      cases hd
      exact ⟨v, .ty T, _, _, b, rfl, .ty T, w.ty x1.gh, kit_ty hk, q2 _ G1 H1 (Ext.refl x1.gh) (.bl b)⟩
end

/-! ### lists of truth values, of ints -/
def blsOf : List D → Option (List Bool)
  | [] => some []
  | .bl b :: r => (blsOf r).map (b :: ·)
  | _ :: _ => none
def intsOf : List D → Option (List Int)
  | [] => some []
  | .int b :: r => (intsOf r).map (b :: ·)
  | _ :: _ => none
theorem blsOf_map (bs : List Bool) : blsOf (bs.map D.bl) = some bs := by
  induction bs with
  | nil => rfl
  | cons b r ih => show (blsOf (r.map D.bl)).map (b :: ·) = _; rw [ih]; rfl
theorem intsOf_map (bs : List Int) : intsOf (bs.map D.int) = some bs := by
  induction bs with
  | nil => rfl
  | cons b r ih => show (intsOf (r.map D.int)).map (b :: ·) = _; rw [ih]; rfl
theorem rp_bls {K : PySem.W.Frag} {G : Hp} : ∀ {ds : List D} {vs : List V} {bs : List Bool}, blsOf ds = some bs → RpAll K G vs ds → vs = bs.map V.bl
  | [], _, _, h, .nil => by cases h; rfl
  | .bl b :: r, _, bs, h, .cons h1 h2 => by
    cases hr : blsOf r with
    | none => simp [blsOf, hr] at h
    | some cs =>
      simp [blsOf, hr] at h
      subst h
      cases h1
      rw [rp_bls hr h2]
      rfl
  | .non :: _, _, _, h, _ => nomatch h
  | .int _ :: _, _, _, h, _ => nomatch h
  | .str _ :: _, _, _, h, _ => nomatch h
  | .tup _ :: _, _, _, h, _ => nomatch h
  | .lst _ :: _, _, _, h, _ => nomatch h
theorem rp_ints {K : PySem.W.Frag} {G : Hp} : ∀ {ds : List D} {vs : List V} {bs : List Int}, intsOf ds = some bs → RpAll K G vs ds → vs = bs.map V.int
  | [], _, _, h, .nil => by cases h; rfl
  | .int b :: r, _, bs, h, .cons h1 h2 => by
    cases hr : intsOf r with
    | none => simp [intsOf, hr] at h
    | some cs =>
      simp [intsOf, hr] at h
      subst h
      cases h1
      rw [rp_ints hr h2]
      rfl
  | .non :: _, _, _, h, _ => nomatch h
  | .bl _ :: _, _, _, h, _ => nomatch h
  | .str _ :: _, _, _, h, _ => nomatch h
  | .tup _ :: _, _, _, h, _ => nomatch h
  | .lst _ :: _, _, _, h, _ => nomatch h
def oAll : D → Option D
  | .lst ds => (blsOf ds).map fun bs => .bl (bs.all id)
  | _ => none
def oAny : D → Option D
  | .lst ds => (blsOf ds).map fun bs => .bl (bs.any id)
  | _ => none
def oSum : D → Option D
  | .lst ds => (intsOf ds).map fun bs => .int bs.sum
  | _ => none
@[simp] theorem oAll_lst (ds : List D) : oAll (.lst ds) = (blsOf ds).map fun bs => .bl (bs.all id) := rfl
@[simp] theorem oAny_lst (ds : List D) : oAny (.lst ds) = (blsOf ds).map fun bs => .bl (bs.any id) := rfl
@[simp] theorem oSum_lst (ds : List D) : oSum (.lst ds) = (intsOf ds).map fun bs => .int bs.sum := rfl
section
variable {X : Cx} {E : XK} {e e2 : Expr} {f g : DE} {p pos : Pos}
theorem pd_all (hc : X.calm = true) (hg : Gl X "all") (hm : X.mg "all" = none) (ha : PAw X E [e] (dArgs [f])) (he : starEach [e] X.env = (false, eval e X.env) :: starEach [] X.env := by rfl) : PD X E (.Call (.Name "all" p) [e] [] pos) (d1 oAll f) :=
  PE.weak (pe_callB (cr_all hc) hg hm (by decide +kernel) ha (by decide) (by decide) he) fun σ H Q ⟨G0, H0, ε, G, ev, q⟩ => by
    refine ⟨G0, H0, ε, G, ev, args1 q fun d vs G1 H1 x1 r q1 => ?_⟩
    obtain ⟨v, rfl, w⟩ := vw1 r
    obtain ⟨d', hd, q2⟩ := q1.of
    unfold oAll at hd
    split at hd
    · rename_i ds
      obtain ⟨a, vs, rfl, s1, r1⟩ := w.lst x1.gh
      cases hb : blsOf ds with
      | none => rw [hb] at hd; cases hd
      | some bs =>
        rw [hb] at hd
        cases hd
        exact ⟨a, bs, rfl, rp_bls hb r1 ▸ s1, q2 _ G1 H1 (Ext.refl x1.gh) (.bl _)⟩
    · cases hd
theorem pd_any (hc : X.calm = true) (hg : Gl X "any") (hm : X.mg "any" = none) (ha : PAw X E [e] (dArgs [f])) (he : starEach [e] X.env = (false, eval e X.env) :: starEach [] X.env := by rfl) : PD X E (.Call (.Name "any" p) [e] [] pos) (d1 oAny f) :=
  PE.weak (pe_callB (cr_any hc) hg hm (by decide +kernel) ha (by decide) (by decide) he) fun σ H Q ⟨G0, H0, ε, G, ev, q⟩ => by
    refine ⟨G0, H0, ε, G, ev, args1 q fun d vs G1 H1 x1 r q1 => ?_⟩
    obtain ⟨v, rfl, w⟩ := vw1 r
    obtain ⟨d', hd, q2⟩ := q1.of
    unfold oAny at hd
    split at hd
    · rename_i ds
      obtain ⟨a, vs, rfl, s1, r1⟩ := w.lst x1.gh
      cases hb : blsOf ds with
      | none => rw [hb] at hd; cases hd
      | some bs =>
        rw [hb] at hd
        cases hd
        exact ⟨a, bs, rfl, rp_bls hb r1 ▸ s1, q2 _ G1 H1 (Ext.refl x1.gh) (.bl _)⟩
    · cases hd
theorem pd_sum (hc : X.calm = true) (hg : Gl X "sum") (hm : X.mg "sum" = none) (ha : PAw X E [e] (dArgs [f])) (he : starEach [e] X.env = (false, eval e X.env) :: starEach [] X.env := by rfl) : PD X E (.Call (.Name "sum" p) [e] [] pos) (d1 oSum f) :=
  PE.weak (pe_callB (cr_sum hc) hg hm (by decide +kernel) ha (by decide) (by decide) he) fun σ H Q ⟨G0, H0, ε, G, ev, q⟩ => by
    refine ⟨G0, H0, ε, G, ev, args1 q fun d vs G1 H1 x1 r q1 => ?_⟩
    obtain ⟨v, rfl, w⟩ := vw1 r
    obtain ⟨d', hd, q2⟩ := q1.of
    unfold oSum at hd
    split at hd
    · rename_i ds
      obtain ⟨a, vs, rfl, s1, r1⟩ := w.lst x1.gh
      cases hb : intsOf ds with
      | none => rw [hb] at hd; cases hd
      | some bs =>
        rw [hb] at hd
        cases hd
        exact ⟨a, bs, rfl, rp_ints hb r1 ▸ s1, q2 _ G1 H1 (Ext.refl x1.gh) (.int _)⟩
    · cases hd
/-! ### ** -/
def oPow : D → D → Option D
  | .int i, .int j => if 0 ≤ j ∧ j ≤ 1000000 ∧ i.natAbs < 2 ^ 64 then some (.int (i ^ j.toNat)) else none
  | _, _ => none
theorem opd_pow : OpD X (binaryOp .Pow) oPow := by
  refine ⟨_, op_pow, fun G H x y p q d e wx wy h Q k => ?_⟩
  unfold oPow at h
  split at h
  · split at h
    · rename_i hc; cases h; exact ⟨_, _, wx.int, wy.int, hc, k _ G H (Ext.refl e) (.int _)⟩
    · cases h
  · cases h

/-! ### written tables: texts to ints -/
inductive TabL : List DictEntry → List (Str × Int) → Prop
  | nil : TabL [] []
  | cons {e : DictEntry} {es : List DictEntry} {x : Str} {i : Int} {r : List (Str × Int)} (hk : ∃ t, e.key = .str x t) (hv : ∃ t, e.val = .int i t) : TabL es r → TabL (e :: es) ((x, i) :: r)
def Tab (w : World) (K : PySem.W.Frag) (mg : Str → Option Value) (x : Str) (tab : List (Str × Int)) : Prop :=
  ∃ d es n, mg x = some (.ref d) ∧ KDict K w d es n ∧ TabL es.toList tab
def tabAt (tab : List (Str × Int)) (z : Str) : Option Int := match tab with
  | [] => none
  | (x, i) :: r => if x = z then some i else tabAt r z
theorem tab_find {z : Str} : ∀ {es : List DictEntry} {tab : List (Str × Int)}, TabL es tab → (match tabAt tab z with
    | some i => ∃ e t, es.find? (·.key.isStr z) = some e ∧ e.val = .int i t
    | none => es.find? (·.key.isStr z) = none) ∧ es.any (·.refKey) = false
  | _, _, .nil => ⟨rfl, rfl⟩
  | _, _, @TabL.cons e es x i r ⟨t, hk⟩ ⟨t', hv⟩ h => by
    obtain ⟨h1, h2⟩ := tab_find (z := z) h
    have hr : e.refKey = false := by
      unfold DictEntry.refKey
      rw [hk]
    refine ⟨?_, by rw [List.any_cons, hr, h2]; rfl⟩
    unfold tabAt
    by_cases hx : x = z
    · rw [if_pos hx]
      refine ⟨e, t', ?_, hv⟩
      rw [List.find?_cons_of_pos (by rw [hk, hx]; simp [Value.isStr])]
    · rw [if_neg hx]
      have hn : (e.key.isStr z) = false := by
        rw [hk]
        simp [Value.isStr, hx]
      rw [List.find?_cons_of_neg (by rw [hn]; decide)]
      exact h1
theorem tab_ns {w : World} {K : PySem.W.Frag} {d : Addr} {es : Array DictEntry} {n : Nat} {tab : List (Str × Int)} (hd : KDict K w d es n) (h : TabL es.toList tab) (z : Str) : ∃ r : Option Value, PySem.W.nsIn K d z = some r ∧ (match tabAt tab z with
    | some i => ∃ t, r = some (.int i t)
    | none => r = none) := by
  obtain ⟨h1, h2⟩ := tab_find (z := z) h
  unfold PySem.W.nsIn
  rw [hd.at_]
  dsimp only
  cases ht : tabAt tab z with
  | none =>
    rw [ht] at h1
    have h1 : es.toList.find? (·.key.isStr z) = none := h1
    rw [h1]
    dsimp only
    rw [h2]
    exact ⟨none, rfl, rfl⟩
  | some i =>
    rw [ht] at h1
    obtain ⟨e, t, h3, h4⟩ := h1
    rw [h3]
    exact ⟨_, rfl, t, by rw [h4]⟩
def oTabIn (tab : List (Str × Int)) (p : Bool → Bool) : D → Option D
  | .str z => some (.bl (p (tabAt tab z).isSome))
  | _ => none
def oTabIx (tab : List (Str × Int)) : D → Option D
  | .str z => (tabAt tab z).map .int
  | _ => none
@[simp] theorem oTabIn_str (tab : List (Str × Int)) (p : Bool → Bool) (z : Str) : oTabIn tab p (.str z) = some (.bl (p (tabAt tab z).isSome)) := rfl
@[simp] theorem oTabIx_str (tab : List (Str × Int)) (z : Str) : oTabIx tab (.str z) = (tabAt tab z).map .int := rfl
def rTab (K : PySem.W.Frag) (d : Addr) (p : Bool → Bool) : R2 := fun x y H Q => ∃ (z : Str) (r : Option Value), x = .str z ∧ y = .ref d ∧ PySem.W.nsIn K d z = some r ∧ Q (.bl (p r.isSome)) H
theorem tabin_of {x : Str} {px : Pos} {tab : List (Str × Int)} {d : Addr} {es : Array DictEntry} {n : Nat} {pr : Bool → Bool} (hd : KDict X.K X.w d es n) (ht : TabL es.toList tab) :
    ∀ σ H Q, tG X.K X.mg E (rV X.K) (d1 (oTabIn tab pr) f) σ H Q → tOp (rTab X.K d pr) (tG X.K X.mg E (rW X.K) f) (tC (.ref d)) σ H Q := fun σ H Q ⟨G0, H0, ε, G, ev, q⟩ => by
  refine ⟨G0, H0, ε, G, ev, q.bind fun z v G1 H1 _ x1 w q1 => ?_⟩
  obtain ⟨d', hd', q2⟩ := q1.of
  unfold oTabIn at hd'
  split at hd'
  · rename_i s _
    cases hd'
    obtain ⟨r, h1, h2⟩ := tab_ns hd ht s
    refine ⟨s, r, w.str, rfl, h1, ?_⟩
    have e : r.isSome = (tabAt tab s).isSome := by
      cases hz : tabAt tab s with
      | none => rw [hz] at h2; rw [show r = none from h2]; rfl
      | some i => rw [hz] at h2; obtain ⟨t, rfl⟩ := h2; rfl
    rw [e]
    exact q2 _ G1 H1 (Ext.refl x1.gh) (.bl _)
  · cases hd'
theorem pd_tin {x : Str} {px : Pos} {tab : List (Str × Int)} (hT : Tab X.w X.K X.mg x tab) (hg : Gl X x) (ha : PVw X E e f) (hd : (x == ("__debug__" : Str)) = false := by decide) : PD X E (.Compare e [.In] [.Name x px] pos) (d1 (oTabIn tab id) f) := by
  obtain ⟨d, es, n, hm, hk, ht⟩ := hT
  exact PE.weak (pe_cmpR (show OpR X _ (rTab X.K d id) from op_in_kd hk) ha (pe_glob (v := .ref d) hg hm rfl hd) rfl) (tabin_of (px := px) (x := x) hk ht)
theorem pt_tin {x : Str} {px : Pos} {tab : List (Str × Int)} (hT : Tab X.w X.K X.mg x tab) (hg : Gl X x) (ha : PVw X E e f) (hd : (x == ("__debug__" : Str)) = false := by decide) : PTt X E (.Compare e [.In] [.Name x px] pos) (dTestB (d1 (oTabIn tab id) f)) := by
  obtain ⟨d, es, n, hm, hk, ht⟩ := hT
  exact PT.weak (pt_cmpR (show OpR X _ (rTab X.K d id) from op_in_kd hk) ha (pe_glob (v := .ref d) hg hm rfl hd) rfl) (test_of (tabin_of (px := px) (x := x) hk ht))
theorem pd_tnin {x : Str} {px : Pos} {tab : List (Str × Int)} (hT : Tab X.w X.K X.mg x tab) (hg : Gl X x) (ha : PVw X E e f) (hd : (x == ("__debug__" : Str)) = false := by decide) : PD X E (.Compare e [.NotIn] [.Name x px] pos) (d1 (oTabIn tab not) f) := by
  obtain ⟨d, es, n, hm, hk, ht⟩ := hT
  exact PE.weak (pe_cmpR (show OpR X _ (rTab X.K d not) from op_notIn_kd hk) ha (pe_glob (v := .ref d) hg hm rfl hd) rfl) (tabin_of (px := px) (x := x) hk ht)
theorem pt_tnin {x : Str} {px : Pos} {tab : List (Str × Int)} (hT : Tab X.w X.K X.mg x tab) (hg : Gl X x) (ha : PVw X E e f) (hd : (x == ("__debug__" : Str)) = false := by decide) : PTt X E (.Compare e [.NotIn] [.Name x px] pos) (dTestB (d1 (oTabIn tab not) f)) := by
  obtain ⟨d, es, n, hm, hk, ht⟩ := hT
  exact PT.weak (pt_cmpR (show OpR X _ (rTab X.K d not) from op_notIn_kd hk) ha (pe_glob (v := .ref d) hg hm rfl hd) rfl) (test_of (tabin_of (px := px) (x := x) hk ht))
theorem pd_tix {x : Str} {px : Pos} {tab : List (Str × Int)} (hT : Tab X.w X.K X.mg x tab) (hg : Gl X x) (ha : PVw X E e f) (hs : PlainIx e := by exact fun _ _ => rfl) (hd : (x == ("__debug__" : Str)) = false := by decide) : PD X E (.Subscript (.Name x px) e pos) (d1 (oTabIx tab) f) := by
  obtain ⟨d, es, n, hm, hk, ht⟩ := hT
  refine PE.weak (pe_ix ix_kdict (pe_glob (v := .ref d) hg hm rfl hd) ha hs) fun σ H Q ⟨G0, H0, ε, G, ev, q⟩ => ?_
  refine ⟨G0, H0, ε, G, ev, q.bind fun z v G1 H1 _ x1 w q1 => ?_⟩
  obtain ⟨d', hd', q2⟩ := q1.of
  unfold oTabIx at hd'
  split at hd'
  · rename_i s _
    obtain ⟨r, h1, h2⟩ := tab_ns hk ht s
    cases hz : tabAt tab s with
    | none => rw [hz] at hd'; cases hd'
    | some i =>
      rw [hz] at hd' h2
      cases hd'
      obtain ⟨t, rfl⟩ := h2
      exact ⟨d, s, .int i, rfl, w.str, ⟨es, n, _, hk.at_, hk.lit, h1, ⟨t, rfl⟩⟩, q2 _ G1 H1 (Ext.refl x1.gh) (.int i)⟩
  · cases hd'
/-! ### list(range(n)) -/
theorem rp_rg {K : PySem.W.Frag} {G : Hp} : ∀ ks : List Nat, RpAll K G (ks.map fun i => V.int (0 + (i : Nat))) (ks.map fun (k : Nat) => D.int (0 + k))
  | [] => .nil
  | k :: ks => .cons (.int _) (rp_rg ks)
def lRg1 (f : DE) (ε : Ev) : Out (List D) := (f ε).bind r1F
theorem pf_listR1 {p2 pos2 : Pos} (hc : X.calm = true) (hg : Gl X "list") (hm : X.mg "list" = none) (hg2 : Gl X "range") (hm2 : X.mg "range" = none) (ha : PVw X E e f)
    (na : starEach [e] X.env = (false, eval e X.env) :: starEach [] X.env := by rfl) (na2 : starEach [.Call (.Name "range" p2) [e] [] pos2] X.env = (false, eval (.Call (.Name "range" p2) [e] [] pos2) X.env) :: starEach [] X.env := by rfl) :
    PF X E (.Call (.Name "list" p) [.Call (.Name "range" p2) [e] [] pos2] [] pos) (lRg1 f) :=
  PE.weak (pe_listRg hc hg hm (prg_1 hg2 hm2 ha na) na2) fun σ H Q ⟨G0, H0, ε, G, ev, q⟩ => by
    refine ⟨G0, H0, ε, G, ev, PostF.bind q fun d v G1 H1 _ x1 w q1 => ?_⟩
    cases d with
    | int n =>
      rw [r1F_int] at q1
      split at q1
      · rename_i hb
        refine ⟨n, w.int, ⟨by omega, by omega, by omega, by omega, by omega⟩, fun l hl => q1 l _ G1 _ (Ext.open_ x1.gh hl) hl upd_same (x1.gh.back hl) ?_⟩
        unfold rgV rng
        rw [Int.sub_zero]
        exact rp_rg (List.range n.toNat)
      · exact q1.elim
    | _ => exact q1.elim
/-! ### a, b = x, y -/
@[simp] def sPar2 (i j : Nat) (f g : DE) (ε : Ev) : Fl := bindS (f ε) fun d => bindS (g ε) fun e => .nx ((ε.set i (.val d)).set j (.val e))
@[simp] def sPar3 (i j l : Nat) (f g h : DE) (ε : Ev) : Fl := bindS (f ε) fun d => bindS (g ε) fun e => bindS (h ε) fun k => .nx (((ε.set i (.val d)).set j (.val e)).set l (.val k))
theorem s_par2 (i j : Nat) {x y : Str} {a b : Expr} {px py pt : Pos} {kt k2 pt2} (hc : X.calm = true) (hN : X.N.Nodup) (ha : PD X E a f) (hb : PD X E b g)
    (hi : X.N[i]? = some x := by rfl) (hj : X.N[j]? = some y := by rfl) (hij : i ≠ j := by decide) (hx : X.env.scope.names.lookup x = some .local := by rfl) (hy : X.env.scope.names.lookup y = some .local := by rfl)
    (na : starEach [a, b] X.env = (false, eval a X.env) :: starEach [b] X.env := by rfl) (nb : starEach [b] X.env = (false, eval b X.env) :: starEach [] X.env := by rfl)
    (hw : swappedStores [.Tuple [.Name x px, .Name y py] kt pt] (.Tuple [a, b] k2 pt2) X.env = pure (some [x, y]) := by rfl) (hs : swapsWithSole [.Tuple [.Name x px, .Name y py] kt pt] (.Tuple [a, b] k2 pt2) pos.line X.env = pure false := by rfl) :
    PSd X E (.Assign [.Tuple [.Name x px, .Name y py] kt pt] (.Tuple [a, b] k2 pt2) pos) (sPar2 i j f g) :=
  PS.weak (ps_par hc hN hi hj hij hx hy (pa_cons ha (pa_cons hb pa_nil nb) na) hw hs) fun Dn σ H ⟨G0, H0, ε, G, ev, q⟩ => by
    refine ⟨G0, H0, ε, G, ev, PostS.bind q ev.ext fun d v G1 H1 _ x1 r q1 => ?_⟩
    refine ⟨G0, H0, ε, G1, ev.on x1, PostS.bind q1 (ev.on x1).ext fun d2 v2 G2 H2 _ x2 r2 q2 => ?_⟩
    exact ⟨v, v2, rfl, q2 _ G2 H2 ((((ev.on x1).on x2).setVal (r.up x2.gg)).setVal r2) (Ex.refl _)⟩
theorem s_par3 (i j l : Nat) {x y z : Str} {a b c : Expr} {h : DE} {px py pz pt : Pos} {kt k2 pt2} (hc : X.calm = true) (hN : X.N.Nodup) (ha : PD X E a f) (hb : PD X E b g) (hd : PD X E c h)
    (hi : X.N[i]? = some x := by rfl) (hj : X.N[j]? = some y := by rfl) (hl : X.N[l]? = some z := by rfl) (hij : i ≠ j := by decide) (hil : i ≠ l := by decide) (hjl : j ≠ l := by decide)
    (hx : X.env.scope.names.lookup x = some .local := by rfl) (hy : X.env.scope.names.lookup y = some .local := by rfl) (hz : X.env.scope.names.lookup z = some .local := by rfl)
    (na : starEach [a, b, c] X.env = (false, eval a X.env) :: starEach [b, c] X.env := by rfl) (nb : starEach [b, c] X.env = (false, eval b X.env) :: starEach [c] X.env := by rfl) (nc : starEach [c] X.env = (false, eval c X.env) :: starEach [] X.env := by rfl)
    (hw : swappedStores [.Tuple [.Name x px, .Name y py, .Name z pz] kt pt] (.Tuple [a, b, c] k2 pt2) X.env = pure (some [x, y, z]) := by rfl) (hs : swapsWithSole [.Tuple [.Name x px, .Name y py, .Name z pz] kt pt] (.Tuple [a, b, c] k2 pt2) pos.line X.env = pure false := by rfl) :
    PSd X E (.Assign [.Tuple [.Name x px, .Name y py, .Name z pz] kt pt] (.Tuple [a, b, c] k2 pt2) pos) (sPar3 i j l f g h) :=
  PS.weak (ps_par3 hc hN hi hj hl hij hil hjl hx hy hz (pa_cons ha (pa_cons hb (pa_cons hd pa_nil nc) nb) na) hw hs) fun Dn σ H ⟨G0, H0, ε, G, ev, q⟩ => by
    refine ⟨G0, H0, ε, G, ev, PostS.bind q ev.ext fun d v G1 H1 _ x1 r q1 => ?_⟩
    refine ⟨G0, H0, ε, G1, ev.on x1, PostS.bind q1 (ev.on x1).ext fun d2 v2 G2 H2 _ x2 r2 q2 => ?_⟩
    refine ⟨G0, H0, ε, G2, (ev.on x1).on x2, PostS.bind q2 ((ev.on x1).on x2).ext fun d3 v3 G3 H3 _ x3 r3 q3 => ?_⟩
    exact ⟨v, v2, v3, rfl, q3 _ G3 H3 (((((ev.on x1).on x2).on x3).setVal ((r.up x2.gg).up x3.gg)).setVal (r2.up x3.gg) |>.setVal r3) (Ex.refl _)⟩
end
end PL

set_option Elab.async false
set_option linter.all false
set_option maxRecDepth 100000
set_option maxHeartbeats 4000000
namespace W
open PySem PySem.Spec PyProof.Rows L2 PL
theorem bk_ok {N : List Str} {sc scope : Scope} {own : List (Str × Nat)} (h : blkC N sc scope own = true) : BlkOk N sc scope own := blkOk_by h
/-! the text -/
def topS (i : Nat) : Stmt := PySem.Challenge.pw_rowsong_k01_songs.main.body.getD i (.Pass ⟨0, 0, 0, 0⟩)
abbrev s_is_whole : Stmt := topS 10
theorem sc_is_whole : FnScope ["thing"] ["thing"] (defScope s_is_whole) := ⟨rfl, rfl, rfl, by decide +kernel, rfl, by decide +kernel, by decide +kernel⟩
abbrev s_is_between : Stmt := topS 11
theorem sc_is_between : FnScope ["thing", "low", "high"] ["thing", "low", "high"] (defScope s_is_between) := ⟨rfl, rfl, rfl, by decide +kernel, rfl, by decide +kernel, by decide +kernel⟩
abbrev s_is_sound : Stmt := topS 12
theorem sc_is_sound : FnScope ["thing"] ["thing"] (defScope s_is_sound) := ⟨rfl, rfl, rfl, by decide +kernel, rfl, by decide +kernel, by decide +kernel⟩
abbrev s_is_deed : Stmt := topS 13
theorem sc_is_deed : FnScope ["thing", "places"] ["thing", "places"] (defScope s_is_deed) := ⟨rfl, rfl, rfl, by decide +kernel, rfl, by decide +kernel, by decide +kernel⟩
abbrev s_is_box : Stmt := topS 14
theorem sc_is_box : FnScope ["thing", "places"] ["thing", "places"] (defScope s_is_box) := ⟨rfl, rfl, rfl, by decide +kernel, rfl, by decide +kernel, by decide +kernel⟩
abbrev s_is_row : Stmt := topS 15
theorem sc_is_row : FnScope ["thing", "places", "box"] ["thing", "places"] (defScope s_is_row) := ⟨rfl, rfl, rfl, by decide +kernel, rfl, by decide +kernel, by decide +kernel⟩
abbrev s_is_pattern : Stmt := topS 16
theorem sc_is_pattern : FnScope ["thing", "places", "row"] ["thing", "places"] (defScope s_is_pattern) := ⟨rfl, rfl, rfl, by decide +kernel, rfl, by decide +kernel, by decide +kernel⟩
abbrev s_is_song : Stmt := topS 17
theorem sc_is_song : FnScope ["thing", "pattern", "number", "many", "row"] ["thing"] (defScope s_is_song) := ⟨rfl, rfl, rfl, by decide +kernel, rfl, by decide +kernel, by decide +kernel⟩
abbrev s_L_cell : Stmt := topS 19
theorem sc_L_cell : FnScope ["script", "k"] ["script", "k"] (defScope s_L_cell) := ⟨rfl, rfl, rfl, by decide +kernel, rfl, by decide +kernel, by decide +kernel⟩
abbrev s_L_pick : Stmt := topS 20
theorem sc_L_pick : FnScope ["script", "k", "many", "drawn"] ["script", "k", "many"] (defScope s_L_pick) := ⟨rfl, rfl, rfl, by decide +kernel, rfl, by decide +kernel, by decide +kernel⟩
abbrev s_L_box : Stmt := topS 21
theorem sc_L_box : FnScope ["script", "at", "places", "drawn", "sound", "way", "word", "least"] ["script", "at", "places"] (defScope s_L_box) := ⟨rfl, rfl, rfl, by decide +kernel, rfl, by decide +kernel, by decide +kernel⟩
abbrev s_L_song : Stmt := topS 22
theorem sc_L_song : FnScope ["script", "at", "most", "places", "many", "voices", "patterns", "j", "rows", "k", "base", "v", "order"] ["script", "at", "most"] (defScope s_L_song) := ⟨rfl, rfl, rfl, by decide +kernel, rfl, by decide +kernel, by decide +kernel⟩
abbrev s_L_bad_box : Stmt := topS 23
theorem sc_L_bad_box : FnScope ["box", "places", "cell", "sound", "deed", "some"] ["box", "places", "cell"] (defScope s_L_bad_box) := ⟨rfl, rfl, rfl, by decide +kernel, rfl, by decide +kernel, by decide +kernel⟩
abbrev s_L_whole : Stmt := topS 24
theorem sc_L_whole : FnScope ["song", "cell", "speed", "order", "patterns", "some"] ["song", "cell"] (defScope s_L_whole) := ⟨rfl, rfl, rfl, by decide +kernel, rfl, by decide +kernel, by decide +kernel⟩
abbrev s_L_once : Stmt := topS 25
theorem sc_L_once : FnScope ["script", "song", "cell", "speed", "order", "patterns", "at", "row", "boxes", "voice", "bad", "rows", "many"] ["script"] (defScope s_L_once) := ⟨rfl, rfl, rfl, by decide +kernel, rfl, by decide +kernel, by decide +kernel⟩
abbrev s_law : Stmt := topS 26
theorem sc_law : FnScope ["script", "turn", "cell"] ["script"] (defScope s_law) := ⟨rfl, rfl, rfl, by decide +kernel, rfl, by decide +kernel, by decide +kernel⟩
/-! what it denotes -/
/-- 0 thing -/
def B_is_whole : DS :=
    (sRet (dAnd (d1 (oIsi "int") (dVar 0)) (dNot (d1 (oIsi "bool") (dVar 0)))))
def M_is_whole : List D → Out D := runD 1 B_is_whole
/-- 0 thing, 1 low, 2 high -/
def B_is_between : DS :=
    (sRet (dAnd (dCall M_is_whole (dArgs [(dVar 0)])) (dCh oLe oLe (dVar 1) (dVar 0) (dVar 2))))
def M_is_between : List D → Out D := runD 3 B_is_between
/-- 0 thing -/
def B_is_sound : DS :=
    (sRet (dOr (d2 oIs (dVar 0) (dC .non)) (dOr (dAnd (d1 (oIsi "str") (dVar 0)) (d2 oEq (dVar 0) (dC (.str "off")))) (dCall M_is_between (dArgs [(dVar 0), (dC (.int 0)), (d2 oSub (dC (.int 12)) (dC (.int 1)))])))))
def M_is_sound : List D → Out D := runD 1 B_is_sound
/-- 0 thing, 1 places -/
def B_is_deed : DS :=
    (sSeq (sIf (dTestB (d2 oIs (dVar 0) (dC .non)))
    (sRet (dC (.bl true)))
    sNil)
    (sSeq (sIf (dOrT (dNotT (dTest (d1 (oIsi "tuple") (dVar 0)))) (dOrT (dTestB (d2 oNe (d1 oLen (dVar 0)) (dC (.int 2)))) (dOrT (dNotT (dTest (d1 (oIsi "str") (d2 oIx (dVar 0) (dC (.int 0)))))) (dTestB (d1 (oTabIn [("speed", 1), ("slide", (-6)), ("jump", 0), ("skip", 0), ("again", 1)] not) (d2 oIx (dVar 0) (dC (.int 0))))))))
    (sRet (dC (.bl false)))
    sNil)
    (sSeq (sIf (dNotT (dTest (dCall M_is_between (dArgs [(d2 oIx (dVar 0) (dC (.int 1))), (d1 (oTabIx [("speed", 1), ("slide", (-6)), ("jump", 0), ("skip", 0), ("again", 1)]) (d2 oIx (dVar 0) (dC (.int 0)))), (d1 (oTabIx [("speed", 4), ("slide", 6), ("jump", 5), ("skip", 5), ("again", 3)]) (d2 oIx (dVar 0) (dC (.int 0))))]))))
    (sRet (dC (.bl false)))
    sNil)
    (sRet (dOr (d2 oNe (d2 oIx (dVar 0) (dC (.int 0))) (dC (.str "jump"))) (d2 oLt (d2 oIx (dVar 0) (dC (.int 1))) (dVar 1)))))))
def M_is_deed : List D → Out D := runD 2 B_is_deed
/-- 0 thing, 1 places -/
def B_is_box : DS :=
    (sRet (dAnd (d1 (oIsi "tuple") (dVar 0)) (dAnd (d2 oEq (d1 oLen (dVar 0)) (dC (.int 2))) (dAnd (dCall M_is_sound (dArgs [(d2 oIx (dVar 0) (dC (.int 0)))])) (dCall M_is_deed (dArgs [(d2 oIx (dVar 0) (dC (.int 1))), (dVar 1)]))))))
def M_is_box : List D → Out D := runD 2 B_is_box
/-- 0 thing, 1 places, 2 box -/
abbrev E_is_row_1 : DE :=
    (dCall M_is_box (dArgs [(dVar 2), (dVar 1)]))
def B_is_row : DS :=
    (sSeq (sIf (dOrT (dNotT (dTest (d1 (oIsi "tuple") (dVar 0)))) (dNotT (dTestB (dCh oLe oLe (dC (.int 1)) (d1 oLen (dVar 0)) (dC (.int 3))))))
    (sRet (dC (.bl false)))
    sNil)
    (sRet (d1 oAll (dLst (lComp [2] (iSq (dVar 0)) (tgN 2) dYes E_is_row_1)))))
def M_is_row : List D → Out D := runD 3 B_is_row
/-- 0 thing, 1 places, 2 row -/
abbrev E_is_pattern_1 : DE :=
    (dCall M_is_row (dArgs [(dVar 2), (dVar 1)]))
def B_is_pattern : DS :=
    (sSeq (sIf (dOrT (dNotT (dTest (d1 (oIsi "tuple") (dVar 0)))) (dNotT (dTestB (dCh oLe oLe (dC (.int 1)) (d1 oLen (dVar 0)) (dC (.int 6))))))
    (sRet (dC (.bl false)))
    sNil)
    (sRet (d1 oAll (dLst (lComp [2] (iSq (dVar 0)) (tgN 2) dYes E_is_pattern_1)))))
def M_is_pattern : List D → Out D := runD 3 B_is_pattern
/-- 0 thing, 1 pattern, 2 number, 3 many, 4 row -/
abbrev E_is_song_1 : DE :=
    (dCall M_is_pattern (dArgs [(dVar 1), (d1 oLen (d2 oIx (dVar 0) (dC (.int 1))))]))
abbrev E_is_song_2 : DE :=
    (dCall M_is_between (dArgs [(dVar 2), (dC (.int 0)), (d2 oSub (d1 oLen (d2 oIx (dVar 0) (dC (.int 2)))) (dC (.int 1)))]))
abbrev E_is_song_3 : DE :=
    (d2 oEq (d1 oLen (dVar 4)) (dVar 3))
abbrev E_is_song_4 : DE :=
    (d1 oAll (dLst (lComp [4] (iSq (dVar 1)) (tgN 4) dYes E_is_song_3)))
def B_is_song : DS :=
    (sSeq (sIf (dOrT (dNotT (dTest (d1 (oIsi "tuple") (dVar 0)))) (dOrT (dTestB (d2 oNe (d1 oLen (dVar 0)) (dC (.int 3)))) (dNotT (dTest (dCall M_is_between (dArgs [(d2 oIx (dVar 0) (dC (.int 0))), (dC (.int 1)), (dC (.int 4))]))))))
    (sRet (dC (.bl false)))
    sNil)
    (sSeq (sIf (dOrT (dNotT (dTest (d1 (oIsi "tuple") (d2 oIx (dVar 0) (dC (.int 1)))))) (dNotT (dTestB (dCh oLe oLe (dC (.int 1)) (d1 oLen (d2 oIx (dVar 0) (dC (.int 1)))) (dC (.int 6))))))
    (sRet (dC (.bl false)))
    sNil)
    (sSeq (sIf (dOrT (dNotT (dTest (d1 (oIsi "tuple") (d2 oIx (dVar 0) (dC (.int 2)))))) (dNotT (dTestB (dCh oLe oLe (dC (.int 1)) (d1 oLen (d2 oIx (dVar 0) (dC (.int 2)))) (dC (.int 6))))))
    (sRet (dC (.bl false)))
    sNil)
    (sSeq (sIf (dNotT (dTest (d1 oAll (dLst (lComp [1] (iSq (d2 oIx (dVar 0) (dC (.int 2)))) (tgN 1) dYes E_is_song_1)))))
    (sRet (dC (.bl false)))
    sNil)
    (sSeq (sIf (dNotT (dTest (d1 oAll (dLst (lComp [2] (iSq (d2 oIx (dVar 0) (dC (.int 1)))) (tgN 2) dYes E_is_song_2)))))
    (sRet (dC (.bl false)))
    sNil)
    (sSeq (sSet 3 (d1 oLen (d2 oIx (d2 oIx (d2 oIx (dVar 0) (dC (.int 2))) (dC (.int 0))) (dC (.int 0)))))
    (sRet (d1 oAll (dLst (lComp [1] (iSq (d2 oIx (dVar 0) (dC (.int 2)))) (tgN 1) dYes E_is_song_4))))))))))
def M_is_song : List D → Out D := runD 5 B_is_song
/-- 0 script, 1 k -/
def B_L_cell : DS :=
    (sSeq (sIf (dTestB (d2 oLt (dVar 1) (d1 oLen (dVar 0))))
    (sRet (d2 oIx (dVar 0) (dVar 1)))
    sNil)
    (sSeq (sIf (dTestB (d2 oEq (dVar 0) (dLst (lLst []))))
    (sRet (dC (.int 0)))
    sNil)
    (sRet (d2 oAdd (d2 oMul (d2 oIx (dVar 0) (d2 oMod (dVar 1) (d1 oLen (dVar 0)))) (dC (.int 31))) (dVar 1)))))
def M_L_cell : List D → Out D := runD 2 B_L_cell
/-- 0 script, 1 k, 2 many, 3 drawn -/
def B_L_pick : DS :=
    (sSeq (sSet 3 (d2 oMod (d2 oMul (d2 oAdd (dCall M_L_cell (dArgs [(dVar 0), (dVar 1)])) (d2 oMul (dC (.int 6151)) (d2 oAdd (dVar 1) (dC (.int 1))))) (dC (.int 40692))) (dC (.int 2147483399))))
    (sRet (d2 oMod (d2 oMod (d2 oAdd (d2 oMul (dVar 3) (dVar 3)) (d2 oFdiv (dVar 3) (dC (.int 31)))) (dC (.int 2147483629))) (dVar 2))))
def M_L_pick : List D → Out D := runD 4 B_L_pick
/-- 0 script, 1 at, 2 places, 3 drawn, 4 sound, 5 way, 6 word, 7 least -/
def B_L_box : DS :=
    (sSeq (sSet 3 (dCall M_L_pick (dArgs [(dVar 0), (dVar 1), (dC (.int 6))])))
    (sSeq (sSet 4 (dC .non))
    (sSeq (sIf (dTestB (d2 oGt (dVar 3) (dC (.int 2))))
    (sSet 4 (dIf (dTestB (d2 oEq (dVar 3) (dC (.int 3)))) (dC (.str "off")) (dCall M_L_pick (dArgs [(dVar 0), (d2 oAdd (dVar 1) (dC (.int 1))), (dC (.int 12))]))))
    sNil)
    (sSeq (sSet 5 (dCall M_L_pick (dArgs [(dVar 0), (d2 oAdd (dVar 1) (dC (.int 2))), (dC (.int 12))])))
    (sSeq (sIf (dTestB (d2 oGt (dVar 5) (dC (.int 5))))
    (sRet (dTup [(dVar 4), (dC .non)]))
    sNil)
    (sSeq (sSet 6 (d2 oIx (dLst (lLst [(dC (.str "speed")), (dC (.str "slide")), (dC (.str "slide")), (dC (.str "jump")), (dC (.str "skip")), (dC (.str "again"))])) (dVar 5)))
    (sSeq (sSet 7 (d2 oIx (dLst (lLst [(dC (.int 1)), (d1 oNeg (dC (.int 6))), (d1 oNeg (dC (.int 6))), (dC (.int 0)), (dC (.int 0)), (dC (.int 1))])) (dVar 5)))
    (sRet (dTup [(dVar 4), (dTup [(dVar 6), (d2 oAdd (dVar 7) (dCall M_L_pick (dArgs [(dVar 0), (d2 oAdd (dVar 1) (dC (.int 3))), (d2 oIx (dLst (lLst [(dC (.int 3)), (dC (.int 13)), (dC (.int 13)), (dVar 2), (dC (.int 6)), (dC (.int 2))])) (dVar 5))])))])])))))))))
def M_L_box : List D → Out D := runD 8 B_L_box
/-- 0 script, 1 at, 2 most, 3 places, 4 many, 5 voices, 6 patterns, 7 j, 8 rows, 9 k, 10 base, 11 v, 12 order -/
abbrev E_L_song_1 : DE :=
    (dCall M_L_box (dArgs [(dVar 0), (d2 oAdd (dVar 10) (d2 oMul (dC (.int 4)) (dVar 11))), (dVar 3)]))
abbrev B_L_song_1 : DS :=
    (sSeq (sSet 10 (d2 oAdd (d2 oAdd (d2 oAdd (dVar 1) (dC (.int 20))) (d2 oMul (dC (.int 50)) (dVar 7))) (d2 oMul (dC (.int 12)) (dVar 9))))
    (sApp 8 (d1 oTuple (dLst (lComp [11] (iR1 (dVar 5)) (tgN 11) dYes E_L_song_1)))))
abbrev B_L_song_2 : DS :=
    (sSeq (sOwn 8 (lLst []))
    (sSeq (sFor (iR1 (d2 oAdd (dC (.int 1)) (dCall M_L_pick (dArgs [(dVar 0), (d2 oAdd (d2 oAdd (dVar 1) (dC (.int 4))) (dVar 7)), (dVar 2)])))) (tgN 9)
    B_L_song_1)
    (sApp 6 (d1 oTuple (vVar 8)))))
abbrev E_L_song_2 : DE :=
    (dCall M_L_pick (dArgs [(dVar 0), (d2 oAdd (d2 oAdd (dVar 1) (dC (.int 8))) (dVar 9)), (dVar 4)]))
def B_L_song : DS :=
    (sSeq (sSet 3 (d2 oAdd (dC (.int 1)) (dCall M_L_pick (dArgs [(dVar 0), (dVar 1), (dVar 2)]))))
    (sSeq (sSet 4 (d2 oAdd (dC (.int 1)) (dCall M_L_pick (dArgs [(dVar 0), (d2 oAdd (dVar 1) (dC (.int 1))), (dC (.int 3))]))))
    (sSeq (sSet 5 (d2 oIx (dLst (lLst [(dC (.int 1)), (dC (.int 1)), (dC (.int 2)), (dC (.int 3))])) (dCall M_L_pick (dArgs [(dVar 0), (d2 oAdd (dVar 1) (dC (.int 2))), (dC (.int 4))]))))
    (sSeq (sOwn 6 (lLst []))
    (sSeq (sFor (iR1 (dVar 4)) (tgN 7)
    B_L_song_2)
    (sSeq (sSet 12 (d1 oTuple (dLst (lComp [9] (iR1 (dVar 3)) (tgN 9) dYes E_L_song_2))))
    (sRet (dTup [(d2 oAdd (dC (.int 1)) (dCall M_L_pick (dArgs [(dVar 0), (d2 oAdd (dVar 1) (dC (.int 3))), (dC (.int 4))]))), (dVar 12), (d1 oTuple (vVar 6))]))))))))
def M_L_song : List D → Out D := runD 13 B_L_song
/-- 0 box, 1 places, 2 cell, 3 sound, 4 deed, 5 some -/
def B_L_bad_box : DS :=
    (sSeq (sAsg (dVar 0) (tgT [(tgN 3), (tgN 4)]))
    (sSeq (sOwn 5 (lLst [(dTup [(dC (.int 12)), (dVar 4)]), (dTup [(d1 oNeg (dC (.int 1))), (dVar 4)]), (dTup [(dC (.bl true)), (dVar 4)]), (dTup [(dC (.str "of")), (dVar 4)]), (dTup [(dTup []), (dVar 4)]), (dTup [(dVar 3)]), (dTup [(dVar 3), (dVar 4), (dC (.int 0))]), (dLst (lLst [(dVar 3), (dVar 4)]))]))
    (sSeq (sExt 5 (dLst (lLst [(dTup [(dVar 3), (dTup [(dC (.str "speed")), (dC (.int 0))])]), (dTup [(dVar 3), (dTup [(dC (.str "speed")), (dC (.int 5))])]), (dTup [(dVar 3), (dTup [(dC (.str "slide")), (dC (.int 7))])]), (dTup [(dVar 3), (dTup [(dC (.str "slide")), (d1 oNeg (dC (.int 7)))])]), (dC .non)])))
    (sSeq (sExt 5 (dLst (lLst [(dTup [(dVar 3), (dTup [(dC (.str "jump")), (dVar 1)])]), (dTup [(dVar 3), (dTup [(dC (.str "jump")), (d1 oNeg (dC (.int 1)))])]), (dTup [(dVar 3), (dTup [(dC (.str "skip")), (dC (.int 6))])]), (dTup [(dVar 3), (dTup [(dC (.str "again")), (dC (.int 0))])])])))
    (sSeq (sExt 5 (dLst (lLst [(dTup [(dVar 3), (dTup [(dC (.str "again")), (dC (.int 4))])]), (dTup [(dVar 3), (dTup [(dC (.str "stop")), (dC (.int 1))])]), (dTup [(dVar 3), (dTup [(dC (.str "speed"))])]), (dTup [(dVar 3), (dC (.str "speed"))])])))
    (sSeq (sApp 5 (dTup [(dVar 3), (dTup [(dC (.str "skip")), (dC (.bl true))])]))
    (sSeq (sExt 5 (dLst (lLst [(dTup [(dVar 3), (dLst (lLst [(dC (.str "skip")), (dC (.int 1))]))]), (dTup [(dVar 3), (dTup [(dC (.str "skip")), (dC .non)])]), (dTup [(dVar 3), (dTup [(dC (.int 1)), (dC (.int 1))])]), (dTup [(dVar 3), (dTup [])]), (dC (.str "off")), (dC (.int 0))])))
    (sRet (d2 oIx (vVar 5) (d2 oMod (dVar 2) (dC (.int 28))))))))))))
def M_L_bad_box : List D → Out D := runD 6 B_L_bad_box
/-- 0 song, 1 cell, 2 speed, 3 order, 4 patterns, 5 some -/
def B_L_whole : DS :=
    (sSeq (sAsg (dVar 0) (tgT [(tgN 2), (tgN 3), (tgN 4)]))
    (sSeq (sOwn 5 (lLst [(dLst (lList (dVar 0))), (dSl (dVar 0) none (some (dC (.int 2)))), (d2 oAdd (dVar 0) (dTup [(dC (.int 0))])), (dTup [(dC (.int 0)), (dVar 3), (dVar 4)]), (dTup [(dC (.int 5)), (dVar 3), (dVar 4)]), (dTup [(dC (.bl true)), (dVar 3), (dVar 4)])]))
    (sSeq (sExt 5 (dLst (lLst [(dTup [(dVar 2), (dTup []), (dVar 4)]), (dTup [(dVar 2), (dVar 3), (dTup [])]), (dTup [(dVar 2), (dLst (lList (dVar 3))), (dVar 4)])])))
    (sSeq (sApp 5 (dTup [(dVar 2), (dVar 3), (dLst (lList (dVar 4)))]))
    (sSeq (sExt 5 (dLst (lLst [(dTup [(dVar 2), (d2 oAdd (dVar 3) (dTup [(d1 oLen (dVar 4))])), (dVar 4)]), (dTup [(dVar 2), (dTup [(d1 oNeg (dC (.int 1)))]), (dVar 4)]), (dTup [(dVar 2), (dTup [(dC (.bl true))]), (dVar 4)])])))
    (sSeq (sApp 5 (dC .non))
    (sSeq (sExt 5 (dLst (lLst [(dTup [(dVar 2), (dVar 3), (d2 oAdd (dVar 4) (dTup [(dTup [])]))]), (dTup [(dVar 2), (dVar 3), (d2 oAdd (dVar 4) (dTup [(dC .non)]))]), (dTup [(dVar 2), (dC .non), (dVar 4)]), (dTup [])])))
    (sRet (d2 oIx (vVar 5) (d2 oMod (dVar 1) (dC (.int 18))))))))))))
def M_L_whole : List D → Out D := runD 6 B_L_whole
/-- 0 script, 1 song, 2 cell, 3 speed, 4 order, 5 patterns, 6 at, 7 row, 8 boxes, 9 voice, 10 bad, 11 rows, 12 many -/
def B_L_once : DS :=
    (sSeq (sSet 1 (dCall M_L_song (dArgs [(dVar 0), (dC (.int 0)), (dC (.int 4))])))
    (sSeq (sIf (dTestB (d2 oIsNot (dCall M_is_song (dArgs [(dVar 1)])) (dC (.bl true))))
    (sRet (dC (.bl false)))
    sNil)
    (sSeq (sSet 2 (dCall M_L_pick (dArgs [(dVar 0), (dC (.int 200)), (d2 oPow (dC (.int 10)) (dC (.int 6)))])))
    (sSeq (sIf (dTestB (d2 oIsNot (dCall M_is_song (dArgs [(dCall M_L_whole (dArgs [(dVar 1), (dVar 2)]))])) (dC (.bl false))))
    (sRet (dC (.bl false)))
    sNil)
    (sSeq (sAsg (dVar 1) (tgT [(tgN 3), (tgN 4), (tgN 5)]))
    (sSeq (sSet 6 (dCall M_L_pick (dArgs [(dVar 0), (dC (.int 201)), (d1 oLen (dVar 5))])))
    (sSeq (sSet 7 (dCall M_L_pick (dArgs [(dVar 0), (dC (.int 202)), (d1 oLen (d2 oIx (dVar 5) (dVar 6)))])))
    (sSeq (sSet 8 (d2 oIx (d2 oIx (dVar 5) (dVar 6)) (dVar 7)))
    (sSeq (sSet 9 (dCall M_L_pick (dArgs [(dVar 0), (dC (.int 203)), (d1 oLen (dVar 8))])))
    (sSeq (sSet 10 (d2 oAdd (d2 oAdd (dSl (dVar 8) none (some (dVar 9))) (dTup [(dCall M_L_bad_box (dArgs [(d2 oIx (dVar 8) (dVar 9)), (d1 oLen (dVar 4)), (dVar 2)]))])) (dSl (dVar 8) (some (d2 oAdd (dVar 9) (dC (.int 1)))) none)))
    (sSeq (sIf (dTestB (d2 oEq (dCall M_L_pick (dArgs [(dVar 0), (dC (.int 204)), (dC (.int 3))])) (dC (.int 0))))
    (sSeq (sSet 10 (d2 oIx (dLst (lLst [(d2 oAdd (dVar 8) (dSl (dVar 8) none (some (dC (.int 1))))), (dSl (dVar 8) none (some (d1 oNeg (dC (.int 1))))), (dTup []), (dLst (lList (dVar 8))), (dC .non)])) (d2 oMod (dVar 2) (dC (.int 5)))))
    (sIf (dAndT (dTestB (d2 oEq (d1 oLen (dVar 5)) (dC (.int 1)))) (dTestB (d2 oEq (d1 oLen (d2 oIx (dVar 5) (dC (.int 0)))) (dC (.int 1)))))
    (sSet 10 (d2 oIx (dLst (lLst [(dTup []), (dLst (lList (dVar 8))), (dC .non)])) (d2 oMod (dVar 2) (dC (.int 3)))))
    sNil))
    sNil)
    (sSeq (sSet 11 (d2 oAdd (d2 oAdd (dSl (d2 oIx (dVar 5) (dVar 6)) none (some (dVar 7))) (dTup [(dVar 10)])) (dSl (d2 oIx (dVar 5) (dVar 6)) (some (d2 oAdd (dVar 7) (dC (.int 1)))) none)))
    (sSeq (sIf (dTestB (d2 oIsNot (dCall M_is_song (dArgs [(dTup [(dVar 3), (dVar 4), (d2 oAdd (d2 oAdd (dSl (dVar 5) none (some (dVar 6))) (dTup [(dVar 11)])) (dSl (dVar 5) (some (d2 oAdd (dVar 6) (dC (.int 1)))) none))])])) (dC (.bl false))))
    (sRet (dC (.bl false)))
    sNil)
    (sSeq (sSet 12 (d2 oAdd (dC (.int 5)) (d2 oMod (dVar 2) (dC (.int 3)))))
    (sSeq (sSet 7 (dTup [(dTup [(dC .non), (dC .non)])]))
    (sSeq (sIf (dOrT (dTestB (d2 oNe (dCall M_is_song (dArgs [(dTup [(dC (.int 1)), (d2 oMul (dTup [(dC (.int 0))]) (dVar 12)), (dTup [(dTup [(dVar 7)])])])])) (d2 oLt (dVar 12) (dC (.int 7))))) (dTestB (d2 oNe (dCall M_is_song (dArgs [(dTup [(dC (.int 1)), (dTup [(dC (.int 0))]), (d2 oMul (dTup [(dTup [(dVar 7)])]) (dVar 12))])])) (d2 oLt (dVar 12) (dC (.int 7))))))
    (sRet (dC (.bl false)))
    sNil)
    (sSeq (sIf (dTestB (d2 oNe (dCall M_is_song (dArgs [(dTup [(dC (.int 1)), (dTup [(dC (.int 0))]), (dTup [(d2 oMul (dTup [(dVar 7)]) (dVar 12))])])])) (d2 oLt (dVar 12) (dC (.int 7)))))
    (sRet (dC (.bl false)))
    sNil)
    (sRet (d2 oEq (dCall M_is_song (dArgs [(dTup [(dC (.int 1)), (dTup [(dC (.int 0))]), (dTup [(dTup [(d2 oMul (dVar 7) (d2 oSub (dVar 12) (dC (.int 3))))])])])])) (d2 oLt (dVar 12) (dC (.int 7))))))))))))))))))))))
def M_L_once : List D → Out D := runD 13 B_L_once
/-- 0 script, 1 turn, 2 cell -/
abbrev E_law_1 : DE :=
    (d2 oAdd (dVar 2) (d2 oMul (dC (.int 7919)) (dVar 1)))
abbrev B_law_1 : DS :=
    (sSeq (sIf (dNotT (dTest (dCall M_L_once (dArgs [(dLst (lComp [2] (iSq (dVar 0)) (tgN 2) dYes E_law_1))]))))
    (sRet (dC (.bl false)))
    sNil)
    (sIf (dTestB (d2 oEq (dVar 0) (dLst (lLst []))))
    sBrk
    sNil))
def B_law : DS :=
    (sSeq (sFor (iR1 (dC (.int 8))) (tgN 1)
    B_law_1)
    (sRet (dC (.bl true))))
def M_law : List D → Out D := runD 3 B_law
/-! what the top leaves -/
structure Top (w : World) (K : PySem.W.Frag) (mg : Str → Option Value) where
  f_is_whole : Addr
  fd_is_whole : FuncData
  F_is_whole : Fun K "is_whole" "is_whole" s_is_whole f_is_whole fd_is_whole
  b_is_whole : Binds K fd_is_whole ["thing"] []
  g_is_whole : mg "is_whole" = some (.ref f_is_whole)
  f_is_between : Addr
  fd_is_between : FuncData
  F_is_between : Fun K "is_between" "is_between" s_is_between f_is_between fd_is_between
  b_is_between : Binds K fd_is_between ["thing", "low", "high"] []
  g_is_between : mg "is_between" = some (.ref f_is_between)
  f_is_sound : Addr
  fd_is_sound : FuncData
  F_is_sound : Fun K "is_sound" "is_sound" s_is_sound f_is_sound fd_is_sound
  b_is_sound : Binds K fd_is_sound ["thing"] []
  g_is_sound : mg "is_sound" = some (.ref f_is_sound)
  f_is_deed : Addr
  fd_is_deed : FuncData
  F_is_deed : Fun K "is_deed" "is_deed" s_is_deed f_is_deed fd_is_deed
  b_is_deed : Binds K fd_is_deed ["thing", "places"] []
  g_is_deed : mg "is_deed" = some (.ref f_is_deed)
  f_is_box : Addr
  fd_is_box : FuncData
  F_is_box : Fun K "is_box" "is_box" s_is_box f_is_box fd_is_box
  b_is_box : Binds K fd_is_box ["thing", "places"] []
  g_is_box : mg "is_box" = some (.ref f_is_box)
  f_is_row : Addr
  fd_is_row : FuncData
  F_is_row : Fun K "is_row" "is_row" s_is_row f_is_row fd_is_row
  b_is_row : Binds K fd_is_row ["thing", "places"] []
  g_is_row : mg "is_row" = some (.ref f_is_row)
  f_is_pattern : Addr
  fd_is_pattern : FuncData
  F_is_pattern : Fun K "is_pattern" "is_pattern" s_is_pattern f_is_pattern fd_is_pattern
  b_is_pattern : Binds K fd_is_pattern ["thing", "places"] []
  g_is_pattern : mg "is_pattern" = some (.ref f_is_pattern)
  f_is_song : Addr
  fd_is_song : FuncData
  F_is_song : Fun K "is_song" "is_song" s_is_song f_is_song fd_is_song
  b_is_song : Binds K fd_is_song ["thing"] []
  g_is_song : mg "is_song" = some (.ref f_is_song)
  f_L_cell : Addr
  fd_L_cell : FuncData
  F_L_cell : Fun K "_law_cell" "_law_cell" s_L_cell f_L_cell fd_L_cell
  b_L_cell : Binds K fd_L_cell ["script", "k"] []
  g_L_cell : mg "_law_cell" = some (.ref f_L_cell)
  f_L_pick : Addr
  fd_L_pick : FuncData
  F_L_pick : Fun K "_law_pick" "_law_pick" s_L_pick f_L_pick fd_L_pick
  b_L_pick : Binds K fd_L_pick ["script", "k", "many"] []
  g_L_pick : mg "_law_pick" = some (.ref f_L_pick)
  f_L_box : Addr
  fd_L_box : FuncData
  F_L_box : Fun K "_law_box" "_law_box" s_L_box f_L_box fd_L_box
  b_L_box : Binds K fd_L_box ["script", "at", "places"] []
  g_L_box : mg "_law_box" = some (.ref f_L_box)
  f_L_song : Addr
  fd_L_song : FuncData
  F_L_song : Fun K "_law_song" "_law_song" s_L_song f_L_song fd_L_song
  b_L_song : Binds K fd_L_song ["script", "at", "most"] []
  g_L_song : mg "_law_song" = some (.ref f_L_song)
  f_L_bad_box : Addr
  fd_L_bad_box : FuncData
  F_L_bad_box : Fun K "_law_bad_box" "_law_bad_box" s_L_bad_box f_L_bad_box fd_L_bad_box
  b_L_bad_box : Binds K fd_L_bad_box ["box", "places", "cell"] []
  g_L_bad_box : mg "_law_bad_box" = some (.ref f_L_bad_box)
  f_L_whole : Addr
  fd_L_whole : FuncData
  F_L_whole : Fun K "_law_whole" "_law_whole" s_L_whole f_L_whole fd_L_whole
  b_L_whole : Binds K fd_L_whole ["song", "cell"] []
  g_L_whole : mg "_law_whole" = some (.ref f_L_whole)
  f_L_once : Addr
  fd_L_once : FuncData
  F_L_once : Fun K "_law_once" "_law_once" s_L_once f_L_once fd_L_once
  b_L_once : Binds K fd_L_once ["script"] []
  g_L_once : mg "_law_once" = some (.ref f_L_once)
  f_law : Addr
  fd_law : FuncData
  F_law : Fun K "law" "law" s_law f_law fd_law
  b_law : Binds K fd_law ["script"] []
  g_law : mg "law" = some (.ref f_law)
  n_all : mg "all" = none
  n_bool : mg "bool" = none
  n_int : mg "int" = none
  n_isinstance : mg "isinstance" = none
  n_len : mg "len" = none
  n_list : mg "list" = none
  n_range : mg "range" = none
  n_str : mg "str" = none
  n_tuple : mg "tuple" = none
  c_FASTEST : ∃ t, mg "FASTEST" = some (.int 1 t)
  c_GREATEST : Tab w K mg "GREATEST" [("speed", 4), ("slide", 6), ("jump", 5), ("skip", 5), ("again", 3)]
  c_HEIGHTS : ∃ t, mg "HEIGHTS" = some (.int 12 t)
  c_LEAST : Tab w K mg "LEAST" [("speed", 1), ("slide", (-6)), ("jump", 0), ("skip", 0), ("again", 1)]
  c_MOST_PATTERNS : ∃ t, mg "MOST_PATTERNS" = some (.int 6 t)
  c_MOST_PLACES : ∃ t, mg "MOST_PLACES" = some (.int 6 t)
  c_MOST_ROWS : ∃ t, mg "MOST_ROWS" = some (.int 6 t)
  c_MOST_VOICES : ∃ t, mg "MOST_VOICES" = some (.int 3 t)
  c_SLOWEST : ∃ t, mg "SLOWEST" = some (.int 4 t)
section
variable {P : Program} {w : World} {K : PySem.W.Frag} {mg : Str → Option Value} {base : Heap}
theorem ok_is_whole (T : Top w K mg) : FnOk P w K mg base CX0 1 T.f_is_whole T.fd_is_whole ["thing"] (spD K mg 1 M_is_whole) :=
  def_M (fb := B_is_whole) T.F_is_whole sc_is_whole rfl rfl (fun cdv A outer s H E hr =>
      (ss_one (s_ret (pd_and (pd_isi (T := "int") (by rfl) T.n_isinstance (by rfl) T.n_int (by decide +kernel) (pw_of (pd_var 0))) (pd_one (pd_not (pw_of (pd_isi (T := "bool") (by rfl) T.n_isinstance (by rfl) T.n_bool (by decide +kernel) (pw_of (pd_var 0))))))))))
theorem ok_is_between (T : Top w K mg) : FnOk P w K mg base CX0 2 T.f_is_between T.fd_is_between ["thing", "low", "high"] (spD K mg 3 M_is_between) :=
  def_M (fb := B_is_between) T.F_is_between sc_is_between rfl rfl (fun cdv A outer s H E hr =>
      (ss_one (s_ret (pd_and (pd_call (ok_is_whole T) hr (by rfl) T.g_is_whole T.F_is_whole.kp T.b_is_whole (pa_c (pd_var 0) pa_n)) (pd_one (pd_ch opd_le opd_le (pw_of (pd_var 1)) (pw_of (pd_var 0)) (pw_of (pd_var 2))))))))
theorem ok_is_sound (T : Top w K mg) : FnOk P w K mg base CX0 3 T.f_is_sound T.fd_is_sound ["thing"] (spD K mg 1 M_is_sound) :=
  def_M (fb := B_is_sound) T.F_is_sound sc_is_sound rfl rfl (fun cdv A outer s H E hr =>
      (ss_one (s_ret (pd_or (pd_cmp opd_is (pw_of (pd_var 0)) (pw_of pd_non) (nomark _)) (pd_or (pd_and (pd_isi (T := "str") (by rfl) T.n_isinstance (by rfl) T.n_str (by decide +kernel) (pw_of (pd_var 0))) (pd_one (pd_cmp (opd_eq hr.units) (pw_of (pd_var 0)) (pw_of pd_str) (nomark _)))) (pd_one (pd_call (ok_is_between T) hr (by rfl) T.g_is_between T.F_is_between.kp T.b_is_between (pa_c (pd_var 0) (pa_c pd_int (pa_c (pd_op opd_sub (pw_of (pd_gint (by rfl) T.c_HEIGHTS)) (pw_of pd_int)) pa_n))))))))))
theorem ok_is_deed (T : Top w K mg) : FnOk P w K mg base CX0 3 T.f_is_deed T.fd_is_deed ["thing", "places"] (spD K mg 2 M_is_deed) :=
  def_M (fb := B_is_deed) T.F_is_deed sc_is_deed rfl rfl (fun cdv A outer s H E hr =>
      (ss_cons (s_if (pt_cmp opd_is (pw_of (pd_var 0)) (pw_of pd_non) (nomark _))
      (ss_one (s_ret pd_bl))
      ss_nil)
      (ss_cons (s_if (pt_w (pw_o (pt_no (pt_of (pw_of (pd_isi (T := "tuple") (by rfl) T.n_isinstance (by rfl) T.n_tuple (by decide +kernel) (pw_of (pd_var 0)))))) (pw_o (pt_cmp (opd_ne hr.units) (pw_of (pd_len (by rfl) T.n_len (pv_c (pw_of (pd_var 0)) pv_n))) (pw_of pd_int) (nomark _)) (pw_o (pt_no (pt_of (pw_of (pd_isi (T := "str") (by rfl) T.n_isinstance (by rfl) T.n_str (by decide +kernel) (pw_of (pd_ix (pw_of (pd_var 0)) (pw_of pd_int))))))) (pw_o1 (pt_tnin T.c_LEAST (by rfl) (pw_of (pd_ix (pw_of (pd_var 0)) (pw_of pd_int)))))))))
      (ss_one (s_ret pd_bl))
      ss_nil)
      (ss_cons (s_if (pt_no (pt_of (pw_of (pd_call (ok_is_between T) hr (by rfl) T.g_is_between T.F_is_between.kp T.b_is_between (pa_c (pd_ix (pw_of (pd_var 0)) (pw_of pd_int)) (pa_c (pd_tix T.c_LEAST (by rfl) (pw_of (pd_ix (pw_of (pd_var 0)) (pw_of pd_int)))) (pa_c (pd_tix T.c_GREATEST (by rfl) (pw_of (pd_ix (pw_of (pd_var 0)) (pw_of pd_int)))) pa_n)))))))
      (ss_one (s_ret pd_bl))
      ss_nil)
      (ss_one (s_ret (pd_or (pd_cmp (opd_ne hr.units) (pw_of (pd_ix (pw_of (pd_var 0)) (pw_of pd_int))) (pw_of pd_str) (nomark _)) (pd_one (pd_cmp opd_lt (pw_of (pd_ix (pw_of (pd_var 0)) (pw_of pd_int))) (pw_of (pd_var 1)) (nomark _))))))))))
theorem ok_is_box (T : Top w K mg) : FnOk P w K mg base CX0 4 T.f_is_box T.fd_is_box ["thing", "places"] (spD K mg 2 M_is_box) :=
  def_M (fb := B_is_box) T.F_is_box sc_is_box rfl rfl (fun cdv A outer s H E hr =>
      (ss_one (s_ret (pd_and (pd_isi (T := "tuple") (by rfl) T.n_isinstance (by rfl) T.n_tuple (by decide +kernel) (pw_of (pd_var 0))) (pd_and (pd_cmp (opd_eq hr.units) (pw_of (pd_len (by rfl) T.n_len (pv_c (pw_of (pd_var 0)) pv_n))) (pw_of pd_int) (nomark _)) (pd_and (pd_call (ok_is_sound T) hr (by rfl) T.g_is_sound T.F_is_sound.kp T.b_is_sound (pa_c (pd_ix (pw_of (pd_var 0)) (pw_of pd_int)) pa_n)) (pd_one (pd_call (ok_is_deed T) hr (by rfl) T.g_is_deed T.F_is_deed.kp T.b_is_deed (pa_c (pd_ix (pw_of (pd_var 0)) (pw_of pd_int)) (pa_c (pd_var 1) pa_n))))))))))
theorem ok_is_row (T : Top w K mg) : FnOk P w K mg base CX0 5 T.f_is_row T.fd_is_row ["thing", "places"] (spD K mg 2 M_is_row) :=
  def_M (fb := B_is_row) T.F_is_row sc_is_row rfl rfl (fun cdv A outer s H E hr =>
      (ss_cons (s_if (pt_w (pw_o (pt_no (pt_of (pw_of (pd_isi (T := "tuple") (by rfl) T.n_isinstance (by rfl) T.n_tuple (by decide +kernel) (pw_of (pd_var 0)))))) (pw_o1 (pt_no (pt_ch opd_le opd_le (pw_of pd_int) (pw_of (pd_len (by rfl) T.n_len (pv_c (pw_of (pd_var 0)) pv_n))) (pw_of (pd_gint (by rfl) T.c_MOST_VOICES)))))))
      (ss_one (s_ret pd_bl))
      ss_nil)
      (ss_one (s_ret (pd_all rfl (by rfl) T.n_all (pv_c (pw_of (pd_of (pf_lc (own := [("box", 2)]) rfl sc_is_row.nd (pi_sq (pd_var 0)) (bk_ok rfl) (fun _ _ _ _ _ => (g_name 2 sc_is_row.nd)) (fun _ _ _ _ _ => pts_y) (fun _ _ _ _ _ => (pd_call (ok_is_box T) hr (by rfl) T.g_is_box T.F_is_box.kp T.b_is_box (pa_c (pd_var 2) (pa_c (pd_var 1) pa_n))))))) pv_n))))))
theorem ok_is_pattern (T : Top w K mg) : FnOk P w K mg base CX0 6 T.f_is_pattern T.fd_is_pattern ["thing", "places"] (spD K mg 2 M_is_pattern) :=
  def_M (fb := B_is_pattern) T.F_is_pattern sc_is_pattern rfl rfl (fun cdv A outer s H E hr =>
      (ss_cons (s_if (pt_w (pw_o (pt_no (pt_of (pw_of (pd_isi (T := "tuple") (by rfl) T.n_isinstance (by rfl) T.n_tuple (by decide +kernel) (pw_of (pd_var 0)))))) (pw_o1 (pt_no (pt_ch opd_le opd_le (pw_of pd_int) (pw_of (pd_len (by rfl) T.n_len (pv_c (pw_of (pd_var 0)) pv_n))) (pw_of (pd_gint (by rfl) T.c_MOST_ROWS)))))))
      (ss_one (s_ret pd_bl))
      ss_nil)
      (ss_one (s_ret (pd_all rfl (by rfl) T.n_all (pv_c (pw_of (pd_of (pf_lc (own := [("row", 2)]) rfl sc_is_pattern.nd (pi_sq (pd_var 0)) (bk_ok rfl) (fun _ _ _ _ _ => (g_name 2 sc_is_pattern.nd)) (fun _ _ _ _ _ => pts_y) (fun _ _ _ _ _ => (pd_call (ok_is_row T) hr (by rfl) T.g_is_row T.F_is_row.kp T.b_is_row (pa_c (pd_var 2) (pa_c (pd_var 1) pa_n))))))) pv_n))))))
theorem ok_is_song (T : Top w K mg) : FnOk P w K mg base CX0 7 T.f_is_song T.fd_is_song ["thing"] (spD K mg 1 M_is_song) :=
  def_M (fb := B_is_song) T.F_is_song sc_is_song rfl rfl (fun cdv A outer s H E hr =>
      (ss_cons (s_if (pt_w (pw_o (pt_no (pt_of (pw_of (pd_isi (T := "tuple") (by rfl) T.n_isinstance (by rfl) T.n_tuple (by decide +kernel) (pw_of (pd_var 0)))))) (pw_o (pt_cmp (opd_ne hr.units) (pw_of (pd_len (by rfl) T.n_len (pv_c (pw_of (pd_var 0)) pv_n))) (pw_of pd_int) (nomark _)) (pw_o1 (pt_no (pt_of (pw_of (pd_call (ok_is_between T) (hr.mono (by decide)) (by rfl) T.g_is_between T.F_is_between.kp T.b_is_between (pa_c (pd_ix (pw_of (pd_var 0)) (pw_of pd_int)) (pa_c (pd_gint (by rfl) T.c_FASTEST) (pa_c (pd_gint (by rfl) T.c_SLOWEST) pa_n)))))))))))
      (ss_one (s_ret pd_bl))
      ss_nil)
      (ss_cons (s_if (pt_w (pw_o (pt_no (pt_of (pw_of (pd_isi (T := "tuple") (by rfl) T.n_isinstance (by rfl) T.n_tuple (by decide +kernel) (pw_of (pd_ix (pw_of (pd_var 0)) (pw_of pd_int))))))) (pw_o1 (pt_no (pt_ch opd_le opd_le (pw_of pd_int) (pw_of (pd_len (by rfl) T.n_len (pv_c (pw_of (pd_ix (pw_of (pd_var 0)) (pw_of pd_int))) pv_n))) (pw_of (pd_gint (by rfl) T.c_MOST_PLACES)))))))
      (ss_one (s_ret pd_bl))
      ss_nil)
      (ss_cons (s_if (pt_w (pw_o (pt_no (pt_of (pw_of (pd_isi (T := "tuple") (by rfl) T.n_isinstance (by rfl) T.n_tuple (by decide +kernel) (pw_of (pd_ix (pw_of (pd_var 0)) (pw_of pd_int))))))) (pw_o1 (pt_no (pt_ch opd_le opd_le (pw_of pd_int) (pw_of (pd_len (by rfl) T.n_len (pv_c (pw_of (pd_ix (pw_of (pd_var 0)) (pw_of pd_int))) pv_n))) (pw_of (pd_gint (by rfl) T.c_MOST_PATTERNS)))))))
      (ss_one (s_ret pd_bl))
      ss_nil)
      (ss_cons (s_if (pt_no (pt_of (pw_of (pd_all rfl (by rfl) T.n_all (pv_c (pw_of (pd_of (pf_lc (own := [("pattern", 1)]) rfl sc_is_song.nd (pi_sq (pd_ix (pw_of (pd_var 0)) (pw_of pd_int))) (bk_ok rfl) (fun _ _ _ _ _ => (g_name 1 sc_is_song.nd)) (fun _ _ _ _ _ => pts_y) (fun _ _ _ _ _ => (pd_call (ok_is_pattern T) hr (by rfl) T.g_is_pattern T.F_is_pattern.kp T.b_is_pattern (pa_c (pd_var 1) (pa_c (pd_len (by rfl) T.n_len (pv_c (pw_of (pd_ix (pw_of (pd_var 0)) (pw_of pd_int))) pv_n)) pa_n))))))) pv_n)))))
      (ss_one (s_ret pd_bl))
      ss_nil)
      (ss_cons (s_if (pt_no (pt_of (pw_of (pd_all rfl (by rfl) T.n_all (pv_c (pw_of (pd_of (pf_lc (own := [("number", 2)]) rfl sc_is_song.nd (pi_sq (pd_ix (pw_of (pd_var 0)) (pw_of pd_int))) (bk_ok rfl) (fun _ _ _ _ _ => (g_name 2 sc_is_song.nd)) (fun _ _ _ _ _ => pts_y) (fun _ _ _ _ _ => (pd_call (ok_is_between T) (hr.mono (by decide)) (by rfl) T.g_is_between T.F_is_between.kp T.b_is_between (pa_c (pd_var 2) (pa_c pd_int (pa_c (pd_op opd_sub (pw_of (pd_len (by rfl) T.n_len (pv_c (pw_of (pd_ix (pw_of (pd_var 0)) (pw_of pd_int))) pv_n))) (pw_of pd_int)) pa_n)))))))) pv_n)))))
      (ss_one (s_ret pd_bl))
      ss_nil)
      (ss_cons (s_set 3 sc_is_song.nd (pd_len (by rfl) T.n_len (pv_c (pw_of (pd_ix (pw_of (pd_ix (pw_of (pd_ix (pw_of (pd_var 0)) (pw_of pd_int))) (pw_of pd_int))) (pw_of pd_int))) pv_n)))
      (ss_one (s_ret (pd_all rfl (by rfl) T.n_all (pv_c (pw_of (pd_of (pf_lc (own := [("pattern", 1)]) rfl sc_is_song.nd (pi_sq (pd_ix (pw_of (pd_var 0)) (pw_of pd_int))) (bk_ok rfl) (fun _ _ _ _ _ => (g_name 1 sc_is_song.nd)) (fun _ _ _ _ _ => pts_y) (fun _ _ _ _ _ => (pd_all rfl (by rfl) T.n_all (pv_c (pw_of (pd_of (pf_lc (own := [("row", 4)]) rfl sc_is_song.nd (pi_sq (pd_var 1)) (bk_ok rfl) (fun _ _ _ _ _ => (g_name 4 sc_is_song.nd)) (fun _ _ _ _ _ => pts_y) (fun _ _ _ _ _ => (pd_cmp (opd_eq hr.units) (pw_of (pd_len (by rfl) T.n_len (pv_c (pw_of (pd_var 4)) pv_n))) (pw_of (pd_var 3)) (nomark _)))))) pv_n)))))) pv_n)))))))))))
theorem ok_L_cell (T : Top w K mg) : FnOk P w K mg base CX0 1 T.f_L_cell T.fd_L_cell ["script", "k"] (spD K mg 2 M_L_cell) :=
  def_M (fb := B_L_cell) T.F_L_cell sc_L_cell rfl rfl (fun cdv A outer s H E hr =>
      (ss_cons (s_if (pt_cmp opd_lt (pw_of (pd_var 1)) (pw_of (pd_len (by rfl) T.n_len (pv_c (pw_of (pd_var 0)) pv_n))) (nomark _))
      (ss_one (s_ret (pd_ix (pw_of (pd_var 0)) (pw_of (pd_var 1)))))
      ss_nil)
      (ss_cons (s_if (pt_cmp (opd_eq hr.units) (pw_of (pd_var 0)) (pw_of (pd_of (pf_lst pa_n))) (nomark _))
      (ss_one (s_ret pd_int))
      ss_nil)
      (ss_one (s_ret (pd_op opd_add (pw_of (pd_op opd_mul (pw_of (pd_ix (pw_of (pd_var 0)) (pw_of (pd_op opd_mod (pw_of (pd_var 1)) (pw_of (pd_len (by rfl) T.n_len (pv_c (pw_of (pd_var 0)) pv_n))))))) (pw_of pd_int))) (pw_of (pd_var 1))))))))
theorem ok_L_pick (T : Top w K mg) : FnOk P w K mg base CX0 2 T.f_L_pick T.fd_L_pick ["script", "k", "many"] (spD K mg 3 M_L_pick) :=
  def_M (fb := B_L_pick) T.F_L_pick sc_L_pick rfl rfl (fun cdv A outer s H E hr =>
      (ss_cons (s_set 3 sc_L_pick.nd (pd_op opd_mod (pw_of (pd_op opd_mul (pw_of (pd_op opd_add (pw_of (pd_call (ok_L_cell T) hr (by rfl) T.g_L_cell T.F_L_cell.kp T.b_L_cell (pa_c (pd_var 0) (pa_c (pd_var 1) pa_n)))) (pw_of (pd_op opd_mul (pw_of pd_int) (pw_of (pd_op opd_add (pw_of (pd_var 1)) (pw_of pd_int))))))) (pw_of pd_int))) (pw_of pd_int)))
      (ss_one (s_ret (pd_op opd_mod (pw_of (pd_op opd_mod (pw_of (pd_op opd_add (pw_of (pd_op opd_mul (pw_of (pd_var 3)) (pw_of (pd_var 3)))) (pw_of (pd_op opd_fdiv (pw_of (pd_var 3)) (pw_of pd_int))))) (pw_of pd_int))) (pw_of (pd_var 2)))))))
theorem ok_L_box (T : Top w K mg) : FnOk P w K mg base CX0 3 T.f_L_box T.fd_L_box ["script", "at", "places"] (spD K mg 3 M_L_box) :=
  def_M (fb := B_L_box) T.F_L_box sc_L_box rfl rfl (fun cdv A outer s H E hr =>
      (ss_cons (s_set 3 sc_L_box.nd (pd_call (ok_L_pick T) hr (by rfl) T.g_L_pick T.F_L_pick.kp T.b_L_pick (pa_c (pd_var 0) (pa_c (pd_var 1) (pa_c pd_int pa_n)))))
      (ss_cons (s_set 4 sc_L_box.nd pd_non)
      (ss_cons (s_if (pt_cmp opd_gt (pw_of (pd_var 3)) (pw_of pd_int) (nomark _))
      (ss_one (s_set 4 sc_L_box.nd (pd_if (pt_cmp (opd_eq hr.units) (pw_of (pd_var 3)) (pw_of pd_int) (nomark _)) pd_str (pd_call (ok_L_pick T) hr (by rfl) T.g_L_pick T.F_L_pick.kp T.b_L_pick (pa_c (pd_var 0) (pa_c (pd_op opd_add (pw_of (pd_var 1)) (pw_of pd_int)) (pa_c pd_int pa_n)))))))
      ss_nil)
      (ss_cons (s_set 5 sc_L_box.nd (pd_call (ok_L_pick T) hr (by rfl) T.g_L_pick T.F_L_pick.kp T.b_L_pick (pa_c (pd_var 0) (pa_c (pd_op opd_add (pw_of (pd_var 1)) (pw_of pd_int)) (pa_c pd_int pa_n)))))
      (ss_cons (s_if (pt_cmp opd_gt (pw_of (pd_var 5)) (pw_of pd_int) (nomark _))
      (ss_one (s_ret (pd_tup (pa_c (pd_var 4) (pa_c pd_non pa_n)))))
      ss_nil)
      (ss_cons (s_set 6 sc_L_box.nd (pd_ix (pw_of (pd_of (pf_lst (pa_c pd_str (pa_c pd_str (pa_c pd_str (pa_c pd_str (pa_c pd_str (pa_c pd_str pa_n))))))))) (pw_of (pd_var 5))))
      (ss_cons (s_set 7 sc_L_box.nd (pd_ix (pw_of (pd_of (pf_lst (pa_c pd_int (pa_c (pd_neg (pw_of pd_int)) (pa_c (pd_neg (pw_of pd_int)) (pa_c pd_int (pa_c pd_int (pa_c pd_int pa_n))))))))) (pw_of (pd_var 5))))
      (ss_one (s_ret (pd_tup (pa_c (pd_var 4) (pa_c (pd_tup (pa_c (pd_var 6) (pa_c (pd_op opd_add (pw_of (pd_var 7)) (pw_of (pd_call (ok_L_pick T) hr (by rfl) T.g_L_pick T.F_L_pick.kp T.b_L_pick (pa_c (pd_var 0) (pa_c (pd_op opd_add (pw_of (pd_var 1)) (pw_of pd_int)) (pa_c (pd_ix (pw_of (pd_of (pf_lst (pa_c pd_int (pa_c pd_int (pa_c pd_int (pa_c (pd_var 2) (pa_c pd_int (pa_c pd_int pa_n))))))))) (pw_of (pd_var 5))) pa_n)))))) pa_n))) pa_n)))))))))))))
theorem ok_L_song (T : Top w K mg) : FnOk P w K mg base CX0 4 T.f_L_song T.fd_L_song ["script", "at", "most"] (spD K mg 3 M_L_song) :=
  def_M (fb := B_L_song) T.F_L_song sc_L_song rfl rfl (fun cdv A outer s H E hr =>
      (ss_cons (s_set 3 sc_L_song.nd (pd_op opd_add (pw_of pd_int) (pw_of (pd_call (ok_L_pick T) (hr.mono (by decide)) (by rfl) T.g_L_pick T.F_L_pick.kp T.b_L_pick (pa_c (pd_var 0) (pa_c (pd_var 1) (pa_c (pd_var 2) pa_n)))))))
      (ss_cons (s_set 4 sc_L_song.nd (pd_op opd_add (pw_of pd_int) (pw_of (pd_call (ok_L_pick T) (hr.mono (by decide)) (by rfl) T.g_L_pick T.F_L_pick.kp T.b_L_pick (pa_c (pd_var 0) (pa_c (pd_op opd_add (pw_of (pd_var 1)) (pw_of pd_int)) (pa_c pd_int pa_n)))))))
      (ss_cons (s_set 5 sc_L_song.nd (pd_ix (pw_of (pd_of (pf_lst (pa_c pd_int (pa_c pd_int (pa_c pd_int (pa_c pd_int pa_n))))))) (pw_of (pd_call (ok_L_pick T) (hr.mono (by decide)) (by rfl) T.g_L_pick T.F_L_pick.kp T.b_L_pick (pa_c (pd_var 0) (pa_c (pd_op opd_add (pw_of (pd_var 1)) (pw_of pd_int)) (pa_c pd_int pa_n)))))))
      (ss_cons (s_own 6 sc_L_song.nd (pf_lst pa_n))
      (ss_cons (s_for PassesOwn.never rfl (pi_r1 (by rfl) T.n_range (pv_c (pw_of (pd_var 4)) pv_n)) (g_name 7 sc_L_song.nd)
      (ss_cons (s_own 8 sc_L_song.nd (pf_lst pa_n))
      (ss_cons (s_for PassesOwn.never rfl (pi_r1 (by rfl) T.n_range (pv_c (pw_of (pd_op opd_add (pw_of pd_int) (pw_of (pd_call (ok_L_pick T) (hr.mono (by decide)) (by rfl) T.g_L_pick T.F_L_pick.kp T.b_L_pick (pa_c (pd_var 0) (pa_c (pd_op opd_add (pw_of (pd_op opd_add (pw_of (pd_var 1)) (pw_of pd_int))) (pw_of (pd_var 7))) (pa_c (pd_var 2) pa_n))))))) pv_n)) (g_name 9 sc_L_song.nd)
      (ss_cons (s_set 10 sc_L_song.nd (pd_op opd_add (pw_of (pd_op opd_add (pw_of (pd_op opd_add (pw_of (pd_var 1)) (pw_of pd_int))) (pw_of (pd_op opd_mul (pw_of pd_int) (pw_of (pd_var 7)))))) (pw_of (pd_op opd_mul (pw_of pd_int) (pw_of (pd_var 9))))))
      (ss_one (s_app 8 (pd_tuple (by rfl) T.n_tuple (pv_c (pw_of (pd_of (pf_lc (own := [("v", 11)]) rfl sc_L_song.nd (pi_r1 (by rfl) T.n_range (pv_c (pw_of (pd_var 5)) pv_n)) (bk_ok rfl) (fun _ _ _ _ _ => (g_name 11 sc_L_song.nd)) (fun _ _ _ _ _ => pts_y) (fun _ _ _ _ _ => (pd_call (ok_L_box T) hr (by rfl) T.g_L_box T.F_L_box.kp T.b_L_box (pa_c (pd_var 0) (pa_c (pd_op opd_add (pw_of (pd_var 10)) (pw_of (pd_op opd_mul (pw_of pd_int) (pw_of (pd_var 11))))) (pa_c (pd_var 3) pa_n)))))))) pv_n))))))
      (ss_one (s_app 6 (pd_tuple (by rfl) T.n_tuple (pv_c (pw_var 8) pv_n)))))))
      (ss_cons (s_set 12 sc_L_song.nd (pd_tuple (by rfl) T.n_tuple (pv_c (pw_of (pd_of (pf_lc (own := [("k", 9)]) rfl sc_L_song.nd (pi_r1 (by rfl) T.n_range (pv_c (pw_of (pd_var 3)) pv_n)) (bk_ok rfl) (fun _ _ _ _ _ => (g_name 9 sc_L_song.nd)) (fun _ _ _ _ _ => pts_y) (fun _ _ _ _ _ => (pd_call (ok_L_pick T) (hr.mono (by decide)) (by rfl) T.g_L_pick T.F_L_pick.kp T.b_L_pick (pa_c (pd_var 0) (pa_c (pd_op opd_add (pw_of (pd_op opd_add (pw_of (pd_var 1)) (pw_of pd_int))) (pw_of (pd_var 9))) (pa_c (pd_var 4) pa_n)))))))) pv_n)))
      (ss_one (s_ret (pd_tup (pa_c (pd_op opd_add (pw_of pd_int) (pw_of (pd_call (ok_L_pick T) (hr.mono (by decide)) (by rfl) T.g_L_pick T.F_L_pick.kp T.b_L_pick (pa_c (pd_var 0) (pa_c (pd_op opd_add (pw_of (pd_var 1)) (pw_of pd_int)) (pa_c pd_int pa_n)))))) (pa_c (pd_var 12) (pa_c (pd_tuple (by rfl) T.n_tuple (pv_c (pw_var 6) pv_n)) pa_n)))))))))))))
theorem ok_L_bad_box (T : Top w K mg) : FnOk P w K mg base CX0 1 T.f_L_bad_box T.fd_L_bad_box ["box", "places", "cell"] (spD K mg 3 M_L_bad_box) :=
  def_M (fb := B_L_bad_box) T.F_L_bad_box sc_L_bad_box rfl rfl (fun cdv A outer s H E hr =>
      (ss_cons (s_asg (pd_var 0) (g_tup rfl (g_cons (g_name 3 sc_L_bad_box.nd) (g_cons (g_name 4 sc_L_bad_box.nd) g_nil))))
      (ss_cons (s_own 5 sc_L_bad_box.nd (pf_lst (pa_c (pd_tup (pa_c pd_int (pa_c (pd_var 4) pa_n))) (pa_c (pd_tup (pa_c (pd_neg (pw_of pd_int)) (pa_c (pd_var 4) pa_n))) (pa_c (pd_tup (pa_c pd_bl (pa_c (pd_var 4) pa_n))) (pa_c (pd_tup (pa_c pd_str (pa_c (pd_var 4) pa_n))) (pa_c (pd_tup (pa_c (pd_tup pa_n) (pa_c (pd_var 4) pa_n))) (pa_c (pd_tup (pa_c (pd_var 3) pa_n)) (pa_c (pd_tup (pa_c (pd_var 3) (pa_c (pd_var 4) (pa_c pd_int pa_n)))) (pa_c (pd_of (pf_lst (pa_c (pd_var 3) (pa_c (pd_var 4) pa_n)))) pa_n))))))))))
      (ss_cons (s_ext 5 (pw_of (pd_of (pf_lst (pa_c (pd_tup (pa_c (pd_var 3) (pa_c (pd_tup (pa_c pd_str (pa_c pd_int pa_n))) pa_n))) (pa_c (pd_tup (pa_c (pd_var 3) (pa_c (pd_tup (pa_c pd_str (pa_c pd_int pa_n))) pa_n))) (pa_c (pd_tup (pa_c (pd_var 3) (pa_c (pd_tup (pa_c pd_str (pa_c pd_int pa_n))) pa_n))) (pa_c (pd_tup (pa_c (pd_var 3) (pa_c (pd_tup (pa_c pd_str (pa_c (pd_neg (pw_of pd_int)) pa_n))) pa_n))) (pa_c pd_non pa_n)))))))))
      (ss_cons (s_ext 5 (pw_of (pd_of (pf_lst (pa_c (pd_tup (pa_c (pd_var 3) (pa_c (pd_tup (pa_c pd_str (pa_c (pd_var 1) pa_n))) pa_n))) (pa_c (pd_tup (pa_c (pd_var 3) (pa_c (pd_tup (pa_c pd_str (pa_c (pd_neg (pw_of pd_int)) pa_n))) pa_n))) (pa_c (pd_tup (pa_c (pd_var 3) (pa_c (pd_tup (pa_c pd_str (pa_c pd_int pa_n))) pa_n))) (pa_c (pd_tup (pa_c (pd_var 3) (pa_c (pd_tup (pa_c pd_str (pa_c pd_int pa_n))) pa_n))) pa_n))))))))
      (ss_cons (s_ext 5 (pw_of (pd_of (pf_lst (pa_c (pd_tup (pa_c (pd_var 3) (pa_c (pd_tup (pa_c pd_str (pa_c pd_int pa_n))) pa_n))) (pa_c (pd_tup (pa_c (pd_var 3) (pa_c (pd_tup (pa_c pd_str (pa_c pd_int pa_n))) pa_n))) (pa_c (pd_tup (pa_c (pd_var 3) (pa_c (pd_tup (pa_c pd_str pa_n)) pa_n))) (pa_c (pd_tup (pa_c (pd_var 3) (pa_c pd_str pa_n))) pa_n))))))))
      (ss_cons (s_app 5 (pd_tup (pa_c (pd_var 3) (pa_c (pd_tup (pa_c pd_str (pa_c pd_bl pa_n))) pa_n))))
      (ss_cons (s_ext 5 (pw_of (pd_of (pf_lst (pa_c (pd_tup (pa_c (pd_var 3) (pa_c (pd_of (pf_lst (pa_c pd_str (pa_c pd_int pa_n)))) pa_n))) (pa_c (pd_tup (pa_c (pd_var 3) (pa_c (pd_tup (pa_c pd_str (pa_c pd_non pa_n))) pa_n))) (pa_c (pd_tup (pa_c (pd_var 3) (pa_c (pd_tup (pa_c pd_int (pa_c pd_int pa_n))) pa_n))) (pa_c (pd_tup (pa_c (pd_var 3) (pa_c (pd_tup pa_n) pa_n))) (pa_c pd_str (pa_c pd_int pa_n))))))))))
      (ss_one (s_ret (pd_ix (pw_var 5) (pw_of (pd_op opd_mod (pw_of (pd_var 2)) (pw_of pd_int))))))))))))))
theorem ok_L_whole (T : Top w K mg) : FnOk P w K mg base CX0 1 T.f_L_whole T.fd_L_whole ["song", "cell"] (spD K mg 2 M_L_whole) :=
  def_M (fb := B_L_whole) T.F_L_whole sc_L_whole rfl rfl (fun cdv A outer s H E hr =>
      (ss_cons (s_asg (pd_var 0) (g_tup rfl (g_cons (g_name 2 sc_L_whole.nd) (g_cons (g_name 3 sc_L_whole.nd) (g_cons (g_name 4 sc_L_whole.nd) g_nil)))))
      (ss_cons (s_own 5 sc_L_whole.nd (pf_lst (pa_c (pd_of (pf_list (by rfl) T.n_list (pv_c (pw_of (pd_var 0)) pv_n))) (pa_c (pd_sl (pw_of (pd_var 0)) pp_n (pp_s (pw_of pd_int))) (pa_c (pd_op opd_add (pw_of (pd_var 0)) (pw_of (pd_tup (pa_c pd_int pa_n)))) (pa_c (pd_tup (pa_c pd_int (pa_c (pd_var 3) (pa_c (pd_var 4) pa_n)))) (pa_c (pd_tup (pa_c pd_int (pa_c (pd_var 3) (pa_c (pd_var 4) pa_n)))) (pa_c (pd_tup (pa_c pd_bl (pa_c (pd_var 3) (pa_c (pd_var 4) pa_n)))) pa_n))))))))
      (ss_cons (s_ext 5 (pw_of (pd_of (pf_lst (pa_c (pd_tup (pa_c (pd_var 2) (pa_c (pd_tup pa_n) (pa_c (pd_var 4) pa_n)))) (pa_c (pd_tup (pa_c (pd_var 2) (pa_c (pd_var 3) (pa_c (pd_tup pa_n) pa_n)))) (pa_c (pd_tup (pa_c (pd_var 2) (pa_c (pd_of (pf_list (by rfl) T.n_list (pv_c (pw_of (pd_var 3)) pv_n))) (pa_c (pd_var 4) pa_n)))) pa_n)))))))
      (ss_cons (s_app 5 (pd_tup (pa_c (pd_var 2) (pa_c (pd_var 3) (pa_c (pd_of (pf_list (by rfl) T.n_list (pv_c (pw_of (pd_var 4)) pv_n))) pa_n)))))
      (ss_cons (s_ext 5 (pw_of (pd_of (pf_lst (pa_c (pd_tup (pa_c (pd_var 2) (pa_c (pd_op opd_add (pw_of (pd_var 3)) (pw_of (pd_tup (pa_c (pd_len (by rfl) T.n_len (pv_c (pw_of (pd_var 4)) pv_n)) pa_n)))) (pa_c (pd_var 4) pa_n)))) (pa_c (pd_tup (pa_c (pd_var 2) (pa_c (pd_tup (pa_c (pd_neg (pw_of pd_int)) pa_n)) (pa_c (pd_var 4) pa_n)))) (pa_c (pd_tup (pa_c (pd_var 2) (pa_c (pd_tup (pa_c pd_bl pa_n)) (pa_c (pd_var 4) pa_n)))) pa_n)))))))
      (ss_cons (s_app 5 pd_non)
      (ss_cons (s_ext 5 (pw_of (pd_of (pf_lst (pa_c (pd_tup (pa_c (pd_var 2) (pa_c (pd_var 3) (pa_c (pd_op opd_add (pw_of (pd_var 4)) (pw_of (pd_tup (pa_c (pd_tup pa_n) pa_n)))) pa_n)))) (pa_c (pd_tup (pa_c (pd_var 2) (pa_c (pd_var 3) (pa_c (pd_op opd_add (pw_of (pd_var 4)) (pw_of (pd_tup (pa_c pd_non pa_n)))) pa_n)))) (pa_c (pd_tup (pa_c (pd_var 2) (pa_c pd_non (pa_c (pd_var 4) pa_n)))) (pa_c (pd_tup pa_n) pa_n))))))))
      (ss_one (s_ret (pd_ix (pw_var 5) (pw_of (pd_op opd_mod (pw_of (pd_var 1)) (pw_of pd_int))))))))))))))
theorem ok_L_once (T : Top w K mg) : FnOk P w K mg base CX0 8 T.f_L_once T.fd_L_once ["script"] (spD K mg 1 M_L_once) :=
  def_M (fb := B_L_once) T.F_L_once sc_L_once rfl rfl (fun cdv A outer s H E hr =>
      (ss_cons (s_set 1 sc_L_once.nd (pd_call (ok_L_song T) (hr.mono (by decide)) (by rfl) T.g_L_song T.F_L_song.kp T.b_L_song (pa_c (pd_var 0) (pa_c pd_int (pa_c pd_int pa_n)))))
      (ss_cons (s_if (pt_cmp opd_isNot (pw_of (pd_call (ok_is_song T) hr (by rfl) T.g_is_song T.F_is_song.kp T.b_is_song (pa_c (pd_var 1) pa_n))) (pw_of pd_bl) (nomark _))
      (ss_one (s_ret pd_bl))
      ss_nil)
      (ss_cons (s_set 2 sc_L_once.nd (pd_call (ok_L_pick T) (hr.mono (by decide)) (by rfl) T.g_L_pick T.F_L_pick.kp T.b_L_pick (pa_c (pd_var 0) (pa_c pd_int (pa_c (pd_op opd_pow (pw_of pd_int) (pw_of pd_int)) pa_n)))))
      (ss_cons (s_if (pt_cmp opd_isNot (pw_of (pd_call (ok_is_song T) hr (by rfl) T.g_is_song T.F_is_song.kp T.b_is_song (pa_c (pd_call (ok_L_whole T) (hr.mono (by decide)) (by rfl) T.g_L_whole T.F_L_whole.kp T.b_L_whole (pa_c (pd_var 1) (pa_c (pd_var 2) pa_n))) pa_n))) (pw_of pd_bl) (nomark _))
      (ss_one (s_ret pd_bl))
      ss_nil)
      (ss_cons (s_asg (pd_var 1) (g_tup rfl (g_cons (g_name 3 sc_L_once.nd) (g_cons (g_name 4 sc_L_once.nd) (g_cons (g_name 5 sc_L_once.nd) g_nil)))))
      (ss_cons (s_set 6 sc_L_once.nd (pd_call (ok_L_pick T) (hr.mono (by decide)) (by rfl) T.g_L_pick T.F_L_pick.kp T.b_L_pick (pa_c (pd_var 0) (pa_c pd_int (pa_c (pd_len (by rfl) T.n_len (pv_c (pw_of (pd_var 5)) pv_n)) pa_n)))))
      (ss_cons (s_set 7 sc_L_once.nd (pd_call (ok_L_pick T) (hr.mono (by decide)) (by rfl) T.g_L_pick T.F_L_pick.kp T.b_L_pick (pa_c (pd_var 0) (pa_c pd_int (pa_c (pd_len (by rfl) T.n_len (pv_c (pw_of (pd_ix (pw_of (pd_var 5)) (pw_of (pd_var 6)))) pv_n)) pa_n)))))
      (ss_cons (s_set 8 sc_L_once.nd (pd_ix (pw_of (pd_ix (pw_of (pd_var 5)) (pw_of (pd_var 6)))) (pw_of (pd_var 7))))
      (ss_cons (s_set 9 sc_L_once.nd (pd_call (ok_L_pick T) (hr.mono (by decide)) (by rfl) T.g_L_pick T.F_L_pick.kp T.b_L_pick (pa_c (pd_var 0) (pa_c pd_int (pa_c (pd_len (by rfl) T.n_len (pv_c (pw_of (pd_var 8)) pv_n)) pa_n)))))
      (ss_cons (s_set 10 sc_L_once.nd (pd_op opd_add (pw_of (pd_op opd_add (pw_of (pd_sl (pw_of (pd_var 8)) pp_n (pp_s (pw_of (pd_var 9))))) (pw_of (pd_tup (pa_c (pd_call (ok_L_bad_box T) (hr.mono (by decide)) (by rfl) T.g_L_bad_box T.F_L_bad_box.kp T.b_L_bad_box (pa_c (pd_ix (pw_of (pd_var 8)) (pw_of (pd_var 9))) (pa_c (pd_len (by rfl) T.n_len (pv_c (pw_of (pd_var 4)) pv_n)) (pa_c (pd_var 2) pa_n)))) pa_n))))) (pw_of (pd_sl (pw_of (pd_var 8)) (pp_s (pw_of (pd_op opd_add (pw_of (pd_var 9)) (pw_of pd_int)))) pp_n))))
      (ss_cons (s_if (pt_cmp (opd_eq hr.units) (pw_of (pd_call (ok_L_pick T) (hr.mono (by decide)) (by rfl) T.g_L_pick T.F_L_pick.kp T.b_L_pick (pa_c (pd_var 0) (pa_c pd_int (pa_c pd_int pa_n))))) (pw_of pd_int) (nomark _))
      (ss_cons (s_set 10 sc_L_once.nd (pd_ix (pw_of (pd_of (pf_lst (pa_c (pd_op opd_add (pw_of (pd_var 8)) (pw_of (pd_sl (pw_of (pd_var 8)) pp_n (pp_s (pw_of pd_int))))) (pa_c (pd_sl (pw_of (pd_var 8)) pp_n (pp_s (pw_of (pd_neg (pw_of pd_int))))) (pa_c (pd_tup pa_n) (pa_c (pd_of (pf_list (by rfl) T.n_list (pv_c (pw_of (pd_var 8)) pv_n))) (pa_c pd_non pa_n)))))))) (pw_of (pd_op opd_mod (pw_of (pd_var 2)) (pw_of pd_int)))))
      (ss_one (s_if (pt_w (pw_a (pt_cmp (opd_eq hr.units) (pw_of (pd_len (by rfl) T.n_len (pv_c (pw_of (pd_var 5)) pv_n))) (pw_of pd_int) (nomark _)) (pw_a1 (pt_cmp (opd_eq hr.units) (pw_of (pd_len (by rfl) T.n_len (pv_c (pw_of (pd_ix (pw_of (pd_var 5)) (pw_of pd_int))) pv_n))) (pw_of pd_int) (nomark _)))))
      (ss_one (s_set 10 sc_L_once.nd (pd_ix (pw_of (pd_of (pf_lst (pa_c (pd_tup pa_n) (pa_c (pd_of (pf_list (by rfl) T.n_list (pv_c (pw_of (pd_var 8)) pv_n))) (pa_c pd_non pa_n)))))) (pw_of (pd_op opd_mod (pw_of (pd_var 2)) (pw_of pd_int))))))
      ss_nil)))
      ss_nil)
      (ss_cons (s_set 11 sc_L_once.nd (pd_op opd_add (pw_of (pd_op opd_add (pw_of (pd_sl (pw_of (pd_ix (pw_of (pd_var 5)) (pw_of (pd_var 6)))) pp_n (pp_s (pw_of (pd_var 7))))) (pw_of (pd_tup (pa_c (pd_var 10) pa_n))))) (pw_of (pd_sl (pw_of (pd_ix (pw_of (pd_var 5)) (pw_of (pd_var 6)))) (pp_s (pw_of (pd_op opd_add (pw_of (pd_var 7)) (pw_of pd_int)))) pp_n))))
      (ss_cons (s_if (pt_cmp opd_isNot (pw_of (pd_call (ok_is_song T) hr (by rfl) T.g_is_song T.F_is_song.kp T.b_is_song (pa_c (pd_tup (pa_c (pd_var 3) (pa_c (pd_var 4) (pa_c (pd_op opd_add (pw_of (pd_op opd_add (pw_of (pd_sl (pw_of (pd_var 5)) pp_n (pp_s (pw_of (pd_var 6))))) (pw_of (pd_tup (pa_c (pd_var 11) pa_n))))) (pw_of (pd_sl (pw_of (pd_var 5)) (pp_s (pw_of (pd_op opd_add (pw_of (pd_var 6)) (pw_of pd_int)))) pp_n))) pa_n)))) pa_n))) (pw_of pd_bl) (nomark _))
      (ss_one (s_ret pd_bl))
      ss_nil)
      (ss_cons (s_set 12 sc_L_once.nd (pd_op opd_add (pw_of pd_int) (pw_of (pd_op opd_mod (pw_of (pd_var 2)) (pw_of pd_int)))))
      (ss_cons (s_set 7 sc_L_once.nd (pd_tup (pa_c (pd_tup (pa_c pd_non (pa_c pd_non pa_n))) pa_n)))
      (ss_cons (s_if (pt_w (pw_o (pt_cmp (opd_ne hr.units) (pw_of (pd_call (ok_is_song T) hr (by rfl) T.g_is_song T.F_is_song.kp T.b_is_song (pa_c (pd_tup (pa_c pd_int (pa_c (pd_op opd_mul (pw_of (pd_tup (pa_c pd_int pa_n))) (pw_of (pd_var 12))) (pa_c (pd_tup (pa_c (pd_tup (pa_c (pd_var 7) pa_n)) pa_n)) pa_n)))) pa_n))) (pw_of (pd_cmp opd_lt (pw_of (pd_var 12)) (pw_of pd_int) (nomark _))) (nomark _)) (pw_o1 (pt_cmp (opd_ne hr.units) (pw_of (pd_call (ok_is_song T) hr (by rfl) T.g_is_song T.F_is_song.kp T.b_is_song (pa_c (pd_tup (pa_c pd_int (pa_c (pd_tup (pa_c pd_int pa_n)) (pa_c (pd_op opd_mul (pw_of (pd_tup (pa_c (pd_tup (pa_c (pd_var 7) pa_n)) pa_n))) (pw_of (pd_var 12))) pa_n)))) pa_n))) (pw_of (pd_cmp opd_lt (pw_of (pd_var 12)) (pw_of pd_int) (nomark _))) (nomark _)))))
      (ss_one (s_ret pd_bl))
      ss_nil)
      (ss_cons (s_if (pt_cmp (opd_ne hr.units) (pw_of (pd_call (ok_is_song T) hr (by rfl) T.g_is_song T.F_is_song.kp T.b_is_song (pa_c (pd_tup (pa_c pd_int (pa_c (pd_tup (pa_c pd_int pa_n)) (pa_c (pd_tup (pa_c (pd_op opd_mul (pw_of (pd_tup (pa_c (pd_var 7) pa_n))) (pw_of (pd_var 12))) pa_n)) pa_n)))) pa_n))) (pw_of (pd_cmp opd_lt (pw_of (pd_var 12)) (pw_of pd_int) (nomark _))) (nomark _))
      (ss_one (s_ret pd_bl))
      ss_nil)
      (ss_one (s_ret (pd_cmp (opd_eq hr.units) (pw_of (pd_call (ok_is_song T) hr (by rfl) T.g_is_song T.F_is_song.kp T.b_is_song (pa_c (pd_tup (pa_c pd_int (pa_c (pd_tup (pa_c pd_int pa_n)) (pa_c (pd_tup (pa_c (pd_tup (pa_c (pd_op opd_mul (pw_of (pd_var 7)) (pw_of (pd_op opd_sub (pw_of (pd_var 12)) (pw_of pd_int)))) pa_n)) pa_n)) pa_n)))) pa_n))) (pw_of (pd_cmp opd_lt (pw_of (pd_var 12)) (pw_of pd_int) (nomark _))) (nomark _))))))))))))))))))))))
theorem ok_law (T : Top w K mg) : FnOk P w K mg base CX0 9 T.f_law T.fd_law ["script"] (spD K mg 1 M_law) :=
  def_M (fb := B_law) T.F_law sc_law rfl rfl (fun cdv A outer s H E hr =>
      (ss_cons (s_for PassesOwn.never rfl (pi_r1 (by rfl) T.n_range (pv_c (pw_of pd_int) pv_n)) (g_name 1 sc_law.nd)
      (ss_cons (s_if (pt_no (pt_of (pw_of (pd_call (ok_L_once T) hr (by rfl) T.g_L_once T.F_L_once.kp T.b_L_once (pa_c (pd_of (pf_lc (own := [("cell", 2)]) rfl sc_law.nd (pi_sq (pd_var 0)) (bk_ok rfl) (fun _ _ _ _ _ => (g_name 2 sc_law.nd)) (fun _ _ _ _ _ => pts_y) (fun _ _ _ _ _ => (pd_op opd_add (pw_of (pd_var 2)) (pw_of (pd_op opd_mul (pw_of pd_int) (pw_of (pd_var 1)))))))) pa_n)))))
      (ss_one (s_ret pd_bl))
      ss_nil)
      (ss_one (s_if (pt_cmp (opd_eq hr.units) (pw_of (pd_var 0)) (pw_of (pd_of (pf_lst pa_n))) (nomark _))
      (ss_one s_brk)
      ss_nil))))
      (ss_one (s_ret pd_bl))))
end
/-! the end -/
def top_mk {w : World} {K : PySem.W.Frag} {h : Heap} {mg : Str → Option Value} (X : K.In h) (G : h.Ns mainGlobals mg)
    {f_is_whole : Addr}
    {f_is_between : Addr}
    {f_is_sound : Addr}
    {f_is_deed : Addr}
    {f_is_box : Addr}
    {f_is_row : Addr}
    {f_is_pattern : Addr}
    {f_is_song : Addr}
    {f_L_cell : Addr}
    {f_L_pick : Addr}
    {f_L_box : Addr}
    {f_L_song : Addr}
    {f_L_bad_box : Addr}
    {f_L_whole : Addr}
    {f_L_once : Addr}
    {f_law : Addr}
    {oc_is_whole kV_is_whole dc_is_whole pm_is_whole cd_is_whole ct_is_whole : Value} {od_is_whole an_is_whole : Option Addr} {sl_is_whole : Array (Option Value)}
    {oc_is_between kV_is_between dc_is_between pm_is_between cd_is_between ct_is_between : Value} {od_is_between an_is_between : Option Addr} {sl_is_between : Array (Option Value)}
    {oc_is_sound kV_is_sound dc_is_sound pm_is_sound cd_is_sound ct_is_sound : Value} {od_is_sound an_is_sound : Option Addr} {sl_is_sound : Array (Option Value)}
    {oc_is_deed kV_is_deed dc_is_deed pm_is_deed cd_is_deed ct_is_deed : Value} {od_is_deed an_is_deed : Option Addr} {sl_is_deed : Array (Option Value)}
    {oc_is_box kV_is_box dc_is_box pm_is_box cd_is_box ct_is_box : Value} {od_is_box an_is_box : Option Addr} {sl_is_box : Array (Option Value)}
    {oc_is_row kV_is_row dc_is_row pm_is_row cd_is_row ct_is_row : Value} {od_is_row an_is_row : Option Addr} {sl_is_row : Array (Option Value)}
    {oc_is_pattern kV_is_pattern dc_is_pattern pm_is_pattern cd_is_pattern ct_is_pattern : Value} {od_is_pattern an_is_pattern : Option Addr} {sl_is_pattern : Array (Option Value)}
    {oc_is_song kV_is_song dc_is_song pm_is_song cd_is_song ct_is_song : Value} {od_is_song an_is_song : Option Addr} {sl_is_song : Array (Option Value)}
    {oc_L_cell kV_L_cell dc_L_cell pm_L_cell cd_L_cell ct_L_cell : Value} {od_L_cell an_L_cell : Option Addr} {sl_L_cell : Array (Option Value)}
    {oc_L_pick kV_L_pick dc_L_pick pm_L_pick cd_L_pick ct_L_pick : Value} {od_L_pick an_L_pick : Option Addr} {sl_L_pick : Array (Option Value)}
    {oc_L_box kV_L_box dc_L_box pm_L_box cd_L_box ct_L_box : Value} {od_L_box an_L_box : Option Addr} {sl_L_box : Array (Option Value)}
    {oc_L_song kV_L_song dc_L_song pm_L_song cd_L_song ct_L_song : Value} {od_L_song an_L_song : Option Addr} {sl_L_song : Array (Option Value)}
    {oc_L_bad_box kV_L_bad_box dc_L_bad_box pm_L_bad_box cd_L_bad_box ct_L_bad_box : Value} {od_L_bad_box an_L_bad_box : Option Addr} {sl_L_bad_box : Array (Option Value)}
    {oc_L_whole kV_L_whole dc_L_whole pm_L_whole cd_L_whole ct_L_whole : Value} {od_L_whole an_L_whole : Option Addr} {sl_L_whole : Array (Option Value)}
    {oc_L_once kV_L_once dc_L_once pm_L_once cd_L_once ct_L_once : Value} {od_L_once an_L_once : Option Addr} {sl_L_once : Array (Option Value)}
    {oc_law kV_law dc_law pm_law cd_law ct_law : Value} {od_law an_law : Option Addr} {sl_law : Array (Option Value)}
    (a_is_whole : PySem.W.nsIn K mainGlobals "is_whole" = some (some (.ref f_is_whole))) (l_is_whole : K.lookup f_is_whole = some ⟨oc_is_whole, od_is_whole, .func (PySem.W.fnOf "is_whole" "is_whole" (defArgs s_is_whole) (defBody s_is_whole) (defScope s_is_whole) .none kV_is_whole dc_is_whole pm_is_whole an_is_whole cd_is_whole ct_is_whole), sl_is_whole⟩) (k_is_whole : PySem.W.codeIn K cd_is_whole "is_whole" = true) (j_is_whole : PySem.W.keepIn K (.ref f_is_whole) = true)
    (a_is_between : PySem.W.nsIn K mainGlobals "is_between" = some (some (.ref f_is_between))) (l_is_between : K.lookup f_is_between = some ⟨oc_is_between, od_is_between, .func (PySem.W.fnOf "is_between" "is_between" (defArgs s_is_between) (defBody s_is_between) (defScope s_is_between) .none kV_is_between dc_is_between pm_is_between an_is_between cd_is_between ct_is_between), sl_is_between⟩) (k_is_between : PySem.W.codeIn K cd_is_between "is_between" = true) (j_is_between : PySem.W.keepIn K (.ref f_is_between) = true)
    (a_is_sound : PySem.W.nsIn K mainGlobals "is_sound" = some (some (.ref f_is_sound))) (l_is_sound : K.lookup f_is_sound = some ⟨oc_is_sound, od_is_sound, .func (PySem.W.fnOf "is_sound" "is_sound" (defArgs s_is_sound) (defBody s_is_sound) (defScope s_is_sound) .none kV_is_sound dc_is_sound pm_is_sound an_is_sound cd_is_sound ct_is_sound), sl_is_sound⟩) (k_is_sound : PySem.W.codeIn K cd_is_sound "is_sound" = true) (j_is_sound : PySem.W.keepIn K (.ref f_is_sound) = true)
    (a_is_deed : PySem.W.nsIn K mainGlobals "is_deed" = some (some (.ref f_is_deed))) (l_is_deed : K.lookup f_is_deed = some ⟨oc_is_deed, od_is_deed, .func (PySem.W.fnOf "is_deed" "is_deed" (defArgs s_is_deed) (defBody s_is_deed) (defScope s_is_deed) .none kV_is_deed dc_is_deed pm_is_deed an_is_deed cd_is_deed ct_is_deed), sl_is_deed⟩) (k_is_deed : PySem.W.codeIn K cd_is_deed "is_deed" = true) (j_is_deed : PySem.W.keepIn K (.ref f_is_deed) = true)
    (a_is_box : PySem.W.nsIn K mainGlobals "is_box" = some (some (.ref f_is_box))) (l_is_box : K.lookup f_is_box = some ⟨oc_is_box, od_is_box, .func (PySem.W.fnOf "is_box" "is_box" (defArgs s_is_box) (defBody s_is_box) (defScope s_is_box) .none kV_is_box dc_is_box pm_is_box an_is_box cd_is_box ct_is_box), sl_is_box⟩) (k_is_box : PySem.W.codeIn K cd_is_box "is_box" = true) (j_is_box : PySem.W.keepIn K (.ref f_is_box) = true)
    (a_is_row : PySem.W.nsIn K mainGlobals "is_row" = some (some (.ref f_is_row))) (l_is_row : K.lookup f_is_row = some ⟨oc_is_row, od_is_row, .func (PySem.W.fnOf "is_row" "is_row" (defArgs s_is_row) (defBody s_is_row) (defScope s_is_row) .none kV_is_row dc_is_row pm_is_row an_is_row cd_is_row ct_is_row), sl_is_row⟩) (k_is_row : PySem.W.codeIn K cd_is_row "is_row" = true) (j_is_row : PySem.W.keepIn K (.ref f_is_row) = true)
    (a_is_pattern : PySem.W.nsIn K mainGlobals "is_pattern" = some (some (.ref f_is_pattern))) (l_is_pattern : K.lookup f_is_pattern = some ⟨oc_is_pattern, od_is_pattern, .func (PySem.W.fnOf "is_pattern" "is_pattern" (defArgs s_is_pattern) (defBody s_is_pattern) (defScope s_is_pattern) .none kV_is_pattern dc_is_pattern pm_is_pattern an_is_pattern cd_is_pattern ct_is_pattern), sl_is_pattern⟩) (k_is_pattern : PySem.W.codeIn K cd_is_pattern "is_pattern" = true) (j_is_pattern : PySem.W.keepIn K (.ref f_is_pattern) = true)
    (a_is_song : PySem.W.nsIn K mainGlobals "is_song" = some (some (.ref f_is_song))) (l_is_song : K.lookup f_is_song = some ⟨oc_is_song, od_is_song, .func (PySem.W.fnOf "is_song" "is_song" (defArgs s_is_song) (defBody s_is_song) (defScope s_is_song) .none kV_is_song dc_is_song pm_is_song an_is_song cd_is_song ct_is_song), sl_is_song⟩) (k_is_song : PySem.W.codeIn K cd_is_song "is_song" = true) (j_is_song : PySem.W.keepIn K (.ref f_is_song) = true)
    (a_L_cell : PySem.W.nsIn K mainGlobals "_law_cell" = some (some (.ref f_L_cell))) (l_L_cell : K.lookup f_L_cell = some ⟨oc_L_cell, od_L_cell, .func (PySem.W.fnOf "_law_cell" "_law_cell" (defArgs s_L_cell) (defBody s_L_cell) (defScope s_L_cell) .none kV_L_cell dc_L_cell pm_L_cell an_L_cell cd_L_cell ct_L_cell), sl_L_cell⟩) (k_L_cell : PySem.W.codeIn K cd_L_cell "_law_cell" = true) (j_L_cell : PySem.W.keepIn K (.ref f_L_cell) = true)
    (a_L_pick : PySem.W.nsIn K mainGlobals "_law_pick" = some (some (.ref f_L_pick))) (l_L_pick : K.lookup f_L_pick = some ⟨oc_L_pick, od_L_pick, .func (PySem.W.fnOf "_law_pick" "_law_pick" (defArgs s_L_pick) (defBody s_L_pick) (defScope s_L_pick) .none kV_L_pick dc_L_pick pm_L_pick an_L_pick cd_L_pick ct_L_pick), sl_L_pick⟩) (k_L_pick : PySem.W.codeIn K cd_L_pick "_law_pick" = true) (j_L_pick : PySem.W.keepIn K (.ref f_L_pick) = true)
    (a_L_box : PySem.W.nsIn K mainGlobals "_law_box" = some (some (.ref f_L_box))) (l_L_box : K.lookup f_L_box = some ⟨oc_L_box, od_L_box, .func (PySem.W.fnOf "_law_box" "_law_box" (defArgs s_L_box) (defBody s_L_box) (defScope s_L_box) .none kV_L_box dc_L_box pm_L_box an_L_box cd_L_box ct_L_box), sl_L_box⟩) (k_L_box : PySem.W.codeIn K cd_L_box "_law_box" = true) (j_L_box : PySem.W.keepIn K (.ref f_L_box) = true)
    (a_L_song : PySem.W.nsIn K mainGlobals "_law_song" = some (some (.ref f_L_song))) (l_L_song : K.lookup f_L_song = some ⟨oc_L_song, od_L_song, .func (PySem.W.fnOf "_law_song" "_law_song" (defArgs s_L_song) (defBody s_L_song) (defScope s_L_song) .none kV_L_song dc_L_song pm_L_song an_L_song cd_L_song ct_L_song), sl_L_song⟩) (k_L_song : PySem.W.codeIn K cd_L_song "_law_song" = true) (j_L_song : PySem.W.keepIn K (.ref f_L_song) = true)
    (a_L_bad_box : PySem.W.nsIn K mainGlobals "_law_bad_box" = some (some (.ref f_L_bad_box))) (l_L_bad_box : K.lookup f_L_bad_box = some ⟨oc_L_bad_box, od_L_bad_box, .func (PySem.W.fnOf "_law_bad_box" "_law_bad_box" (defArgs s_L_bad_box) (defBody s_L_bad_box) (defScope s_L_bad_box) .none kV_L_bad_box dc_L_bad_box pm_L_bad_box an_L_bad_box cd_L_bad_box ct_L_bad_box), sl_L_bad_box⟩) (k_L_bad_box : PySem.W.codeIn K cd_L_bad_box "_law_bad_box" = true) (j_L_bad_box : PySem.W.keepIn K (.ref f_L_bad_box) = true)
    (a_L_whole : PySem.W.nsIn K mainGlobals "_law_whole" = some (some (.ref f_L_whole))) (l_L_whole : K.lookup f_L_whole = some ⟨oc_L_whole, od_L_whole, .func (PySem.W.fnOf "_law_whole" "_law_whole" (defArgs s_L_whole) (defBody s_L_whole) (defScope s_L_whole) .none kV_L_whole dc_L_whole pm_L_whole an_L_whole cd_L_whole ct_L_whole), sl_L_whole⟩) (k_L_whole : PySem.W.codeIn K cd_L_whole "_law_whole" = true) (j_L_whole : PySem.W.keepIn K (.ref f_L_whole) = true)
    (a_L_once : PySem.W.nsIn K mainGlobals "_law_once" = some (some (.ref f_L_once))) (l_L_once : K.lookup f_L_once = some ⟨oc_L_once, od_L_once, .func (PySem.W.fnOf "_law_once" "_law_once" (defArgs s_L_once) (defBody s_L_once) (defScope s_L_once) .none kV_L_once dc_L_once pm_L_once an_L_once cd_L_once ct_L_once), sl_L_once⟩) (k_L_once : PySem.W.codeIn K cd_L_once "_law_once" = true) (j_L_once : PySem.W.keepIn K (.ref f_L_once) = true)
    (a_law : PySem.W.nsIn K mainGlobals "law" = some (some (.ref f_law))) (l_law : K.lookup f_law = some ⟨oc_law, od_law, .func (PySem.W.fnOf "law" "law" (defArgs s_law) (defBody s_law) (defScope s_law) .none kV_law dc_law pm_law an_law cd_law ct_law), sl_law⟩) (k_law : PySem.W.codeIn K cd_law "law" = true) (j_law : PySem.W.keepIn K (.ref f_law) = true)
    (z_all : PySem.W.nsIn K mainGlobals "all" = some none)
    (z_bool : PySem.W.nsIn K mainGlobals "bool" = some none)
    (z_int : PySem.W.nsIn K mainGlobals "int" = some none)
    (z_isinstance : PySem.W.nsIn K mainGlobals "isinstance" = some none)
    (z_len : PySem.W.nsIn K mainGlobals "len" = some none)
    (z_list : PySem.W.nsIn K mainGlobals "list" = some none)
    (z_range : PySem.W.nsIn K mainGlobals "range" = some none)
    (z_str : PySem.W.nsIn K mainGlobals "str" = some none)
    (z_tuple : PySem.W.nsIn K mainGlobals "tuple" = some none)
    {t_FASTEST : Tok} (y_FASTEST : PySem.W.nsIn K mainGlobals "FASTEST" = some (some (.int 1 t_FASTEST)))
    {d_GREATEST : Addr} {es_GREATEST : Array DictEntry} {en_GREATEST : Nat} (y_GREATEST : PySem.W.nsIn K mainGlobals "GREATEST" = some (some (.ref d_GREATEST))) (yl_GREATEST : K.lookup d_GREATEST = some ⟨.type "dict", none, .dict es_GREATEST en_GREATEST, #[]⟩) (yk_GREATEST : PySem.W.KeysLit w.params es_GREATEST.toList) (yw_GREATEST : (d_GREATEST == sysModules) = false) (yb_GREATEST : TabL es_GREATEST.toList [("speed", 4), ("slide", 6), ("jump", 5), ("skip", 5), ("again", 3)])
    {t_HEIGHTS : Tok} (y_HEIGHTS : PySem.W.nsIn K mainGlobals "HEIGHTS" = some (some (.int 12 t_HEIGHTS)))
    {d_LEAST : Addr} {es_LEAST : Array DictEntry} {en_LEAST : Nat} (y_LEAST : PySem.W.nsIn K mainGlobals "LEAST" = some (some (.ref d_LEAST))) (yl_LEAST : K.lookup d_LEAST = some ⟨.type "dict", none, .dict es_LEAST en_LEAST, #[]⟩) (yk_LEAST : PySem.W.KeysLit w.params es_LEAST.toList) (yw_LEAST : (d_LEAST == sysModules) = false) (yb_LEAST : TabL es_LEAST.toList [("speed", 1), ("slide", (-6)), ("jump", 0), ("skip", 0), ("again", 1)])
    {t_MOST_PATTERNS : Tok} (y_MOST_PATTERNS : PySem.W.nsIn K mainGlobals "MOST_PATTERNS" = some (some (.int 6 t_MOST_PATTERNS)))
    {t_MOST_PLACES : Tok} (y_MOST_PLACES : PySem.W.nsIn K mainGlobals "MOST_PLACES" = some (some (.int 6 t_MOST_PLACES)))
    {t_MOST_ROWS : Tok} (y_MOST_ROWS : PySem.W.nsIn K mainGlobals "MOST_ROWS" = some (some (.int 6 t_MOST_ROWS)))
    {t_MOST_VOICES : Tok} (y_MOST_VOICES : PySem.W.nsIn K mainGlobals "MOST_VOICES" = some (some (.int 3 t_MOST_VOICES)))
    {t_SLOWEST : Tok} (y_SLOWEST : PySem.W.nsIn K mainGlobals "SLOWEST" = some (some (.int 4 t_SLOWEST))) : Top w K mg where
  f_is_whole := f_is_whole
  fd_is_whole := _
  F_is_whole := fun_mk (st := s_is_whole) l_is_whole k_is_whole j_is_whole
  b_is_whole := (fun_mk (st := s_is_whole) l_is_whole k_is_whole j_is_whole).binds (ps := ["thing"]) fun _ _ _ _ _ _ us hl => match us, hl with | [_], _ => rfl
  g_is_whole := PySem.W.mg_of X G a_is_whole
  f_is_between := f_is_between
  fd_is_between := _
  F_is_between := fun_mk (st := s_is_between) l_is_between k_is_between j_is_between
  b_is_between := (fun_mk (st := s_is_between) l_is_between k_is_between j_is_between).binds (ps := ["thing", "low", "high"]) fun _ _ _ _ _ _ us hl => match us, hl with | [_, _, _], _ => rfl
  g_is_between := PySem.W.mg_of X G a_is_between
  f_is_sound := f_is_sound
  fd_is_sound := _
  F_is_sound := fun_mk (st := s_is_sound) l_is_sound k_is_sound j_is_sound
  b_is_sound := (fun_mk (st := s_is_sound) l_is_sound k_is_sound j_is_sound).binds (ps := ["thing"]) fun _ _ _ _ _ _ us hl => match us, hl with | [_], _ => rfl
  g_is_sound := PySem.W.mg_of X G a_is_sound
  f_is_deed := f_is_deed
  fd_is_deed := _
  F_is_deed := fun_mk (st := s_is_deed) l_is_deed k_is_deed j_is_deed
  b_is_deed := (fun_mk (st := s_is_deed) l_is_deed k_is_deed j_is_deed).binds (ps := ["thing", "places"]) fun _ _ _ _ _ _ us hl => match us, hl with | [_, _], _ => rfl
  g_is_deed := PySem.W.mg_of X G a_is_deed
  f_is_box := f_is_box
  fd_is_box := _
  F_is_box := fun_mk (st := s_is_box) l_is_box k_is_box j_is_box
  b_is_box := (fun_mk (st := s_is_box) l_is_box k_is_box j_is_box).binds (ps := ["thing", "places"]) fun _ _ _ _ _ _ us hl => match us, hl with | [_, _], _ => rfl
  g_is_box := PySem.W.mg_of X G a_is_box
  f_is_row := f_is_row
  fd_is_row := _
  F_is_row := fun_mk (st := s_is_row) l_is_row k_is_row j_is_row
  b_is_row := (fun_mk (st := s_is_row) l_is_row k_is_row j_is_row).binds (ps := ["thing", "places"]) fun _ _ _ _ _ _ us hl => match us, hl with | [_, _], _ => rfl
  g_is_row := PySem.W.mg_of X G a_is_row
  f_is_pattern := f_is_pattern
  fd_is_pattern := _
  F_is_pattern := fun_mk (st := s_is_pattern) l_is_pattern k_is_pattern j_is_pattern
  b_is_pattern := (fun_mk (st := s_is_pattern) l_is_pattern k_is_pattern j_is_pattern).binds (ps := ["thing", "places"]) fun _ _ _ _ _ _ us hl => match us, hl with | [_, _], _ => rfl
  g_is_pattern := PySem.W.mg_of X G a_is_pattern
  f_is_song := f_is_song
  fd_is_song := _
  F_is_song := fun_mk (st := s_is_song) l_is_song k_is_song j_is_song
  b_is_song := (fun_mk (st := s_is_song) l_is_song k_is_song j_is_song).binds (ps := ["thing"]) fun _ _ _ _ _ _ us hl => match us, hl with | [_], _ => rfl
  g_is_song := PySem.W.mg_of X G a_is_song
  f_L_cell := f_L_cell
  fd_L_cell := _
  F_L_cell := fun_mk (st := s_L_cell) l_L_cell k_L_cell j_L_cell
  b_L_cell := (fun_mk (st := s_L_cell) l_L_cell k_L_cell j_L_cell).binds (ps := ["script", "k"]) fun _ _ _ _ _ _ us hl => match us, hl with | [_, _], _ => rfl
  g_L_cell := PySem.W.mg_of X G a_L_cell
  f_L_pick := f_L_pick
  fd_L_pick := _
  F_L_pick := fun_mk (st := s_L_pick) l_L_pick k_L_pick j_L_pick
  b_L_pick := (fun_mk (st := s_L_pick) l_L_pick k_L_pick j_L_pick).binds (ps := ["script", "k", "many"]) fun _ _ _ _ _ _ us hl => match us, hl with | [_, _, _], _ => rfl
  g_L_pick := PySem.W.mg_of X G a_L_pick
  f_L_box := f_L_box
  fd_L_box := _
  F_L_box := fun_mk (st := s_L_box) l_L_box k_L_box j_L_box
  b_L_box := (fun_mk (st := s_L_box) l_L_box k_L_box j_L_box).binds (ps := ["script", "at", "places"]) fun _ _ _ _ _ _ us hl => match us, hl with | [_, _, _], _ => rfl
  g_L_box := PySem.W.mg_of X G a_L_box
  f_L_song := f_L_song
  fd_L_song := _
  F_L_song := fun_mk (st := s_L_song) l_L_song k_L_song j_L_song
  b_L_song := (fun_mk (st := s_L_song) l_L_song k_L_song j_L_song).binds (ps := ["script", "at", "most"]) fun _ _ _ _ _ _ us hl => match us, hl with | [_, _, _], _ => rfl
  g_L_song := PySem.W.mg_of X G a_L_song
  f_L_bad_box := f_L_bad_box
  fd_L_bad_box := _
  F_L_bad_box := fun_mk (st := s_L_bad_box) l_L_bad_box k_L_bad_box j_L_bad_box
  b_L_bad_box := (fun_mk (st := s_L_bad_box) l_L_bad_box k_L_bad_box j_L_bad_box).binds (ps := ["box", "places", "cell"]) fun _ _ _ _ _ _ us hl => match us, hl with | [_, _, _], _ => rfl
  g_L_bad_box := PySem.W.mg_of X G a_L_bad_box
  f_L_whole := f_L_whole
  fd_L_whole := _
  F_L_whole := fun_mk (st := s_L_whole) l_L_whole k_L_whole j_L_whole
  b_L_whole := (fun_mk (st := s_L_whole) l_L_whole k_L_whole j_L_whole).binds (ps := ["song", "cell"]) fun _ _ _ _ _ _ us hl => match us, hl with | [_, _], _ => rfl
  g_L_whole := PySem.W.mg_of X G a_L_whole
  f_L_once := f_L_once
  fd_L_once := _
  F_L_once := fun_mk (st := s_L_once) l_L_once k_L_once j_L_once
  b_L_once := (fun_mk (st := s_L_once) l_L_once k_L_once j_L_once).binds (ps := ["script"]) fun _ _ _ _ _ _ us hl => match us, hl with | [_], _ => rfl
  g_L_once := PySem.W.mg_of X G a_L_once
  f_law := f_law
  fd_law := _
  F_law := fun_mk (st := s_law) l_law k_law j_law
  b_law := (fun_mk (st := s_law) l_law k_law j_law).binds (ps := ["script"]) fun _ _ _ _ _ _ us hl => match us, hl with | [_], _ => rfl
  g_law := PySem.W.mg_of X G a_law
  n_all := PySem.W.mg_none_of X G z_all
  n_bool := PySem.W.mg_none_of X G z_bool
  n_int := PySem.W.mg_none_of X G z_int
  n_isinstance := PySem.W.mg_none_of X G z_isinstance
  n_len := PySem.W.mg_none_of X G z_len
  n_list := PySem.W.mg_none_of X G z_list
  n_range := PySem.W.mg_none_of X G z_range
  n_str := PySem.W.mg_none_of X G z_str
  n_tuple := PySem.W.mg_none_of X G z_tuple
  c_FASTEST := ⟨_, PySem.W.mg_of X G y_FASTEST⟩
  c_GREATEST := ⟨_, _, _, PySem.W.mg_of X G y_GREATEST, ⟨yl_GREATEST, yk_GREATEST, yw_GREATEST⟩, yb_GREATEST⟩
  c_HEIGHTS := ⟨_, PySem.W.mg_of X G y_HEIGHTS⟩
  c_LEAST := ⟨_, _, _, PySem.W.mg_of X G y_LEAST, ⟨yl_LEAST, yk_LEAST, yw_LEAST⟩, yb_LEAST⟩
  c_MOST_PATTERNS := ⟨_, PySem.W.mg_of X G y_MOST_PATTERNS⟩
  c_MOST_PLACES := ⟨_, PySem.W.mg_of X G y_MOST_PLACES⟩
  c_MOST_ROWS := ⟨_, PySem.W.mg_of X G y_MOST_ROWS⟩
  c_MOST_VOICES := ⟨_, PySem.W.mg_of X G y_MOST_VOICES⟩
  c_SLOWEST := ⟨_, PySem.W.mg_of X G y_SLOWEST⟩
theorem all_mk {l : PySem.W.OpenLaw} {w : World} {K : PySem.W.Frag} {h : Heap} {mg : Str → Option Value} {fa : Addr} (LT : ∀ ns : List Int, ns.length ≤ 63 → M_law [.lst (ns.map .int)] = .ok (.bl true)) (X : K.In h) (G : h.Ns mainGlobals mg) (hfa : mg "law" = some (.ref fa))
    {f_is_whole : Addr}
    {f_is_between : Addr}
    {f_is_sound : Addr}
    {f_is_deed : Addr}
    {f_is_box : Addr}
    {f_is_row : Addr}
    {f_is_pattern : Addr}
    {f_is_song : Addr}
    {f_L_cell : Addr}
    {f_L_pick : Addr}
    {f_L_box : Addr}
    {f_L_song : Addr}
    {f_L_bad_box : Addr}
    {f_L_whole : Addr}
    {f_L_once : Addr}
    {f_law : Addr}
    {oc_is_whole kV_is_whole dc_is_whole pm_is_whole cd_is_whole ct_is_whole : Value} {od_is_whole an_is_whole : Option Addr} {sl_is_whole : Array (Option Value)}
    {oc_is_between kV_is_between dc_is_between pm_is_between cd_is_between ct_is_between : Value} {od_is_between an_is_between : Option Addr} {sl_is_between : Array (Option Value)}
    {oc_is_sound kV_is_sound dc_is_sound pm_is_sound cd_is_sound ct_is_sound : Value} {od_is_sound an_is_sound : Option Addr} {sl_is_sound : Array (Option Value)}
    {oc_is_deed kV_is_deed dc_is_deed pm_is_deed cd_is_deed ct_is_deed : Value} {od_is_deed an_is_deed : Option Addr} {sl_is_deed : Array (Option Value)}
    {oc_is_box kV_is_box dc_is_box pm_is_box cd_is_box ct_is_box : Value} {od_is_box an_is_box : Option Addr} {sl_is_box : Array (Option Value)}
    {oc_is_row kV_is_row dc_is_row pm_is_row cd_is_row ct_is_row : Value} {od_is_row an_is_row : Option Addr} {sl_is_row : Array (Option Value)}
    {oc_is_pattern kV_is_pattern dc_is_pattern pm_is_pattern cd_is_pattern ct_is_pattern : Value} {od_is_pattern an_is_pattern : Option Addr} {sl_is_pattern : Array (Option Value)}
    {oc_is_song kV_is_song dc_is_song pm_is_song cd_is_song ct_is_song : Value} {od_is_song an_is_song : Option Addr} {sl_is_song : Array (Option Value)}
    {oc_L_cell kV_L_cell dc_L_cell pm_L_cell cd_L_cell ct_L_cell : Value} {od_L_cell an_L_cell : Option Addr} {sl_L_cell : Array (Option Value)}
    {oc_L_pick kV_L_pick dc_L_pick pm_L_pick cd_L_pick ct_L_pick : Value} {od_L_pick an_L_pick : Option Addr} {sl_L_pick : Array (Option Value)}
    {oc_L_box kV_L_box dc_L_box pm_L_box cd_L_box ct_L_box : Value} {od_L_box an_L_box : Option Addr} {sl_L_box : Array (Option Value)}
    {oc_L_song kV_L_song dc_L_song pm_L_song cd_L_song ct_L_song : Value} {od_L_song an_L_song : Option Addr} {sl_L_song : Array (Option Value)}
    {oc_L_bad_box kV_L_bad_box dc_L_bad_box pm_L_bad_box cd_L_bad_box ct_L_bad_box : Value} {od_L_bad_box an_L_bad_box : Option Addr} {sl_L_bad_box : Array (Option Value)}
    {oc_L_whole kV_L_whole dc_L_whole pm_L_whole cd_L_whole ct_L_whole : Value} {od_L_whole an_L_whole : Option Addr} {sl_L_whole : Array (Option Value)}
    {oc_L_once kV_L_once dc_L_once pm_L_once cd_L_once ct_L_once : Value} {od_L_once an_L_once : Option Addr} {sl_L_once : Array (Option Value)}
    {oc_law kV_law dc_law pm_law cd_law ct_law : Value} {od_law an_law : Option Addr} {sl_law : Array (Option Value)}
    (a_is_whole : PySem.W.nsIn K mainGlobals "is_whole" = some (some (.ref f_is_whole))) (l_is_whole : K.lookup f_is_whole = some ⟨oc_is_whole, od_is_whole, .func (PySem.W.fnOf "is_whole" "is_whole" (defArgs s_is_whole) (defBody s_is_whole) (defScope s_is_whole) .none kV_is_whole dc_is_whole pm_is_whole an_is_whole cd_is_whole ct_is_whole), sl_is_whole⟩) (k_is_whole : PySem.W.codeIn K cd_is_whole "is_whole" = true) (j_is_whole : PySem.W.keepIn K (.ref f_is_whole) = true)
    (a_is_between : PySem.W.nsIn K mainGlobals "is_between" = some (some (.ref f_is_between))) (l_is_between : K.lookup f_is_between = some ⟨oc_is_between, od_is_between, .func (PySem.W.fnOf "is_between" "is_between" (defArgs s_is_between) (defBody s_is_between) (defScope s_is_between) .none kV_is_between dc_is_between pm_is_between an_is_between cd_is_between ct_is_between), sl_is_between⟩) (k_is_between : PySem.W.codeIn K cd_is_between "is_between" = true) (j_is_between : PySem.W.keepIn K (.ref f_is_between) = true)
    (a_is_sound : PySem.W.nsIn K mainGlobals "is_sound" = some (some (.ref f_is_sound))) (l_is_sound : K.lookup f_is_sound = some ⟨oc_is_sound, od_is_sound, .func (PySem.W.fnOf "is_sound" "is_sound" (defArgs s_is_sound) (defBody s_is_sound) (defScope s_is_sound) .none kV_is_sound dc_is_sound pm_is_sound an_is_sound cd_is_sound ct_is_sound), sl_is_sound⟩) (k_is_sound : PySem.W.codeIn K cd_is_sound "is_sound" = true) (j_is_sound : PySem.W.keepIn K (.ref f_is_sound) = true)
    (a_is_deed : PySem.W.nsIn K mainGlobals "is_deed" = some (some (.ref f_is_deed))) (l_is_deed : K.lookup f_is_deed = some ⟨oc_is_deed, od_is_deed, .func (PySem.W.fnOf "is_deed" "is_deed" (defArgs s_is_deed) (defBody s_is_deed) (defScope s_is_deed) .none kV_is_deed dc_is_deed pm_is_deed an_is_deed cd_is_deed ct_is_deed), sl_is_deed⟩) (k_is_deed : PySem.W.codeIn K cd_is_deed "is_deed" = true) (j_is_deed : PySem.W.keepIn K (.ref f_is_deed) = true)
    (a_is_box : PySem.W.nsIn K mainGlobals "is_box" = some (some (.ref f_is_box))) (l_is_box : K.lookup f_is_box = some ⟨oc_is_box, od_is_box, .func (PySem.W.fnOf "is_box" "is_box" (defArgs s_is_box) (defBody s_is_box) (defScope s_is_box) .none kV_is_box dc_is_box pm_is_box an_is_box cd_is_box ct_is_box), sl_is_box⟩) (k_is_box : PySem.W.codeIn K cd_is_box "is_box" = true) (j_is_box : PySem.W.keepIn K (.ref f_is_box) = true)
    (a_is_row : PySem.W.nsIn K mainGlobals "is_row" = some (some (.ref f_is_row))) (l_is_row : K.lookup f_is_row = some ⟨oc_is_row, od_is_row, .func (PySem.W.fnOf "is_row" "is_row" (defArgs s_is_row) (defBody s_is_row) (defScope s_is_row) .none kV_is_row dc_is_row pm_is_row an_is_row cd_is_row ct_is_row), sl_is_row⟩) (k_is_row : PySem.W.codeIn K cd_is_row "is_row" = true) (j_is_row : PySem.W.keepIn K (.ref f_is_row) = true)
    (a_is_pattern : PySem.W.nsIn K mainGlobals "is_pattern" = some (some (.ref f_is_pattern))) (l_is_pattern : K.lookup f_is_pattern = some ⟨oc_is_pattern, od_is_pattern, .func (PySem.W.fnOf "is_pattern" "is_pattern" (defArgs s_is_pattern) (defBody s_is_pattern) (defScope s_is_pattern) .none kV_is_pattern dc_is_pattern pm_is_pattern an_is_pattern cd_is_pattern ct_is_pattern), sl_is_pattern⟩) (k_is_pattern : PySem.W.codeIn K cd_is_pattern "is_pattern" = true) (j_is_pattern : PySem.W.keepIn K (.ref f_is_pattern) = true)
    (a_is_song : PySem.W.nsIn K mainGlobals "is_song" = some (some (.ref f_is_song))) (l_is_song : K.lookup f_is_song = some ⟨oc_is_song, od_is_song, .func (PySem.W.fnOf "is_song" "is_song" (defArgs s_is_song) (defBody s_is_song) (defScope s_is_song) .none kV_is_song dc_is_song pm_is_song an_is_song cd_is_song ct_is_song), sl_is_song⟩) (k_is_song : PySem.W.codeIn K cd_is_song "is_song" = true) (j_is_song : PySem.W.keepIn K (.ref f_is_song) = true)
    (a_L_cell : PySem.W.nsIn K mainGlobals "_law_cell" = some (some (.ref f_L_cell))) (l_L_cell : K.lookup f_L_cell = some ⟨oc_L_cell, od_L_cell, .func (PySem.W.fnOf "_law_cell" "_law_cell" (defArgs s_L_cell) (defBody s_L_cell) (defScope s_L_cell) .none kV_L_cell dc_L_cell pm_L_cell an_L_cell cd_L_cell ct_L_cell), sl_L_cell⟩) (k_L_cell : PySem.W.codeIn K cd_L_cell "_law_cell" = true) (j_L_cell : PySem.W.keepIn K (.ref f_L_cell) = true)
    (a_L_pick : PySem.W.nsIn K mainGlobals "_law_pick" = some (some (.ref f_L_pick))) (l_L_pick : K.lookup f_L_pick = some ⟨oc_L_pick, od_L_pick, .func (PySem.W.fnOf "_law_pick" "_law_pick" (defArgs s_L_pick) (defBody s_L_pick) (defScope s_L_pick) .none kV_L_pick dc_L_pick pm_L_pick an_L_pick cd_L_pick ct_L_pick), sl_L_pick⟩) (k_L_pick : PySem.W.codeIn K cd_L_pick "_law_pick" = true) (j_L_pick : PySem.W.keepIn K (.ref f_L_pick) = true)
    (a_L_box : PySem.W.nsIn K mainGlobals "_law_box" = some (some (.ref f_L_box))) (l_L_box : K.lookup f_L_box = some ⟨oc_L_box, od_L_box, .func (PySem.W.fnOf "_law_box" "_law_box" (defArgs s_L_box) (defBody s_L_box) (defScope s_L_box) .none kV_L_box dc_L_box pm_L_box an_L_box cd_L_box ct_L_box), sl_L_box⟩) (k_L_box : PySem.W.codeIn K cd_L_box "_law_box" = true) (j_L_box : PySem.W.keepIn K (.ref f_L_box) = true)
    (a_L_song : PySem.W.nsIn K mainGlobals "_law_song" = some (some (.ref f_L_song))) (l_L_song : K.lookup f_L_song = some ⟨oc_L_song, od_L_song, .func (PySem.W.fnOf "_law_song" "_law_song" (defArgs s_L_song) (defBody s_L_song) (defScope s_L_song) .none kV_L_song dc_L_song pm_L_song an_L_song cd_L_song ct_L_song), sl_L_song⟩) (k_L_song : PySem.W.codeIn K cd_L_song "_law_song" = true) (j_L_song : PySem.W.keepIn K (.ref f_L_song) = true)
    (a_L_bad_box : PySem.W.nsIn K mainGlobals "_law_bad_box" = some (some (.ref f_L_bad_box))) (l_L_bad_box : K.lookup f_L_bad_box = some ⟨oc_L_bad_box, od_L_bad_box, .func (PySem.W.fnOf "_law_bad_box" "_law_bad_box" (defArgs s_L_bad_box) (defBody s_L_bad_box) (defScope s_L_bad_box) .none kV_L_bad_box dc_L_bad_box pm_L_bad_box an_L_bad_box cd_L_bad_box ct_L_bad_box), sl_L_bad_box⟩) (k_L_bad_box : PySem.W.codeIn K cd_L_bad_box "_law_bad_box" = true) (j_L_bad_box : PySem.W.keepIn K (.ref f_L_bad_box) = true)
    (a_L_whole : PySem.W.nsIn K mainGlobals "_law_whole" = some (some (.ref f_L_whole))) (l_L_whole : K.lookup f_L_whole = some ⟨oc_L_whole, od_L_whole, .func (PySem.W.fnOf "_law_whole" "_law_whole" (defArgs s_L_whole) (defBody s_L_whole) (defScope s_L_whole) .none kV_L_whole dc_L_whole pm_L_whole an_L_whole cd_L_whole ct_L_whole), sl_L_whole⟩) (k_L_whole : PySem.W.codeIn K cd_L_whole "_law_whole" = true) (j_L_whole : PySem.W.keepIn K (.ref f_L_whole) = true)
    (a_L_once : PySem.W.nsIn K mainGlobals "_law_once" = some (some (.ref f_L_once))) (l_L_once : K.lookup f_L_once = some ⟨oc_L_once, od_L_once, .func (PySem.W.fnOf "_law_once" "_law_once" (defArgs s_L_once) (defBody s_L_once) (defScope s_L_once) .none kV_L_once dc_L_once pm_L_once an_L_once cd_L_once ct_L_once), sl_L_once⟩) (k_L_once : PySem.W.codeIn K cd_L_once "_law_once" = true) (j_L_once : PySem.W.keepIn K (.ref f_L_once) = true)
    (a_law : PySem.W.nsIn K mainGlobals "law" = some (some (.ref f_law))) (l_law : K.lookup f_law = some ⟨oc_law, od_law, .func (PySem.W.fnOf "law" "law" (defArgs s_law) (defBody s_law) (defScope s_law) .none kV_law dc_law pm_law an_law cd_law ct_law), sl_law⟩) (k_law : PySem.W.codeIn K cd_law "law" = true) (j_law : PySem.W.keepIn K (.ref f_law) = true)
    (z_all : PySem.W.nsIn K mainGlobals "all" = some none)
    (z_bool : PySem.W.nsIn K mainGlobals "bool" = some none)
    (z_int : PySem.W.nsIn K mainGlobals "int" = some none)
    (z_isinstance : PySem.W.nsIn K mainGlobals "isinstance" = some none)
    (z_len : PySem.W.nsIn K mainGlobals "len" = some none)
    (z_list : PySem.W.nsIn K mainGlobals "list" = some none)
    (z_range : PySem.W.nsIn K mainGlobals "range" = some none)
    (z_str : PySem.W.nsIn K mainGlobals "str" = some none)
    (z_tuple : PySem.W.nsIn K mainGlobals "tuple" = some none)
    {t_FASTEST : Tok} (y_FASTEST : PySem.W.nsIn K mainGlobals "FASTEST" = some (some (.int 1 t_FASTEST)))
    {d_GREATEST : Addr} {es_GREATEST : Array DictEntry} {en_GREATEST : Nat} (y_GREATEST : PySem.W.nsIn K mainGlobals "GREATEST" = some (some (.ref d_GREATEST))) (yl_GREATEST : K.lookup d_GREATEST = some ⟨.type "dict", none, .dict es_GREATEST en_GREATEST, #[]⟩) (yk_GREATEST : PySem.W.KeysLit w.params es_GREATEST.toList) (yw_GREATEST : (d_GREATEST == sysModules) = false) (yb_GREATEST : TabL es_GREATEST.toList [("speed", 4), ("slide", 6), ("jump", 5), ("skip", 5), ("again", 3)])
    {t_HEIGHTS : Tok} (y_HEIGHTS : PySem.W.nsIn K mainGlobals "HEIGHTS" = some (some (.int 12 t_HEIGHTS)))
    {d_LEAST : Addr} {es_LEAST : Array DictEntry} {en_LEAST : Nat} (y_LEAST : PySem.W.nsIn K mainGlobals "LEAST" = some (some (.ref d_LEAST))) (yl_LEAST : K.lookup d_LEAST = some ⟨.type "dict", none, .dict es_LEAST en_LEAST, #[]⟩) (yk_LEAST : PySem.W.KeysLit w.params es_LEAST.toList) (yw_LEAST : (d_LEAST == sysModules) = false) (yb_LEAST : TabL es_LEAST.toList [("speed", 1), ("slide", (-6)), ("jump", 0), ("skip", 0), ("again", 1)])
    {t_MOST_PATTERNS : Tok} (y_MOST_PATTERNS : PySem.W.nsIn K mainGlobals "MOST_PATTERNS" = some (some (.int 6 t_MOST_PATTERNS)))
    {t_MOST_PLACES : Tok} (y_MOST_PLACES : PySem.W.nsIn K mainGlobals "MOST_PLACES" = some (some (.int 6 t_MOST_PLACES)))
    {t_MOST_ROWS : Tok} (y_MOST_ROWS : PySem.W.nsIn K mainGlobals "MOST_ROWS" = some (some (.int 6 t_MOST_ROWS)))
    {t_MOST_VOICES : Tok} (y_MOST_VOICES : PySem.W.nsIn K mainGlobals "MOST_VOICES" = some (some (.int 3 t_MOST_VOICES)))
    {t_SLOWEST : Tok} (y_SLOWEST : PySem.W.nsIn K mainGlobals "SLOWEST" = some (some (.int 4 t_SLOWEST))) :
    ∃ fd : FuncData, (∀ (s : Shared) (v : Value), BindsTo s fd ⟨[v], []⟩ [("script", v)]) ∧ ∀ base : Heap, K.In base → base.Ns mainGlobals mg → FnOk l.prog w K mg base CX0 9 fa fd ["script"] (spLaw K) := by
  have e := hfa.symm.trans (PySem.W.mg_of X G a_law)
  cases e
  exact ⟨PySem.W.fnOf "law" "law" (defArgs s_law) (defBody s_law) (defScope s_law) .none kV_law dc_law pm_law an_law cd_law ct_law, fun s v => .of_eq rfl, fun base _ _ => law_end (ok_law (top_mk X G a_is_whole l_is_whole k_is_whole j_is_whole a_is_between l_is_between k_is_between j_is_between a_is_sound l_is_sound k_is_sound j_is_sound a_is_deed l_is_deed k_is_deed j_is_deed a_is_box l_is_box k_is_box j_is_box a_is_row l_is_row k_is_row j_is_row a_is_pattern l_is_pattern k_is_pattern j_is_pattern a_is_song l_is_song k_is_song j_is_song a_L_cell l_L_cell k_L_cell j_L_cell a_L_pick l_L_pick k_L_pick j_L_pick a_L_box l_L_box k_L_box j_L_box a_L_song l_L_song k_L_song j_L_song a_L_bad_box l_L_bad_box k_L_bad_box j_L_bad_box a_L_whole l_L_whole k_L_whole j_L_whole a_L_once l_L_once k_L_once j_L_once a_law l_law k_law j_law z_all z_bool z_int z_isinstance z_len z_list z_range z_str z_tuple y_FASTEST y_GREATEST yl_GREATEST yk_GREATEST yw_GREATEST yb_GREATEST y_HEIGHTS y_LEAST yl_LEAST yk_LEAST yw_LEAST yb_LEAST y_MOST_PATTERNS y_MOST_PLACES y_MOST_ROWS y_MOST_VOICES y_SLOWEST)) LT⟩
end W

set_option Elab.async false
set_option linter.all false
set_option maxRecDepth 100000
/-! MD: data by computation; songs as data. -/
namespace PL
open PySem PySem.Spec PyProof.Rows L2

/-! ### equality of plain data -/
def strOK (x : Str) : Bool := PyData.strOk x
/-- plain to a depth: no truths, good texts -/
def pl : Nat → D → Bool
  | _, .non => true
  | _, .int _ => true
  | _, .str x => strOK x
  | n + 1, .tup ds => ds.all fun d => pl n d
  | n + 1, .lst ds => ds.all fun d => pl n d
  | _, _ => false
theorem canLayAll_iff : ∀ ds : List D, PyData.canLayAll0 (pyAll ds) = ds.all fun d => PyData.canLay0 d.py
  | [] => by simp [pyAll, PyData.canLayAll0]
  | d :: ds => by simp [pyAll, PyData.canLayAll0, canLayAll_iff ds]
theorem depthAll_le {n : Nat} : ∀ ds : List D, (∀ d ∈ ds, PyData.depth d.py ≤ n) → PyData.depthAll (pyAll ds) ≤ n
  | [], _ => by simp [pyAll, PyData.depthAll]
  | d :: ds, h => by
    simp only [pyAll, PyData.depthAll]
    have h1 := h d (List.mem_cons_self ..)
    have h2 := depthAll_le ds fun x hx => h x (List.mem_cons_of_mem _ hx)
    omega
theorem pl_lay : ∀ (n : Nat) (d : D), pl n d = true → PyData.canLay0 d.py = true ∧ PyData.depth d.py ≤ n
  | 0, .non, _ => by simp [D.py, PyData.canLay0, PyData.depth]
  | _ + 1, .non, _ => by simp [D.py, PyData.canLay0, PyData.depth]
  | 0, .int _, _ => by simp [D.py, PyData.canLay0, PyData.depth]
  | _ + 1, .int _, _ => by simp [D.py, PyData.canLay0, PyData.depth]
  | 0, .str x, h => by simp [pl, strOK] at h; simp [D.py, PyData.canLay0, PyData.depth, h]
  | _ + 1, .str x, h => by simp [pl, strOK] at h; simp [D.py, PyData.canLay0, PyData.depth, h]
  | 0, .bl _, h => by simp [pl] at h
  | _ + 1, .bl _, h => by simp [pl] at h
  | 0, .tup _, h => by simp [pl] at h
  | 0, .lst _, h => by simp [pl] at h
  | n + 1, .tup ds, h => by
    simp only [pl, List.all_eq_true] at h
    have h1 := fun d hd => pl_lay n d (h d hd)
    refine ⟨?_, ?_⟩
    · simp only [D.py, PyData.canLay0, canLayAll_iff, List.all_eq_true]
      exact fun d hd => (h1 d hd).1
    · have := depthAll_le ds fun d hd => (h1 d hd).2
      simp only [D.py, PyData.depth]
      omega
  | n + 1, .lst ds, h => by
    simp only [pl, List.all_eq_true] at h
    have h1 := fun d hd => pl_lay n d (h d hd)
    refine ⟨?_, ?_⟩
    · simp only [D.py, PyData.canLay0, canLayAll_iff, List.all_eq_true]
      exact fun d hd => (h1 d hd).1
    · have := depthAll_le ds fun d hd => (h1 d hd).2
      simp only [D.py, PyData.depth]
      omega
theorem pl_ok {n : Nat} {d : D} (h : pl n d = true) (hn : n ≤ 64 := by decide) : eqok d = true := by
  obtain ⟨h1, h2⟩ := pl_lay n d h
  unfold eqok SeqAt.shaped
  rw [h1, decide_eq_true (Nat.le_trans h2 hn)]
  rfl
mutual
theorem eqv_refl : ∀ d : D, PyData.eqv d.py d.py = true
  | .non => by simp [D.py, PyData.eqv]
  | .bl b => by simp [D.py, PyData.eqv]
  | .int i => by simp [D.py, PyData.eqv]
  | .str x => by simp [D.py, PyData.eqv]
  | .tup ds => by simp only [D.py, PyData.eqv]; exact eqvAll_refl ds
  | .lst ds => by simp only [D.py, PyData.eqv]; exact eqvAll_refl ds
theorem eqvAll_refl : ∀ ds : List D, PyData.eqvAll (pyAll ds) (pyAll ds) = true
  | [] => by simp [pyAll, PyData.eqvAll]
  | d :: ds => by simp only [pyAll, PyData.eqvAll, eqv_refl d, eqvAll_refl ds, Bool.and_self]
end
theorem deq_refl (d : D) : deq d d = true := eqv_refl d
theorem eqvAll_eq {P Q : D → Prop} (ih : ∀ d e, P d → Q e → PyData.eqv d.py e.py = true → d = e) : ∀ ds es : List D, (∀ d ∈ ds, P d) → (∀ e ∈ es, Q e) → PyData.eqvAll (pyAll ds) (pyAll es) = true → ds = es
  | [], [], _, _, _ => rfl
  | [], _ :: _, _, _, h => by simp [pyAll, PyData.eqvAll] at h
  | _ :: _, [], _, _, h => by simp [pyAll, PyData.eqvAll] at h
  | d :: ds, e :: es, hp, hq, h => by
    simp only [pyAll, PyData.eqvAll, Bool.and_eq_true] at h
    rw [ih d e (hp d (List.mem_cons_self ..)) (hq e (List.mem_cons_self ..)) h.1, eqvAll_eq ih ds es (fun x hx => hp x (List.mem_cons_of_mem _ hx)) (fun x hx => hq x (List.mem_cons_of_mem _ hx)) h.2]
theorem deq_eq : ∀ (n m : Nat) (d e : D), pl n d = true → pl m e = true → deq d e = true → d = e := by
  intro n
  induction n with
  | zero =>
    intro m d e h1 h2 h
    cases d <;> cases e <;> cases m <;> simp_all [pl, deq, D.py, PyData.eqv]
  | succ n ih =>
    intro m d e h1 h2 h
    cases d with
    | tup ds =>
      cases e with
      | tup es =>
        cases m with
        | zero => simp [pl] at h2
        | succ m =>
          simp only [pl, List.all_eq_true] at h1 h2
          simp only [deq, D.py, PyData.eqv] at h
          rw [eqvAll_eq (P := fun d => pl n d = true) (Q := fun d => pl m d = true) (fun d e p q r => ih m d e p q r) ds es h1 h2 h]
      | _ => simp [deq, D.py, PyData.eqv] at h
    | lst ds =>
      cases e with
      | lst es =>
        cases m with
        | zero => simp [pl] at h2
        | succ m =>
          simp only [pl, List.all_eq_true] at h1 h2
          simp only [deq, D.py, PyData.eqv] at h
          rw [eqvAll_eq (P := fun d => pl n d = true) (Q := fun d => pl m d = true) (fun d e p q r => ih m d e p q r) ds es h1 h2 h]
      | _ => simp [deq, D.py, PyData.eqv] at h
    | _ => cases e <;> cases m <;> simp_all [pl, deq, D.py, PyData.eqv]
theorem oEq_same {n : Nat} {d : D} (h : pl n d = true) (hn : n ≤ 64 := by decide) : oEq d d = some (.bl true) := by
  unfold oEq
  rw [pl_ok h hn, deq_refl]
  rfl
theorem oNe_same {n : Nat} {d : D} (h : pl n d = true) (hn : n ≤ 64 := by decide) : oNe d d = some (.bl false) := by
  unfold oNe
  rw [pl_ok h hn, deq_refl]
  rfl
theorem oEq_diff {n m : Nat} {d e : D} (h : pl n d = true) (h' : pl m e = true) (ne : d ≠ e) (hn : n ≤ 64 := by decide) (hm : m ≤ 64 := by decide) : oEq d e = some (.bl false) := by
  unfold oEq
  rw [pl_ok h hn, pl_ok h' hm]
  have : deq d e = false := by
    cases q : deq d e with
    | false => rfl
    | true => exact absurd (deq_eq n m d e h h' q) ne
  rw [this]
  rfl
theorem oNe_diff {n m : Nat} {d e : D} (h : pl n d = true) (h' : pl m e = true) (ne : d ≠ e) (hn : n ≤ 64 := by decide) (hm : m ≤ 64 := by decide) : oNe d e = some (.bl true) := by
  unfold oNe
  rw [pl_ok h hn, pl_ok h' hm]
  have : deq d e = false := by
    cases q : deq d e with
    | false => rfl
    | true => exact absurd (deq_eq n m d e h h' q) ne
  rw [this]
  rfl
@[simp] theorem oEq_int (i j : Int) : oEq (.int i) (.int j) = some (.bl (decide (i = j))) := by
  by_cases h : i = j
  · subst h; rw [oEq_same (n := 0) rfl, decide_eq_true rfl]
  · rw [oEq_diff (n := 0) (m := 0) rfl rfl (fun e => h (D.int.inj e)), decide_eq_false h]
@[simp] theorem oNe_int (i j : Int) : oNe (.int i) (.int j) = some (.bl (!decide (i = j))) := by
  by_cases h : i = j
  · subst h; rw [oNe_same (n := 0) rfl, decide_eq_true rfl]; rfl
  · rw [oNe_diff (n := 0) (m := 0) rfl rfl (fun e => h (D.int.inj e)), decide_eq_false h]; rfl
theorem oEq_str {x y : Str} (hx : strOK x = true) (hy : strOK y = true) : oEq (.str x) (.str y) = some (.bl (decide (x = y))) := by
  by_cases h : x = y
  · subst h; rw [oEq_same (n := 0) (d := .str x) hx, decide_eq_true rfl]
  · rw [oEq_diff (n := 0) (m := 0) (d := .str x) (e := .str y) hx hy (fun e => h (D.str.inj e)), decide_eq_false h]
theorem oNe_str {x y : Str} (hx : strOK x = true) (hy : strOK y = true) : oNe (.str x) (.str y) = some (.bl (!decide (x = y))) := by
  by_cases h : x = y
  · subst h; rw [oNe_same (n := 0) (d := .str x) hx, decide_eq_true rfl]; rfl
  · rw [oNe_diff (n := 0) (m := 0) (d := .str x) (e := .str y) hx hy (fun e => h (D.str.inj e)), decide_eq_false h]; rfl
theorem oEq_int_str {i : Int} {y : Str} (hy : strOK y = true) : oEq (.int i) (.str y) = some (.bl false) := oEq_diff (n := 0) (m := 0) (d := .int i) (e := .str y) rfl hy (fun e => nomatch e)

/-! ### items -/
theorem atI_n {α : Type} (xs : List α) (n : Nat) : atI xs (n : Int) = xs[n]? := by
  unfold atI ixN
  rw [if_pos (by omega)]
  by_cases h : n < xs.length
  · rw [if_pos (by omega)]; rfl
  · rw [if_neg (by omega), List.getElem?_eq_none (by omega)]; rfl
theorem atI_int {α : Type} (xs : List α) (i : Int) (h : 0 ≤ i) : atI xs i = xs[i.toNat]? := by
  obtain ⟨n, rfl⟩ := Int.eq_ofNat_of_zero_le h
  exact atI_n xs n
@[simp] theorem atI_0 {α : Type} (x : α) (xs : List α) : atI (x :: xs) 0 = some x := atI_n (x :: xs) 0
@[simp] theorem atI_1 {α : Type} (x y : α) (xs : List α) : atI (x :: y :: xs) 1 = some y := atI_n (x :: y :: xs) 1
@[simp] theorem atI_2 {α : Type} (x y z : α) (xs : List α) : atI (x :: y :: z :: xs) 2 = some z := atI_n (x :: y :: z :: xs) 2
@[simp] theorem atI_3 {α : Type} (x y z u : α) (xs : List α) : atI (x :: y :: z :: u :: xs) 3 = some u := atI_n (x :: y :: z :: u :: xs) 3
@[simp] theorem atI_4 {α : Type} (x y z u v : α) (xs : List α) : atI (x :: y :: z :: u :: v :: xs) 4 = some v := atI_n (x :: y :: z :: u :: v :: xs) 4
@[simp] theorem atI_5 {α : Type} (x y z u v w : α) (xs : List α) : atI (x :: y :: z :: u :: v :: w :: xs) 5 = some w := atI_n (x :: y :: z :: u :: v :: w :: xs) 5
theorem atI_last' {α : Type} (xs : List α) : atI xs (-1) = xs.getLast? := by
  rcases List.eq_nil_or_concat xs with rfl | ⟨l, a, rfl⟩
  · rfl
  · rw [List.concat_eq_append, atI_last]; simp

/-! ### loops -/
theorem compL_map {α : Type} {ft : DG} {elt : DE} {ε : Ev} {enc : α → D} {g : α → D} : ∀ (xs : List α), (∀ x ∈ xs, ∃ ε1, ft (enc x) ε = some ε1 ∧ elt ε1 = .ok (g x)) → compL ft dYes elt ε (xs.map enc) = .ok (xs.map g)
  | [], _ => rfl
  | x :: xs, h => by
    obtain ⟨ε1, h1, h2⟩ := h x (List.mem_cons_self ..)
    rw [List.map_cons, List.map_cons]
    unfold compL
    rw [h1]
    simp only [dYes, h2, compL_map xs fun y hy => h y (List.mem_cons_of_mem _ hy), Out.bind]

/-! ### songs -/
inductive Wd where
  | speed | slide | jump | skip | again
  deriving DecidableEq
def Wd.nm : Wd → Str
  | .speed => "speed"
  | .slide => "slide"
  | .jump => "jump"
  | .skip => "skip"
  | .again => "again"
inductive Snd where
  | non | off | h (i : Int)
  deriving DecidableEq
structure Box where
  snd : Snd
  deed : Option (Wd × Int)
  deriving DecidableEq
abbrev Row := List Box
abbrev Pat := List Row
structure Song where
  speed : Int
  order : List Nat
  pats : List Pat
  deriving DecidableEq
def encSnd : Snd → D
  | .non => .non
  | .off => .str "off"
  | .h i => .int i
def encDeed : Option (Wd × Int) → D
  | none => .non
  | some (w, n) => .tup [.str w.nm, .int n]
def encBox (b : Box) : D := .tup [encSnd b.snd, encDeed b.deed]
def encRow (r : Row) : D := .tup (r.map encBox)
def encPat (p : Pat) : D := .tup (p.map encRow)
def encOrd (o : List Nat) : D := .tup (o.map fun (k : Nat) => D.int k)
def encSong (s : Song) : D := .tup [.int s.speed, encOrd s.order, .tup (s.pats.map encPat)]
def encOI : Option Int → D
  | none => .non
  | some i => .int i
@[simp] theorem encOI_none : encOI none = .non := rfl
@[simp] theorem encOI_some (i : Int) : encOI (some i) = .int i := rfl
def hsL (hs : List (Option Int)) : List D := hs.map encOI
def encHs (hs : List (Option Int)) : D := .tup (hsL hs)
theorem hsL_len (hs : List (Option Int)) : (hsL hs).length = hs.length := List.length_map ..
theorem nm_ok (w : Wd) : strOK w.nm = true := by cases w <;> decide +kernel
theorem nm_inj {w v : Wd} : w.nm = v.nm ↔ w = v := by
  constructor
  · intro h
    cases w <;> cases v <;> first | rfl | (exfalso; revert h; decide +kernel)
  · intro h; rw [h]
theorem off_ok : strOK "off" = true := by decide +kernel
@[simp] theorem oEq_nm (w v : Wd) : oEq (.str w.nm) (.str v.nm) = some (.bl (decide (w = v))) := by
  rw [oEq_str (nm_ok w) (nm_ok v)]
  simp only [nm_inj]
@[simp] theorem oNe_nm (w v : Wd) : oNe (.str w.nm) (.str v.nm) = some (.bl (!decide (w = v))) := by
  rw [oNe_str (nm_ok w) (nm_ok v)]
  simp only [nm_inj]
@[simp] theorem isNon_oi (o : Option Int) : isNon (encOI o) = o.isNone := by cases o <;> rfl
@[simp] theorem isNon_deed (o : Option (Wd × Int)) : isNon (encDeed o) = o.isNone := by rcases o with _ | ⟨w, n⟩ <;> rfl
theorem pl_snd (s : Snd) : pl 1 (encSnd s) = true := by cases s <;> first | rfl | exact off_ok
theorem pl_deed (d : Option (Wd × Int)) : pl 2 (encDeed d) = true := by
  rcases d with _ | ⟨w, n⟩
  · rfl
  · simp [encDeed, pl, nm_ok]
theorem pl_mono : ∀ {n m : Nat} {d : D}, n ≤ m → pl n d = true → pl m d = true
  | 0, 0, d, _, h => h
  | 0, m + 1, d, _, h => by cases d <;> simp_all [pl]
  | n + 1, 0, d, l, _ => by omega
  | n + 1, m + 1, d, l, h => by
    cases d with
    | tup ds =>
      simp only [pl, List.all_eq_true] at h ⊢
      exact fun d hd => pl_mono (by omega) (h d hd)
    | lst ds =>
      simp only [pl, List.all_eq_true] at h ⊢
      exact fun d hd => pl_mono (by omega) (h d hd)
    | _ => simp_all [pl]
theorem pl_tup {n : Nat} {ds : List D} (h : ∀ d ∈ ds, pl n d = true) : pl (n + 1) (.tup ds) = true := by
  simp only [pl, List.all_eq_true]; exact h
theorem pl_lst {n : Nat} {ds : List D} (h : ∀ d ∈ ds, pl n d = true) : pl (n + 1) (.lst ds) = true := by
  simp only [pl, List.all_eq_true]; exact h
theorem pl_map {α : Type} {n : Nat} {f : α → D} {xs : List α} (h : ∀ x, pl n (f x) = true) : ∀ d ∈ xs.map f, pl n d = true := fun d hd => by
  obtain ⟨x, _, rfl⟩ := List.mem_map.mp hd
  exact h x
theorem pl_box (b : Box) : pl 3 (encBox b) = true := pl_tup fun d hd => by
  rcases List.mem_cons.mp hd with rfl | hd
  · exact pl_mono (by decide) (pl_snd _)
  · rw [List.mem_singleton.mp hd]; exact pl_deed _
theorem pl_row (r : Row) : pl 4 (encRow r) = true := pl_tup (pl_map pl_box)
theorem pl_pat (p : Pat) : pl 5 (encPat p) = true := pl_tup (pl_map pl_row)
theorem pl_ord (o : List Nat) : pl 1 (encOrd o) = true := pl_tup (pl_map fun _ => rfl)
theorem pl_song (s : Song) : pl 7 (encSong s) = true := pl_tup fun d hd => by
  rcases List.mem_cons.mp hd with rfl | hd
  · rfl
  · rcases List.mem_cons.mp hd with rfl | hd
    · exact pl_mono (by decide) (pl_ord _)
    · rw [List.mem_singleton.mp hd]; exact pl_tup (pl_map pl_pat)
theorem pl_oi (o : Option Int) : pl 0 (encOI o) = true := by cases o <;> rfl
theorem pl_hs (hs : List (Option Int)) : pl 1 (encHs hs) = true := pl_tup (pl_map pl_oi)
theorem pl_hss (l : List (List (Option Int))) : pl 2 (.lst (l.map encHs)) = true := pl_lst (pl_map pl_hs)
end PL

set_option Elab.async false
set_option linter.all false
set_option maxRecDepth 100000
set_option maxHeartbeats 1000000
/-! MA: what plays, as plain functions. -/
namespace W
open PySem L2 PL

def voices (s : Song) : Nat := ((s.pats.headD []).headD []).length
def patAt (s : Song) (p : Nat) : Pat := s.pats.getD (s.order.getD p 0) []
def rowAt (s : Song) (p r : Nat) : Row := (patAt s p).getD r []
def DeedOk (places : Nat) : Wd → Int → Prop
  | .speed, n => 1 ≤ n ∧ n ≤ 4
  | .slide, n => -6 ≤ n ∧ n ≤ 6
  | .jump, n => 0 ≤ n ∧ n < places
  | .skip, n => 0 ≤ n ∧ n ≤ 5
  | .again, n => 1 ≤ n ∧ n ≤ 3
def SndOk : Snd → Prop
  | .h i => 0 ≤ i ∧ i < 12
  | _ => True
structure BoxOk (places : Nat) (b : Box) : Prop where
  snd : SndOk b.snd
  deed : ∀ w n, b.deed = some (w, n) → DeedOk places w n
structure WF (s : Song) : Prop where
  sp : 1 ≤ s.speed ∧ s.speed ≤ 4
  on : 1 ≤ s.order.length ∧ s.order.length ≤ 6
  ok : ∀ k ∈ s.order, k < s.pats.length
  ps : 1 ≤ s.pats.length ∧ s.pats.length ≤ 6
  pn : ∀ p ∈ s.pats, 1 ≤ p.length ∧ p.length ≤ 6
  nv : 1 ≤ voices s ∧ voices s ≤ 3
  rl : ∀ p ∈ s.pats, ∀ r ∈ p, r.length = voices s
  bx : ∀ p ∈ s.pats, ∀ r ∈ p, ∀ b ∈ r, BoxOk s.order.length b
section
variable {s : Song}
theorem pat_get (h : WF s) {p : Nat} (hp : p < s.order.length) : ∃ k, s.order[p]? = some k ∧ s.pats[k]? = some (patAt s p) ∧ patAt s p ∈ s.pats := by
  have e := List.getElem?_eq_getElem hp
  have hk := h.ok _ (List.getElem_mem hp)
  refine ⟨_, e, ?_, ?_⟩
  · unfold patAt
    rw [List.getD_eq_getElem?_getD, List.getD_eq_getElem?_getD, e]
    simp [List.getElem?_eq_getElem hk]
  · unfold patAt
    rw [List.getD_eq_getElem?_getD, List.getD_eq_getElem?_getD, e]
    simp [List.getElem?_eq_getElem hk]
theorem row_get {p r : Nat} (hr : r < (patAt s p).length) : (patAt s p)[r]? = some (rowAt s p r) ∧ rowAt s p r ∈ patAt s p := by
  unfold rowAt
  rw [List.getD_eq_getElem?_getD, List.getElem?_eq_getElem hr]
  exact ⟨rfl, List.getElem_mem hr⟩
theorem head_get (h : WF s) : ∃ r0 rs ps, s.pats = (r0 :: rs) :: ps ∧ voices s = r0.length := by
  obtain ⟨sp, o, pats⟩ := s
  cases pats with
  | nil => exact absurd h.ps.1 (by simp)
  | cons p ps =>
    cases p with
    | nil => exact absurd (h.pn [] (List.mem_cons_self ..)).1 (by simp)
    | cons r rs => exact ⟨r, rs, ps, rfl, rfl⟩
end
end W

set_option Elab.async false
set_option linter.all false
set_option maxRecDepth 100000
set_option maxHeartbeats 1000000
/-! MB: what a law draws. -/
namespace W
open PySem L2 PL

theorem forL_inv {ft : DG} {body : DS} (P : Nat → Ev → Prop) : ∀ (ds : List D) (k : Nat) (ε : Ev), P k ε → (∀ (i : Nat) (d : D) (ε : Ev), ds[i]? = some d → P (k + i) ε → ∃ ε1 ε2, ft d ε = some ε1 ∧ body ε1 = .nx ε2 ∧ P (k + i + 1) ε2) →
    ∃ ε', forL ft body ds ε = .nx ε' ∧ P (k + ds.length) ε'
  | [], k, ε, h, _ => ⟨ε, rfl, h⟩
  | d :: ds, k, ε, h, hs => by
    obtain ⟨ε1, ε2, h1, h2, h3⟩ := hs 0 d ε rfl h
    obtain ⟨ε', h4, h5⟩ := forL_inv P ds (k + 1) ε2 h3 fun i d' ε' hd hp => by
      have := hs (i + 1) d' ε' (by simpa using hd) (by rw [show k + (i + 1) = k + 1 + i by omega]; exact hp)
      rw [show k + (i + 1) + 1 = k + 1 + i + 1 by omega] at this
      exact this
    refine ⟨ε', ?_, ?_⟩
    · unfold forL
      rw [h1]
      dsimp only
      rw [h2]
      exact h4
    · rw [List.length_cons, show k + (ds.length + 1) = k + 1 + ds.length by omega]
      exact h5
theorem rng_get {lo : Int} {n i : Nat} {d : D} (h : (rng lo n)[i]? = some d) : i < n ∧ d = .int (lo + i) := by
  unfold rng at h
  rw [List.getElem?_map] at h
  by_cases hi : i < n
  · rw [List.getElem?_range hi] at h
    cases h
    exact ⟨hi, rfl⟩
  · rw [List.getElem?_eq_none (by simpa using hi)] at h
    cases h
@[simp] theorem rng_len (lo : Int) (n : Nat) : (rng lo n).length = n := by simp [rng]
/-- a loop over range(n) -/
theorem for_rng {ft : DG} {body : DS} (P : Nat → Ev → Prop) (n : Nat) (ε : Ev) (h0 : P 0 ε) (hs : ∀ (i : Nat) (ε : Ev), i < n → P i ε → ∃ ε1 ε2, ft (.int i) ε = some ε1 ∧ body ε1 = .nx ε2 ∧ P (i + 1) ε2) :
    ∃ ε', forL ft body (rng 0 n) ε = .nx ε' ∧ P n ε' := by
  obtain ⟨ε', h1, h2⟩ := forL_inv (ft := ft) (body := body) P (rng 0 n) 0 ε h0 fun i d ε hd hp => by
    obtain ⟨hi, rfl⟩ := rng_get hd
    rw [Nat.zero_add] at hp ⊢
    rw [Int.zero_add]
    exact hs i ε hi hp
  rw [rng_len, Nat.zero_add] at h2
  exact ⟨ε', h1, h2⟩
/-- a comprehension whose items are known to be there -/
theorem compL_ex {α β : Type} {ft : DG} {elt : DE} {ε : Ev} {enc : α → D} {g : β → D} {Q : β → Prop} : ∀ (xs : List α), (∀ x ∈ xs, ∃ y, Q y ∧ ∃ ε1, ft (enc x) ε = some ε1 ∧ elt ε1 = .ok (g y)) →
    ∃ ys : List β, ys.length = xs.length ∧ (∀ y ∈ ys, Q y) ∧ compL ft dYes elt ε (xs.map enc) = .ok (ys.map g)
  | [], _ => ⟨[], rfl, fun _ h => (List.not_mem_nil h).elim, rfl⟩
  | x :: xs, h => by
    obtain ⟨y, hq, ε1, h1, h2⟩ := h x (List.mem_cons_self ..)
    obtain ⟨ys, hl, hQ, hc⟩ := compL_ex xs fun z hz => h z (List.mem_cons_of_mem _ hz)
    refine ⟨y :: ys, by simp [hl], fun z hz => ?_, ?_⟩
    · rcases List.mem_cons.mp hz with rfl | hz
      · exact hq
      · exact hQ z hz
    · rw [List.map_cons, List.map_cons]
      unfold compL
      rw [h1]
      simp only [dYes, h2, hc, bind_ok]
theorem comp_rng {β : Type} {ft : DG} {elt : DE} {ε : Ev} {g : β → D} {Q : β → Prop} (n : Nat) (h : ∀ i : Nat, i < n → ∃ y, Q y ∧ ∃ ε1, ft (.int i) ε = some ε1 ∧ elt ε1 = .ok (g y)) :
    ∃ ys : List β, ys.length = n ∧ (∀ y ∈ ys, Q y) ∧ compL ft dYes elt ε (rng 0 n) = .ok (ys.map g) := by
  unfold rng
  obtain ⟨ys, h1, h2, h3⟩ := compL_ex (g := g) (Q := Q) (ft := ft) (elt := elt) (ε := ε) (enc := fun (k : Nat) => D.int (0 + k)) (List.range n) fun x hx => by
    rw [Int.zero_add]
    exact h x (List.mem_range.mp hx)
  exact ⟨ys, by rw [h1, List.length_range], h2, h3⟩

def scr (ns : List Int) : D := .lst (ns.map D.int)
@[simp] theorem oIx_scr (ns : List Int) (i : Int) : oIx (scr ns) (.int i) = atI (ns.map D.int) i := rfl
@[simp] theorem oLen_scr (ns : List Int) : oLen (scr ns) = some (.int ns.length) := by simp [scr]
def cellI (ns : List Int) (k : Nat) : Int := if k < ns.length then ns.getD k 0 else if ns = [] then 0 else ns.getD (k % ns.length) 0 * 31 + k
theorem pl_scr (ns : List Int) : pl 1 (scr ns) = true := pl_lst (pl_map fun _ => rfl)
theorem e_L_cell (ns : List Int) (k : Nat) : M_L_cell [scr ns, .int k] = .ok (.int (cellI ns k)) := by
  by_cases h : k < ns.length
  · simp [M_L_cell, B_L_cell, cellI, h, atI_n]
  · cases ns with
    | nil =>
      have e : oEq (scr []) (D.lst []) = some (.bl true) := oEq_same (n := 1) rfl
      have h' : ¬ (k : Int) < 0 := by omega
      simp [M_L_cell, B_L_cell, cellI, e, h']
    | cons n ns =>
      have e : oEq (scr (n :: ns)) (D.lst []) = some (.bl false) := oEq_diff (n := 1) (m := 1) (pl_scr (n :: ns)) rfl (fun z => by cases z)
      have hl : k % (ns.length + 1) < (n :: ns).length := Nat.mod_lt _ (by simp)
      have hk : atI (D.int n :: ns.map D.int) ((k : Int) % ((ns.length : Int) + 1)) = some (.int ((n :: ns).getD (k % (ns.length + 1)) 0)) := by
        rw [show (k : Int) % ((ns.length : Int) + 1) = ((k % (ns.length + 1) : Nat) : Int) by simp, atI_n, ← List.map_cons (f := D.int), List.getElem?_map, List.getElem?_eq_getElem hl, List.getD_eq_getElem?_getD, List.getElem?_eq_getElem hl]
        rfl
      have hs : small 31 = true := by decide
      have hp : (0 : Int) < (ns.length : Int) + 1 := by omega
      have h' : ¬ k < ns.length + 1 := h
      have h'' : ¬ (k : Int) < (ns.length : Int) + 1 := by omega
      simp [M_L_cell, B_L_cell, cellI, h', h'', e, hk, hs, hp]
def pickI (ns : List Int) (k : Nat) (m : Int) : Int :=
  let d := (cellI ns k + 6151 * ((k : Int) + 1)) * 40692 % 2147483399
  (d * d + d / 31) % 2147483629 % m
theorem e_L_pick (ns : List Int) (k : Nat) (m : Int) (hm : 0 < m) : M_L_pick [scr ns, .int k, .int m] = .ok (.int (pickI ns k m)) := by
  have h1 : small 6151 = true := by decide
  have h2 : small 40692 = true := by decide
  have h3 : small ((cellI ns k + 6151 * ((k : Int) + 1)) * 40692 % 2147483399) = true := by
    have a := Int.emod_nonneg ((cellI ns k + 6151 * ((k : Int) + 1)) * 40692) (show (2147483399 : Int) ≠ 0 by decide)
    have b := Int.emod_lt_of_pos ((cellI ns k + 6151 * ((k : Int) + 1)) * 40692) (show (0 : Int) < 2147483399 by decide)
    unfold small
    rw [decide_eq_true (by omega), decide_eq_true (by omega)]
    rfl
  simp [M_L_pick, B_L_pick, e_L_cell, h1, h2, h3, hm, pickI]
theorem pick_lt (ns : List Int) (k : Nat) {m : Int} (hm : 0 < m) : 0 ≤ pickI ns k m ∧ pickI ns k m < m :=
  ⟨Int.emod_nonneg _ (by omega), Int.emod_lt_of_pos _ hm⟩
theorem pick_n (ns : List Int) (k : Nat) {m : Nat} (hm : 0 < m) : ∃ v : Nat, v < m ∧ pickI ns k m = v := by
  obtain ⟨h1, h2⟩ := pick_lt ns k (show (0 : Int) < m by omega)
  obtain ⟨v, e⟩ := Int.eq_ofNat_of_zero_le h1
  exact ⟨v, by omega, e⟩
theorem e_L_pick' (ns : List Int) {k : Int} (j : Nat) (hk : k = j) (m : Int) (hm : 0 < m) : M_L_pick [scr ns, .int k, .int m] = .ok (.int (pickI ns j m)) := by rw [hk]; exact e_L_pick ns j m hm

theorem seq_step {f g : DS} {ε ε' : Ev} (h : f ε = .nx ε') : sSeq f g ε = g ε' := by simp [h]
theorem run_step {f g : DS} {ε ε' : Ev} {r : Out D} (h : f ε = .nx ε') (h2 : runF (g ε') = r) : runF (sSeq f g ε) = r := by rw [seq_step h]; exact h2
/-! ### a box -/
theorem L_box_ok (ns : List Int) (at_ : Nat) (places : Nat) (hp : 1 ≤ places) : ∃ b : Box, BoxOk places b ∧ M_L_box [scr ns, .int at_, .int places] = .ok (encBox b) := by
  obtain ⟨d, hd, ed⟩ := pick_n ns at_ (m := 6) (by decide)
  obtain ⟨h, hh, eh⟩ := pick_n ns (at_ + 1) (m := 12) (by decide)
  obtain ⟨w, hw, ew⟩ := pick_n ns (at_ + 2) (m := 12) (by decide)
  have p0 := e_L_pick ns at_ 6 (by decide)
  have p1 := e_L_pick' ns (k := (at_ : Int) + 1) (at_ + 1) (by omega) 12 (by decide)
  have p2 := e_L_pick' ns (k := (at_ : Int) + 2) (at_ + 2) (by omega) 12 (by decide)
  have p3 := fun m hm => e_L_pick' ns (k := (at_ : Int) + 3) (at_ + 3) (by omega) m hm
  have b3 := fun (m : Int) (hm : 0 < m) => pick_lt ns (at_ + 3) hm
  rw [show ((6 : Nat) : Int) = 6 from rfl] at ed
  rw [show ((12 : Nat) : Int) = 12 from rfl] at eh ew
  rw [ed] at p0
  rw [eh] at p1
  rw [ew] at p2
  -- the sound
  have hs : ∃ sn : Snd, SndOk sn ∧ ∀ x5 x6 x7 : Sl, (sIf (dTestB (d2 oGt (dVar 3) (dC (.int 2))))
      (sSet 4 (dIf (dTestB (d2 oEq (dVar 3) (dC (.int 3)))) (dC (.str "off")) (dCall M_L_pick (dArgs [(dVar 0), (d2 oAdd (dVar 1) (dC (.int 1))), (dC (.int 12))]))))
      sNil) [.val (scr ns), .val (.int at_), .val (.int places), .val (.int d), .val .non, x5, x6, x7] = .nx [.val (scr ns), .val (.int at_), .val (.int places), .val (.int d), .val (encSnd sn), x5, x6, x7] := by
    by_cases h2 : 2 < d
    · by_cases h3 : d = 3
      · exact ⟨.off, trivial, fun _ _ _ => by subst h3; simp [encSnd]⟩
      · refine ⟨.h h, ⟨by omega, by omega⟩, fun _ _ _ => ?_⟩
        have h2' : (2 : Int) < (d : Int) := by omega
        have h3' : ¬ (d : Int) = 3 := by omega
        simp [h2', h3', p1, encSnd]
    · refine ⟨.non, trivial, fun _ _ _ => ?_⟩
      have h2' : ¬ (2 : Int) < (d : Int) := by omega
      simp [h2', encSnd]
  obtain ⟨sn, sok, hs⟩ := hs
  unfold M_L_box B_L_box
  have start : ∀ {r : Out D} {f : DS}, runF (f [.val (scr ns), .val (.int at_), .val (.int places), .un, .un, .un, .un, .un]) = r → runD 8 f [scr ns, .int at_, .int places] = r := fun h => h
  by_cases h5 : 5 < w
  · refine ⟨⟨sn, none⟩, ⟨sok, fun _ _ z => by cases z⟩, ?_⟩
    have h5' : (5 : Int) < (w : Int) := by omega
    refine start (run_step (ε' := [.val (scr ns), .val (.int at_), .val (.int places), .val (.int d), .un, .un, .un, .un]) (by simp [p0]) ?_)
    refine run_step (ε' := [.val (scr ns), .val (.int at_), .val (.int places), .val (.int d), .val .non, .un, .un, .un]) (by simp) ?_
    refine run_step (hs _ _ _) ?_
    simp [p2, h5', encBox, encDeed]
  · have key : ∃ (wd : Wd) (lo : Int) (m : Int), 0 < m ∧ (∀ v, 0 ≤ v → v < m → DeedOk places wd (lo + v)) ∧
        atI [D.str "speed", .str "slide", .str "slide", .str "jump", .str "skip", .str "again"] (w : Int) = some (.str wd.nm) ∧ atI [D.int 1, .int (-6), .int (-6), .int 0, .int 0, .int 1] (w : Int) = some (.int lo) ∧
        atI [D.int 3, .int 13, .int 13, .int places, .int 6, .int 2] (w : Int) = some (.int m) := by
      have hw7 : w = 0 ∨ w = 1 ∨ w = 2 ∨ w = 3 ∨ w = 4 ∨ w = 5 := by omega
      rcases hw7 with rfl | rfl | rfl | rfl | rfl | rfl
      · exact ⟨.speed, 1, 3, by decide, fun v h0 h1 => ⟨by omega, by omega⟩, rfl, rfl, rfl⟩
      · exact ⟨.slide, -6, 13, by decide, fun v h0 h1 => ⟨by omega, by omega⟩, rfl, rfl, rfl⟩
      · exact ⟨.slide, -6, 13, by decide, fun v h0 h1 => ⟨by omega, by omega⟩, rfl, rfl, rfl⟩
      · exact ⟨.jump, 0, places, by omega, fun v h0 h1 => ⟨by omega, by omega⟩, rfl, rfl, rfl⟩
      · exact ⟨.skip, 0, 6, by decide, fun v h0 h1 => ⟨by omega, by omega⟩, rfl, rfl, rfl⟩
      · exact ⟨.again, 1, 2, by decide, fun v h0 h1 => ⟨by omega, by omega⟩, rfl, rfl, rfl⟩
    obtain ⟨wd, lo, m, hm, dok, a1, a2, a3⟩ := key
    have bm := b3 m hm
    refine ⟨⟨sn, some (wd, lo + pickI ns (at_ + 3) m)⟩, ⟨sok, fun w' n' z => by cases z; exact dok _ bm.1 bm.2⟩, ?_⟩
    have h5' : ¬ (5 : Int) < (w : Int) := by omega
    refine start (run_step (ε' := [.val (scr ns), .val (.int at_), .val (.int places), .val (.int d), .un, .un, .un, .un]) (by simp [p0]) ?_)
    refine run_step (ε' := [.val (scr ns), .val (.int at_), .val (.int places), .val (.int d), .val .non, .un, .un, .un]) (by simp) ?_
    refine run_step (hs _ _ _) ?_
    simp [p2, h5', a1, a2, a3, p3 m hm, encBox, encDeed]

/-! ### a song -/
theorem small_nat {n : Nat} (h : n < 1000000) : small (n : Int) = true := by
  unfold small
  rw [decide_eq_true (by omega), decide_eq_true (by omega)]
  rfl
theorem L_row_ok (ns : List Int) (places voices : Nat) (hp : 1 ≤ places) (base : Nat) (x1 x2 x4 x6 x7 x8 x9 x12 : Sl) : ∃ r : Row, r.length = voices ∧ (∀ b ∈ r, BoxOk places b) ∧
    compL (tgN 11) dYes (dCall M_L_box (dArgs [(dVar 0), (d2 oAdd (dVar 10) (d2 oMul (dC (.int 4)) (dVar 11))), (dVar 3)]))
      [.val (scr ns), x1, x2, .val (.int places), x4, .val (.int voices), x6, x7, x8, x9, .val (.int base), .un, x12] (rng 0 voices) = .ok (r.map encBox) := by
  obtain ⟨ys, h1, h2, h3⟩ := comp_rng (g := encBox) (Q := BoxOk places) (ft := tgN 11) (elt := dCall M_L_box (dArgs [(dVar 0), (d2 oAdd (dVar 10) (d2 oMul (dC (.int 4)) (dVar 11))), (dVar 3)]))
    (ε := [.val (scr ns), x1, x2, .val (.int places), x4, .val (.int voices), x6, x7, x8, x9, .val (.int base), .un, x12]) voices fun i hi => by
      obtain ⟨b, hb, e⟩ := L_box_ok ns (base + 4 * i) places hp
      have hs : small 4 = true := by decide
      refine ⟨b, hb, _, rfl, ?_⟩
      simp at e
      simp [hs, e]
  exact ⟨ys, h1, h2, h3⟩
theorem L_pat_ok (ns : List Int) (at_ most places many voices j : Nat) (hv : voices ≤ 3) (hp : 1 ≤ places) (hm : 1 ≤ most ∧ most ≤ 4) (x6 x8 x9 x10 : Sl) : ∃ (p : Pat) (y9 y10 : Sl), 1 ≤ p.length ∧ p.length ≤ most ∧ (∀ r ∈ p, r.length = voices ∧ ∀ b ∈ r, BoxOk places b) ∧
    (sSeq (sOwn 8 (lLst []))
    (sSeq (sFor (iR1 (d2 oAdd (dC (.int 1)) (dCall M_L_pick (dArgs [(dVar 0), (d2 oAdd (d2 oAdd (dVar 1) (dC (.int 4))) (dVar 7)), (dVar 2)])))) (tgN 9)
    (sSeq (sSet 10 (d2 oAdd (d2 oAdd (d2 oAdd (dVar 1) (dC (.int 20))) (d2 oMul (dC (.int 50)) (dVar 7))) (d2 oMul (dC (.int 12)) (dVar 9))))
    (sApp 8 (d1 oTuple (dLst (lComp [11] (iR1 (dVar 5)) (tgN 11) dYes (dCall M_L_box (dArgs [(dVar 0), (d2 oAdd (dVar 10) (d2 oMul (dC (.int 4)) (dVar 11))), (dVar 3)]))))))))
    (sApp 6 (d1 oTuple (vVar 8))))) [.val (scr ns), .val (.int at_), .val (.int most), .val (.int places), .val (.int many), .val (.int voices), x6, .val (.int j), x8, x9, x10, .un, .un] =
    (sApp 6 (dC (encPat p))) [.val (scr ns), .val (.int at_), .val (.int most), .val (.int places), .val (.int many), .val (.int voices), x6, .val (.int j), .own (p.map encRow), y9, y10, .un, .un] := by
  obtain ⟨n, hn, en⟩ := pick_n ns (at_ + 4 + j) (m := most) hm.1
  have p0 := e_L_pick' ns (k := (at_ : Int) + 4 + j) (at_ + 4 + j) (by omega) (most : Int) (by omega)
  rw [en] at p0
  obtain ⟨ε', h1, rows, y9, y10, hl, hr, h2⟩ := for_rng (ft := tgN 9) (body := (sSeq (sSet 10 (d2 oAdd (d2 oAdd (d2 oAdd (dVar 1) (dC (.int 20))) (d2 oMul (dC (.int 50)) (dVar 7))) (d2 oMul (dC (.int 12)) (dVar 9))))
      (sApp 8 (d1 oTuple (dLst (lComp [11] (iR1 (dVar 5)) (tgN 11) dYes (dCall M_L_box (dArgs [(dVar 0), (d2 oAdd (dVar 10) (d2 oMul (dC (.int 4)) (dVar 11))), (dVar 3)]))))))))
    (fun i ε => ∃ (rows : Pat) (y9 y10 : Sl), rows.length = i ∧ (∀ r ∈ rows, r.length = voices ∧ ∀ b ∈ r, BoxOk places b) ∧
      ε = [.val (scr ns), .val (.int at_), .val (.int most), .val (.int places), .val (.int many), .val (.int voices), x6, .val (.int j), .own (rows.map encRow), y9, y10, .un, .un]) (1 + n)
    [.val (scr ns), .val (.int at_), .val (.int most), .val (.int places), .val (.int many), .val (.int voices), x6, .val (.int j), .own [], x9, x10, .un, .un] ⟨[], x9, x10, rfl, fun _ h => (List.not_mem_nil h).elim, rfl⟩ (by
      rintro i ε hi ⟨rows, y9, y10, hl, hr, rfl⟩
      obtain ⟨r, r1, r2, r3⟩ := L_row_ok ns places voices hp (at_ + 20 + 50 * j + 12 * i) (.val (.int at_)) (.val (.int most)) (.val (.int many)) x6 (.val (.int j)) (.own (rows.map encRow)) (.val (.int i)) .un
      have h50 : small 50 = true := by decide
      have h12 : small 12 = true := by decide
      have hv1 : -1000000 ≤ (voices : Int) ∧ (voices : Int) ≤ 1000000 := by omega
      have hv2 : voices ≤ LIM := by show voices ≤ 100000; omega
      have hl2 : rows.length < LIM := by show rows.length < 100000; omega
      refine ⟨_, _, rfl, ?_, rows ++ [r], .val (.int i), .val (.int ((at_ + 20 + 50 * j + 12 * i : Nat) : Int)), by simp [hl], fun r' hr' => ?_, rfl⟩
      · simp at r3
        simp [h50, h12, hv1, hv2, r3, hl2, encRow]
      · rcases List.mem_append.mp hr' with z | z
        · exact hr r' z
        · rw [List.mem_singleton.mp z]; exact ⟨r1, r2⟩)
  subst h2
  refine ⟨rows, y9, y10, by omega, by omega, hr, ?_⟩
  have hb : -1000000 ≤ 1 + (n : Int) ∧ 1 + (n : Int) ≤ 1000000 := by omega
  have ht : (1 + (n : Int)).toNat = 1 + n := by omega
  simp [p0, hb, ht, h1, encPat]

theorem L_song_ok (ns : List Int) (at_ most : Nat) (hm : 1 ≤ most ∧ most ≤ 4) : ∃ s : Song, WF s ∧ s.order.length ≤ most ∧ s.pats.length ≤ 3 ∧ (∀ p ∈ s.pats, p.length ≤ most) ∧ M_L_song [scr ns, .int at_, .int most] = .ok (encSong s) := by
  obtain ⟨pl0, hpl, epl⟩ := pick_n ns at_ (m := most) hm.1
  obtain ⟨mn, hmn, emn⟩ := pick_n ns (at_ + 1) (m := 3) (by decide)
  obtain ⟨vn, hvn, evn⟩ := pick_n ns (at_ + 2) (m := 4) (by decide)
  obtain ⟨sp, hsp, esp⟩ := pick_n ns (at_ + 3) (m := 4) (by decide)
  have p0 := e_L_pick ns at_ (most : Int) (by omega)
  have p1 := e_L_pick' ns (k := (at_ : Int) + 1) (at_ + 1) (by omega) 3 (by decide)
  have p2 := e_L_pick' ns (k := (at_ : Int) + 2) (at_ + 2) (by omega) 4 (by decide)
  have p3 := e_L_pick' ns (k := (at_ : Int) + 3) (at_ + 3) (by omega) 4 (by decide)
  rw [epl] at p0
  rw [show ((3 : Nat) : Int) = 3 from rfl] at emn
  rw [show ((4 : Nat) : Int) = 4 from rfl] at evn esp
  rw [emn] at p1
  rw [evn] at p2
  rw [esp] at p3
  obtain ⟨vs, hvs, a1⟩ : ∃ v : Nat, (1 ≤ v ∧ v ≤ 3) ∧ atI [D.int 1, .int 1, .int 2, .int 3] (vn : Int) = some (.int v) := by
    have : vn = 0 ∨ vn = 1 ∨ vn = 2 ∨ vn = 3 := by omega
    rcases this with rfl | rfl | rfl | rfl
    · exact ⟨1, ⟨by omega, by omega⟩, rfl⟩
    · exact ⟨1, ⟨by omega, by omega⟩, rfl⟩
    · exact ⟨2, ⟨by omega, by omega⟩, rfl⟩
    · exact ⟨3, ⟨by omega, by omega⟩, rfl⟩
  -- the patterns
  obtain ⟨ε', h1, pats, y7, y8, y9, y10, hl, hr, h2⟩ := for_rng (ft := tgN 7) (body := (sSeq (sOwn 8 (lLst []))
    (sSeq (sFor (iR1 (d2 oAdd (dC (.int 1)) (dCall M_L_pick (dArgs [(dVar 0), (d2 oAdd (d2 oAdd (dVar 1) (dC (.int 4))) (dVar 7)), (dVar 2)])))) (tgN 9)
    (sSeq (sSet 10 (d2 oAdd (d2 oAdd (d2 oAdd (dVar 1) (dC (.int 20))) (d2 oMul (dC (.int 50)) (dVar 7))) (d2 oMul (dC (.int 12)) (dVar 9))))
    (sApp 8 (d1 oTuple (dLst (lComp [11] (iR1 (dVar 5)) (tgN 11) dYes (dCall M_L_box (dArgs [(dVar 0), (d2 oAdd (dVar 10) (d2 oMul (dC (.int 4)) (dVar 11))), (dVar 3)]))))))))
    (sApp 6 (d1 oTuple (vVar 8))))))
    (fun i ε => ∃ (pats : List Pat) (y7 y8 y9 y10 : Sl), pats.length = i ∧ (∀ p ∈ pats, 1 ≤ p.length ∧ p.length ≤ most ∧ ∀ r ∈ p, r.length = vs ∧ ∀ b ∈ r, BoxOk (1 + pl0) b) ∧
      ε = [.val (scr ns), .val (.int at_), .val (.int most), .val (.int ((1 + pl0 : Nat) : Int)), .val (.int ((1 + mn : Nat) : Int)), .val (.int vs), .own (pats.map encPat), y7, y8, y9, y10, .un, .un]) (1 + mn)
    [.val (scr ns), .val (.int at_), .val (.int most), .val (.int ((1 + pl0 : Nat) : Int)), .val (.int ((1 + mn : Nat) : Int)), .val (.int vs), .own [], .un, .un, .un, .un, .un, .un] ⟨[], .un, .un, .un, .un, rfl, fun _ h => (List.not_mem_nil h).elim, rfl⟩ (by
      rintro i ε hi ⟨pats, y7, y8, y9, y10, hl, hr, rfl⟩
      obtain ⟨p, z9, z10, q1, q2, q3, q4⟩ := L_pat_ok ns at_ most (1 + pl0) (1 + mn) vs i hvs.2 (by omega) hm (.own (pats.map encPat)) y8 y9 y10
      have hl2 : pats.length < LIM := by show pats.length < 100000; omega
      refine ⟨_, _, rfl, q4.trans (by simp [hl2]; rfl), pats ++ [p], .val (.int i), .own (p.map encRow), z9, z10, by simp [hl], fun p' hp' => ?_, by simp⟩
      rcases List.mem_append.mp hp' with z | z
      · exact hr p' z
      · rw [List.mem_singleton.mp z]; exact ⟨q1, q2, q3⟩)
  subst h2
  -- the order
  obtain ⟨ord, o1, o2, o3⟩ := comp_rng (g := fun (k : Nat) => D.int k) (Q := fun k => k < 1 + mn) (ft := tgN 9) (elt := dCall M_L_pick (dArgs [(dVar 0), (d2 oAdd (d2 oAdd (dVar 1) (dC (.int 8))) (dVar 9)), (dVar 4)]))
    (ε := [.val (scr ns), .val (.int at_), .val (.int most), .val (.int ((1 + pl0 : Nat) : Int)), .val (.int ((1 + mn : Nat) : Int)), .val (.int vs), .own (pats.map encPat), y7, y8, .un, y10, .un, .un]) (1 + pl0) fun i hi => by
      obtain ⟨v, hv, ev⟩ := pick_n ns (at_ + 8 + i) (m := 1 + mn) (by omega)
      have pp := e_L_pick' ns (k := (at_ : Int) + 8 + i) (at_ + 8 + i) (by omega) ((1 + mn : Nat) : Int) (by omega)
      rw [ev] at pp
      refine ⟨v, hv, _, rfl, ?_⟩
      simp at pp
      simp [pp]
  refine ⟨⟨1 + sp, ord, pats⟩, ?_, by show ord.length ≤ most; omega, by show pats.length ≤ 3; omega, fun p hp => (hr p hp).2.1, ?_⟩
  · have hv : voices ⟨1 + sp, ord, pats⟩ = vs := by
      obtain ⟨p, ps, rfl⟩ : ∃ p ps, pats = p :: ps := by
        cases pats with
        | nil => simp at hl; omega
        | cons p ps => exact ⟨p, ps, rfl⟩
      obtain ⟨q1, _, q3⟩ := hr p (List.mem_cons_self ..)
      cases p with
      | nil => simp at q1
      | cons r rs => exact (q3 r (List.mem_cons_self ..)).1
    refine ⟨⟨by show (1 : Int) ≤ 1 + sp; omega, by show (1 : Int) + sp ≤ 4; omega⟩, ⟨by show 1 ≤ ord.length; omega, by show ord.length ≤ 6; omega⟩, fun k hk => ?_, ⟨by show 1 ≤ pats.length; omega, by show pats.length ≤ 6; omega⟩, fun p hp => ⟨(hr p hp).1, by have := (hr p hp).2.1; omega⟩, by rw [hv]; exact hvs, fun p hp r hrr => ?_, fun p hp r hrr b hb => ?_⟩
    · have := o2 k hk
      show k < pats.length
      omega
    · rw [hv]; exact ((hr p hp).2.2 r hrr).1
    · have := ((hr p hp).2.2 r hrr).2 b hb
      rw [show (1 + pl0) = ord.length from o1.symm] at this
      exact this
  · have hb : -1000000 ≤ 1 + (mn : Int) ∧ 1 + (mn : Int) ≤ 1000000 := by omega
    have ht : (1 + (mn : Int)).toNat = 1 + mn := by omega
    have hb2 : -1000000 ≤ 1 + (pl0 : Int) ∧ 1 + (pl0 : Int) ≤ 1000000 := by omega
    have ht2 : (1 + (pl0 : Int)).toNat = 1 + pl0 := by omega
    have hb3 : 1 + pl0 ≤ LIM := by show 1 + pl0 ≤ 100000; omega
    simp at h1 o3
    simp [M_L_song, B_L_song, p0, p1, p2, p3, a1, hb, ht, h1, hb2, ht2, hb3, o3, encSong, encOrd]
end W

set_option Elab.async false
set_option linter.all false
set_option maxRecDepth 100000
set_option maxHeartbeats 1000000
/-! MI: is_song and its like, at any plain data. -/
namespace W
open PySem L2 PL
/-- plain to a depth: good texts -/
def okS : Nat → D → Bool
  | _, .non => true
  | _, .int _ => true
  | _, .bl _ => true
  | _, .str x => strOK x
  | n + 1, .tup ds => ds.all fun d => okS n d
  | n + 1, .lst ds => ds.all fun d => okS n d
  | _, _ => false
theorem okS_pl : ∀ {n : Nat} {d : D}, pl n d = true → okS n d = true
  | n, .non, _ => by cases n <;> rfl
  | n, .int _, _ => by cases n <;> rfl
  | n, .bl _, _ => by cases n <;> rfl
  | n, .str _, h => by cases n <;> exact h
  | 0, .tup _, h => by cases h
  | 0, .lst _, h => by cases h
  | n + 1, .tup ds, h => by
    simp only [pl, okS, List.all_eq_true] at h ⊢
    exact fun d hd => okS_pl (h d hd)
  | n + 1, .lst ds, h => by
    simp only [pl, okS, List.all_eq_true] at h ⊢
    exact fun d hd => okS_pl (h d hd)
def isTup : D → Bool
  | .tup _ => true
  | _ => false
def isStr : D → Bool
  | .str _ => true
  | _ => false
def isInt : D → Bool
  | .int _ => true
  | .bl _ => true
  | _ => false
def isBl : D → Bool
  | .bl _ => true
  | _ => false
def isLst : D → Bool
  | .lst _ => true
  | _ => false
@[simp] theorem isi_tuple (d : D) : oIsi "tuple" d = some (.bl (isTup d)) := by
  cases d with
  | non => show (kitB "NoneType" "tuple").map D.bl = _; rw [show kitB "NoneType" "tuple" = some false from by decide +kernel]; rfl
  | bl b => show (kitB "bool" "tuple").map D.bl = _; rw [show kitB "bool" "tuple" = some false from by decide +kernel]; rfl
  | int i => show (kitB "int" "tuple").map D.bl = _; rw [show kitB "int" "tuple" = some false from by decide +kernel]; rfl
  | str x => show (kitB "str" "tuple").map D.bl = _; rw [show kitB "str" "tuple" = some false from by decide +kernel]; rfl
  | tup ds => show (kitB "tuple" "tuple").map D.bl = _; rw [show kitB "tuple" "tuple" = some true from by decide +kernel]; rfl
  | lst ds => show (kitB "list" "tuple").map D.bl = _; rw [show kitB "list" "tuple" = some false from by decide +kernel]; rfl
@[simp] theorem isi_str (d : D) : oIsi "str" d = some (.bl (isStr d)) := by
  cases d with
  | non => show (kitB "NoneType" "str").map D.bl = _; rw [show kitB "NoneType" "str" = some false from by decide +kernel]; rfl
  | bl b => show (kitB "bool" "str").map D.bl = _; rw [show kitB "bool" "str" = some false from by decide +kernel]; rfl
  | int i => show (kitB "int" "str").map D.bl = _; rw [show kitB "int" "str" = some false from by decide +kernel]; rfl
  | str x => show (kitB "str" "str").map D.bl = _; rw [show kitB "str" "str" = some true from by decide +kernel]; rfl
  | tup ds => show (kitB "tuple" "str").map D.bl = _; rw [show kitB "tuple" "str" = some false from by decide +kernel]; rfl
  | lst ds => show (kitB "list" "str").map D.bl = _; rw [show kitB "list" "str" = some false from by decide +kernel]; rfl
@[simp] theorem isi_int (d : D) : oIsi "int" d = some (.bl (isInt d)) := by
  cases d with
  | non => show (kitB "NoneType" "int").map D.bl = _; rw [show kitB "NoneType" "int" = some false from by decide +kernel]; rfl
  | bl b => show (kitB "bool" "int").map D.bl = _; rw [show kitB "bool" "int" = some true from by decide +kernel]; rfl
  | int i => show (kitB "int" "int").map D.bl = _; rw [show kitB "int" "int" = some true from by decide +kernel]; rfl
  | str x => show (kitB "str" "int").map D.bl = _; rw [show kitB "str" "int" = some false from by decide +kernel]; rfl
  | tup ds => show (kitB "tuple" "int").map D.bl = _; rw [show kitB "tuple" "int" = some false from by decide +kernel]; rfl
  | lst ds => show (kitB "list" "int").map D.bl = _; rw [show kitB "list" "int" = some false from by decide +kernel]; rfl
@[simp] theorem isi_bool (d : D) : oIsi "bool" d = some (.bl (isBl d)) := by
  cases d with
  | non => show (kitB "NoneType" "bool").map D.bl = _; rw [show kitB "NoneType" "bool" = some false from by decide +kernel]; rfl
  | bl b => show (kitB "bool" "bool").map D.bl = _; rw [show kitB "bool" "bool" = some true from by decide +kernel]; rfl
  | int i => show (kitB "int" "bool").map D.bl = _; rw [show kitB "int" "bool" = some false from by decide +kernel]; rfl
  | str x => show (kitB "str" "bool").map D.bl = _; rw [show kitB "str" "bool" = some false from by decide +kernel]; rfl
  | tup ds => show (kitB "tuple" "bool").map D.bl = _; rw [show kitB "tuple" "bool" = some false from by decide +kernel]; rfl
  | lst ds => show (kitB "list" "bool").map D.bl = _; rw [show kitB "list" "bool" = some false from by decide +kernel]; rfl
@[simp] theorem tru_blS (b : Bool) : tru (.bl b) = some b := rfl
def wholeD : D → Bool
  | .int _ => true
  | _ => false
theorem e_is_whole (d : D) : M_is_whole [d] = .ok (.bl (wholeD d)) := by
  cases d <;> simp [M_is_whole, B_is_whole, isInt, isBl, wholeD]
def betwD (d : D) (lo hi : Int) : Bool := match d with
  | .int i => decide (lo ≤ i) && decide (i ≤ hi)
  | _ => false
theorem e_is_between (d : D) (lo hi : Int) : M_is_between [d, .int lo, .int hi] = .ok (.bl (betwD d lo hi)) := by
  cases d with
  | int i => by_cases h : lo ≤ i <;> simp [M_is_between, B_is_between, e_is_whole, wholeD, betwD, h]
  | _ => simp [M_is_between, B_is_between, e_is_whole, wholeD, betwD]
def soundD : D → Bool
  | .non => true
  | .str z => decide (z = "off")
  | .int i => decide (0 ≤ i) && decide (i ≤ 11)
  | _ => false
theorem e_is_sound {n : Nat} (d : D) (h : okS n d = true) : M_is_sound [d] = .ok (.bl (soundD d)) := by
  cases d with
  | str z =>
    have hz : strOK z = true := by cases n <;> exact h
    by_cases e : z = "off"
    · subst e
      simp [M_is_sound, B_is_sound, isStr, oEq_str off_ok off_ok, soundD]
    · simp [M_is_sound, B_is_sound, isStr, oEq_str hz off_ok, e_is_between, betwD, soundD, e]
  | int i => simp [M_is_sound, B_is_sound, isStr, e_is_between, betwD, soundD]
  | _ => simp [M_is_sound, B_is_sound, isStr, e_is_between, betwD, soundD]
def LEAST : List (Str × Int) := [("speed", 1), ("slide", (-6)), ("jump", 0), ("skip", 0), ("again", 1)]
def GREATEST : List (Str × Int) := [("speed", 4), ("slide", 6), ("jump", 5), ("skip", 5), ("again", 3)]
def deedD (places : Nat) : D → Bool
  | .non => true
  | .tup [.str z, x] => (match tabAt LEAST z, tabAt GREATEST z with
      | some lo, some hi => betwD x lo hi && (decide (z ≠ "jump") || betwD x 0 ((places : Int) - 1))
      | _, _ => false)
  | _ => false
theorem tab_same (z : Str) : (tabAt LEAST z).isSome = (tabAt GREATEST z).isSome := by
  simp only [LEAST, GREATEST, tabAt]
  repeat' split
  all_goals rfl
theorem jump_ok : strOK "jump" = true := by decide +kernel
theorem e_is_deed {n : Nat} (d : D) (places : Nat) (h : okS n d = true) : M_is_deed [d, .int places] = .ok (.bl (deedD places d)) := by
  cases d with
  | non => simp [M_is_deed, B_is_deed, deedD]
  | bl b => simp [M_is_deed, B_is_deed, deedD, isTup]
  | int b => simp [M_is_deed, B_is_deed, deedD, isTup]
  | str b => simp [M_is_deed, B_is_deed, deedD, isTup]
  | lst b => simp [M_is_deed, B_is_deed, deedD, isTup]
  | tup ds =>
    match ds, h with
    | [], _ => simp [M_is_deed, B_is_deed, deedD, isTup]
    | [a], _ => simp [M_is_deed, B_is_deed, deedD, isTup]
    | a :: b :: c :: r, _ => 
      have : ¬ ((r.length : Int) + 1 + 1 + 1 = 2) := by omega
      simp [M_is_deed, B_is_deed, deedD, isTup, this]
    | [a, x], h =>
      cases a with
      | str z =>
        have hz : strOK z = true := by
          cases n with
          | zero => cases h
          | succ n =>
            simp [okS] at h
            cases n <;> exact h.1
        have e1 := tab_same z
        cases hl : tabAt LEAST z with
        | none =>
          have hl' := hl
          unfold LEAST at hl'
          simp [M_is_deed, B_is_deed, deedD, isTup, isStr, hl, hl']
        | some lo =>
          rw [hl] at e1
          cases hg : tabAt GREATEST z with
          | none => rw [hg] at e1; cases e1
          | some hi =>
            have hl' := hl
            have hg' := hg
            unfold LEAST at hl'
            unfold GREATEST at hg'
            cases hb : betwD x lo hi with
            | false => simp [M_is_deed, B_is_deed, deedD, isTup, isStr, hl, hl', hg, hg', e_is_between, hb]
            | true =>
              cases x with
              | int i =>
                by_cases hj : z = "jump"
                · subst hj
                  have hlo : 0 ≤ i := by
                    have : tabAt LEAST "jump" = some 0 := by decide +kernel
                    rw [this] at hl
                    cases hl
                    simp [betwD] at hb
                    exact hb.1
                  simp [M_is_deed, B_is_deed, deedD, isTup, isStr, hl, hl', hg, hg', e_is_between, hb, oNe_str jump_ok jump_ok]
                  simp [betwD, hlo]
                  omega
                · simp [M_is_deed, B_is_deed, deedD, isTup, isStr, hl, hl', hg, hg', e_is_between, hb, oNe_str hz jump_ok, hj]
              | _ => cases hb
      | _ => simp [M_is_deed, B_is_deed, deedD, isTup, isStr]
theorem pl_at' {n : Nat} {ds : List D} (h : okS n (.tup ds) = true) : ∃ m, n = m + 1 ∧ ∀ d ∈ ds, okS m d = true := by
  cases n with
  | zero => cases h
  | succ m => exact ⟨m, rfl, by simpa [okS] using h⟩
def boxD (places : Nat) : D → Bool
  | .tup [a, b] => soundD a && deedD places b
  | _ => false
theorem e_is_box {n : Nat} (d : D) (places : Nat) (h : okS n d = true) : M_is_box [d, .int places] = .ok (.bl (boxD places d)) := by
  cases d with
  | tup ds =>
    obtain ⟨m, rfl, hm⟩ := pl_at' h
    match ds, hm with
    | [], _ => simp [M_is_box, B_is_box, boxD, isTup]
    | [a], _ => simp [M_is_box, B_is_box, boxD, isTup]
    | a :: b :: c :: r, _ =>
      have : ¬ ((r.length : Int) + 1 + 1 + 1 = 2) := by omega
      simp [M_is_box, B_is_box, boxD, isTup, this]
    | [a, b], hm =>
      have h1 := e_is_sound a (hm a (by simp))
      have h2 := e_is_deed b places (hm b (by simp))
      cases hs : soundD a with
      | true => simp [M_is_box, B_is_box, boxD, isTup, h1, h2, hs]
      | false => simp [M_is_box, B_is_box, boxD, isTup, h1, hs]
  | _ => simp [M_is_box, B_is_box, boxD, isTup]
/-- all([f(x) for x in ..]) -/
theorem all_comp {ft : DG} {elt : DE} {ε : Ev} {p : D → Bool} (ds : List D) (h : ∀ d ∈ ds, ∃ ε1, ft d ε = some ε1 ∧ elt ε1 = .ok (.bl (p d))) : compL ft dYes elt ε ds = .ok ((ds.map p).map D.bl) := by
  have := compL_map (ft := ft) (elt := elt) (ε := ε) (enc := id) (g := fun d => D.bl (p d)) ds h
  rw [List.map_id] at this
  rw [this, List.map_map]
  rfl
def lenOk (n m : Nat) : Bool := decide (1 ≤ n) && decide (n ≤ m)
def rowD (places : Nat) : D → Bool
  | .tup ds => lenOk ds.length 3 && ds.all (boxD places)
  | _ => false
theorem all_map (p : D → Bool) (ds : List D) : (ds.map p).all id = ds.all p := by simp [List.all_map]
theorem e_is_row {n : Nat} (d : D) (places : Nat) (h : okS n d = true) : M_is_row [d, .int places] = .ok (.bl (rowD places d)) := by
  cases d with
  | tup ds =>
    obtain ⟨m, rfl, hm⟩ := pl_at' h
    have hc := all_comp (ft := tgN 2) (elt := E_is_row_1) (ε := [.val (.tup ds), .val (.int places), .un]) (p := boxD places) ds (fun d hd => ⟨_, rfl, by simp [e_is_box d places (hm d hd)]⟩)
    have iter : oSeq (.tup ds) = some ds := rfl
    by_cases h1 : 1 ≤ ds.length
    · by_cases h2 : ds.length ≤ 3
      · have hl : ds.length ≤ LIM := Nat.le_trans h2 (by decide)
        have h1' : (1 : Int) ≤ (ds.length : Int) := by omega
        have h2' : (ds.length : Int) ≤ 3 := by omega
        simp [M_is_row, B_is_row, isTup, h1', h2', hl, hc, blsOf_map, all_map, rowD, lenOk, h1, h2, iter, -List.map_map]
      · have h1' : (1 : Int) ≤ (ds.length : Int) := by omega
        have h2' : ¬ (ds.length : Int) ≤ 3 := by omega
        simp [M_is_row, B_is_row, isTup, h1', h2', rowD, lenOk, h1, h2]
    · have h1' : ¬ (1 : Int) ≤ (ds.length : Int) := by omega
      simp [M_is_row, B_is_row, isTup, h1', rowD, lenOk, h1]
  | _ => simp [M_is_row, B_is_row, rowD, isTup]
def patD (places : Nat) : D → Bool
  | .tup ds => lenOk ds.length 6 && ds.all (rowD places)
  | _ => false
theorem e_is_pattern {n : Nat} (d : D) (places : Nat) (h : okS n d = true) : M_is_pattern [d, .int places] = .ok (.bl (patD places d)) := by
  cases d with
  | tup ds =>
    obtain ⟨m, rfl, hm⟩ := pl_at' h
    have hc := all_comp (ft := tgN 2) (elt := E_is_pattern_1) (ε := [.val (.tup ds), .val (.int places), .un]) (p := rowD places) ds (fun d hd => ⟨_, rfl, by simp [e_is_row d places (hm d hd)]⟩)
    have iter : oSeq (.tup ds) = some ds := rfl
    by_cases h1 : 1 ≤ ds.length
    · by_cases h2 : ds.length ≤ 6
      · have hl : ds.length ≤ LIM := Nat.le_trans h2 (by decide)
        have h1' : (1 : Int) ≤ (ds.length : Int) := by omega
        have h2' : (ds.length : Int) ≤ 6 := by omega
        simp [M_is_pattern, B_is_pattern, isTup, h1', h2', hl, hc, blsOf_map, all_map, patD, lenOk, h1, h2, iter, -List.map_map]
      · have h1' : (1 : Int) ≤ (ds.length : Int) := by omega
        have h2' : ¬ (ds.length : Int) ≤ 6 := by omega
        simp [M_is_pattern, B_is_pattern, isTup, h1', h2', patD, lenOk, h1, h2]
    · have h1' : ¬ (1 : Int) ≤ (ds.length : Int) := by omega
      simp [M_is_pattern, B_is_pattern, isTup, h1', patD, lenOk, h1]
  | _ => simp [M_is_pattern, B_is_pattern, patD, isTup]
def lenD : D → Nat
  | .tup ds => ds.length
  | _ => 0
def manyD : List D → Nat
  | .tup (r :: _) :: _ => lenD r
  | _ => 0
def evenD (many : Nat) : D → Bool
  | .tup rs => rs.all fun r => decide (lenD r = many)
  | _ => false
def songD : D → Bool
  | .tup [sp, .tup os, .tup ps] => betwD sp 1 4 && (lenOk os.length 6 && (lenOk ps.length 6 && (ps.all (patD os.length) && (os.all (fun o => betwD o 0 ((ps.length : Int) - 1)) && ps.all (evenD (manyD ps))))))
  | _ => false
theorem rowD_len {places : Nat} {r : D} (h : rowD places r = true) : ∃ bs, r = .tup bs := by
  cases r with
  | tup bs => exact ⟨bs, rfl⟩
  | _ => cases h
theorem patD_rows {places : Nat} {p : D} (h : patD places p = true) : ∃ rs, p = .tup rs ∧ 1 ≤ rs.length ∧ rs.length ≤ 6 ∧ ∀ r ∈ rs, rowD places r = true := by
  cases p with
  | tup rs =>
    simp [patD, lenOk] at h
    exact ⟨rs, rfl, h.1.1, h.1.2, h.2⟩
  | _ => cases h
theorem e_is_song {n : Nat} (d : D) (h : okS n d = true) : M_is_song [d] = .ok (.bl (songD d)) := by
  cases d with
  | tup ds =>
    obtain ⟨m, rfl, hm⟩ := pl_at' h
    match ds, hm with
    | [], _ => simp [M_is_song, B_is_song, songD, isTup]
    | [a], _ => simp [M_is_song, B_is_song, songD, isTup]
    | [a, b], _ => simp [M_is_song, B_is_song, songD, isTup]
    | a :: b :: c :: e :: r, _ =>
      have : ¬ ((r.length : Int) + 1 + 1 + 1 + 1 = 3) := by omega
      simp [M_is_song, B_is_song, songD, isTup, this]
    | [sp, o, q], hm =>
      have e0 := e_is_between sp 1 4
      cases hb : betwD sp 1 4 with
      | false =>
        rw [hb] at e0
        have : songD (.tup [sp, o, q]) = false := by
          cases o <;> cases q <;> simp [songD, hb]
        simp [M_is_song, B_is_song, isTup, e0, this]
      | true =>
        rw [hb] at e0
        cases o with
        | tup os =>
          by_cases h1 : 1 ≤ os.length
          · by_cases h2 : os.length ≤ 6
            · have h1' : (1 : Int) ≤ (os.length : Int) := by omega
              have h2' : (os.length : Int) ≤ 6 := by omega
              cases q with
              | tup ps =>
                by_cases h3 : 1 ≤ ps.length
                · by_cases h4 : ps.length ≤ 6
                  · have h3' : (1 : Int) ≤ (ps.length : Int) := by omega
                    have h4' : (ps.length : Int) ≤ 6 := by omega
                    obtain ⟨m', rfl, hpp⟩ := pl_at' (hm (.tup ps) (by simp))
                    have c1 := all_comp (ft := tgN 1) (elt := E_is_song_1) (ε := [.val (.tup [sp, .tup os, .tup ps]), .un, .un, .un, .un]) (p := patD os.length) ps (fun d hd => ⟨_, rfl, by simp [e_is_pattern d os.length (hpp d hd)]⟩)
                    have c2 := all_comp (ft := tgN 2) (elt := E_is_song_2) (ε := [.val (.tup [sp, .tup os, .tup ps]), .un, .un, .un, .un]) (p := fun o => betwD o 0 ((ps.length : Int) - 1)) os (fun d hd => ⟨_, rfl, by simp [e_is_between]⟩)
                    have iter : ∀ ds, oSeq (.tup ds) = some ds := fun _ => rfl
                    have hlo : os.length ≤ LIM := Nat.le_trans h2 (by decide)
                    have hlp : ps.length ≤ LIM := Nat.le_trans h4 (by decide)
                    cases hp : ps.all (patD os.length) with
                    | false => simp [M_is_song, B_is_song, isTup, e0, h1', h2', h3', h4', hlp, iter, c1, blsOf_map, all_map, hp, songD, -List.map_map, -List.all_eq_true]
                    | true =>
                      cases ho : os.all (fun o => betwD o 0 ((ps.length : Int) - 1)) with
                      | false => simp [M_is_song, B_is_song, isTup, e0, h1', h2', h3', h4', hlp, hlo, iter, c1, c2, blsOf_map, all_map, hp, ho, songD, -List.map_map, -List.all_eq_true]
                      | true =>
                        have hpa := List.all_eq_true.mp hp
                        obtain ⟨p0, ps', hpe⟩ : ∃ p0 ps', ps = p0 :: ps' := by
                          cases ps with
                          | nil => exact absurd h3 (by decide)
                          | cons p0 ps' => exact ⟨p0, ps', rfl⟩
                        obtain ⟨rs0, q1, g1, g2, g3⟩ := patD_rows (hpa p0 (by rw [hpe]; simp))
                        obtain ⟨r0, rs', hre⟩ : ∃ r0 rs', rs0 = r0 :: rs' := by
                          cases rs0 with
                          | nil => exact absurd g1 (by decide)
                          | cons p0 ps' => exact ⟨p0, ps', rfl⟩
                        obtain ⟨bs0, q2⟩ := rowD_len (g3 r0 (by rw [hre]; simp))
                        have f0 : atI ps 0 = some (.tup rs0) := by rw [hpe, q1]; exact atI_0 _ _
                        have f1 : atI rs0 0 = some (.tup bs0) := by rw [hre, q2]; exact atI_0 _ _
                        have f2 : manyD ps = bs0.length := by rw [hpe, q1, hre, q2]; rfl
                        have c3 := all_comp (ft := tgN 1) (elt := E_is_song_4) (ε := [.val (.tup [sp, .tup os, .tup ps]), .un, .un, .val (.int bs0.length), .un]) (p := evenD bs0.length) ps (fun d hd => by
                          refine ⟨_, rfl, ?_⟩
                          obtain ⟨rs, rfl, g4, g5, g6⟩ := patD_rows (hpa d hd)
                          have c4 := all_comp (ft := tgN 4) (elt := E_is_song_3) (ε := [.val (.tup [sp, .tup os, .tup ps]), .val (.tup rs), .un, .val (.int bs0.length), .un]) (p := fun r => decide (lenD r = bs0.length)) rs (fun r hr => by
                            obtain ⟨bs, rfl⟩ := rowD_len (g6 r hr)
                            refine ⟨_, rfl, ?_⟩
                            simp [lenD]
                            exact decide_eq_decide.mpr (by omega))
                          have hlr : rs.length ≤ LIM := Nat.le_trans g5 (by decide)
                          simp [iter, hlr, c4, blsOf_map, all_map, evenD, -List.map_map, -List.all_eq_true])
                        simp [M_is_song, B_is_song, isTup, e0, h1', h2', h3', h4', hlp, hlo, iter, c1, c2, f0, f1, c3, blsOf_map, all_map, hp, ho, songD, f2, lenOk, h1, h2, h3, h4, hb, -List.map_map, -List.all_eq_true]
                  · have h3' : (1 : Int) ≤ (ps.length : Int) := by omega
                    have h4' : ¬ (ps.length : Int) ≤ 6 := by omega
                    simp [M_is_song, B_is_song, isTup, e0, h1', h2', h3', h4', songD, lenOk, h4]
                · have h3' : ¬ (1 : Int) ≤ (ps.length : Int) := by omega
                  simp [M_is_song, B_is_song, isTup, e0, h1', h2', h3', songD, lenOk, h3]
              | _ => simp [M_is_song, B_is_song, isTup, e0, h1', h2', songD]
            · have h1' : (1 : Int) ≤ (os.length : Int) := by omega
              have h2' : ¬ (os.length : Int) ≤ 6 := by omega
              have : songD (.tup [sp, .tup os, q]) = false := by cases q <;> simp [songD, lenOk, h2]
              simp [M_is_song, B_is_song, isTup, e0, h1', h2', this]
          · have h1' : ¬ (1 : Int) ≤ (os.length : Int) := by omega
            have : songD (.tup [sp, .tup os, q]) = false := by cases q <;> simp [songD, lenOk, h1]
            simp [M_is_song, B_is_song, isTup, e0, h1', this]
        | _ => simp [M_is_song, B_is_song, isTup, e0, songD]
  | _ => simp [M_is_song, B_is_song, songD, isTup]
end W

set_option Elab.async false
set_option linter.all false
set_option maxRecDepth 100000
set_option maxHeartbeats 1000000
/-! MJ: good songs are songs. -/
namespace W
open PySem L2 PL
theorem soundD_ok {x : Snd} (h : SndOk x) : soundD (encSnd x) = true := by
  cases x with
  | non => rfl
  | off => decide +kernel
  | h i =>
    have h : 0 ≤ i ∧ i < 12 := h
    simp [encSnd, soundD]
    omega
theorem least_nm (w : Wd) : tabAt LEAST w.nm = some (match w with | .speed => 1 | .slide => -6 | .jump => 0 | .skip => 0 | .again => 1) := by cases w <;> decide +kernel
theorem greatest_nm (w : Wd) : tabAt GREATEST w.nm = some (match w with | .speed => 4 | .slide => 6 | .jump => 5 | .skip => 5 | .again => 3) := by cases w <;> decide +kernel
theorem jump_nm (w : Wd) : (w.nm = "jump") ↔ w = .jump := by cases w <;> decide +kernel
theorem deedD_ok {places : Nat} (hp : places ≤ 6) {d : Option (Wd × Int)} (h : ∀ w n, d = some (w, n) → DeedOk places w n) : deedD places (encDeed d) = true := by
  rcases d with _ | ⟨w, n⟩
  · rfl
  · have h := h w n rfl
    have e : deedD places (encDeed (some (w, n))) = (match tabAt LEAST w.nm, tabAt GREATEST w.nm with
      | some lo, some hi => betwD (.int n) lo hi && (decide (w.nm ≠ "jump") || betwD (.int n) 0 ((places : Int) - 1))
      | _, _ => false) := rfl
    rw [e, least_nm, greatest_nm]
    cases w with
    | jump =>
      have h : 0 ≤ n ∧ n < places := h
      simp [betwD]
      omega
    | speed =>
      have h : 1 ≤ n ∧ n ≤ 4 := h
      have : ¬ (Wd.nm .speed = "jump") := by decide +kernel
      simp [betwD, this]
      omega
    | slide =>
      have h : -6 ≤ n ∧ n ≤ 6 := h
      have : ¬ (Wd.nm .slide = "jump") := by decide +kernel
      simp [betwD, this]
      omega
    | skip =>
      have h : 0 ≤ n ∧ n ≤ 5 := h
      have : ¬ (Wd.nm .skip = "jump") := by decide +kernel
      simp [betwD, this]
      omega
    | again =>
      have h : 1 ≤ n ∧ n ≤ 3 := h
      have : ¬ (Wd.nm .again = "jump") := by decide +kernel
      simp [betwD, this]
      omega
theorem boxD_ok {places : Nat} (hp : places ≤ 6) {b : Box} (h : BoxOk places b) : boxD places (encBox b) = true := by
  show (soundD (encSnd b.snd) && deedD places (encDeed b.deed)) = true
  rw [soundD_ok h.snd, deedD_ok hp h.deed]
  rfl
theorem rowD_ok {places : Nat} (hp : places ≤ 6) {r : Row} (h1 : 1 ≤ r.length ∧ r.length ≤ 3) (h : ∀ b ∈ r, BoxOk places b) : rowD places (encRow r) = true := by
  simp only [encRow, rowD, lenOk, Bool.and_eq_true, List.length_map, List.all_map, List.all_eq_true, decide_eq_true_eq]
  exact ⟨h1, fun b hb => boxD_ok hp (h b hb)⟩
theorem patD_ok {places : Nat} (hp : places ≤ 6) {p : Pat} (h1 : 1 ≤ p.length ∧ p.length ≤ 6) (h : ∀ r ∈ p, (1 ≤ r.length ∧ r.length ≤ 3) ∧ ∀ b ∈ r, BoxOk places b) : patD places (encPat p) = true := by
  simp only [encPat, patD, lenOk, Bool.and_eq_true, List.length_map, List.all_map, List.all_eq_true, decide_eq_true_eq]
  exact ⟨h1, fun r hr => rowD_ok hp (h r hr).1 (h r hr).2⟩
theorem songD_ok {s : Song} (h : WF s) : songD (encSong s) = true := by
  obtain ⟨r0, rs, ps, e1, e2⟩ := head_get h
  have hm : manyD (s.pats.map encPat) = voices s := by
    rw [e1, e2]
    simp [encPat, encRow, manyD, lenD]
  show (betwD (.int s.speed) 1 4 && (lenOk (s.order.map fun (k : Nat) => D.int k).length 6 && (lenOk (s.pats.map encPat).length 6 && ((s.pats.map encPat).all (patD (s.order.map fun (k : Nat) => D.int k).length) && ((s.order.map fun (k : Nat) => D.int k).all (fun o => betwD o 0 (((s.pats.map encPat).length : Int) - 1)) && (s.pats.map encPat).all (evenD (manyD (s.pats.map encPat)))))))) = true
  rw [hm]
  simp only [lenOk, Bool.and_eq_true, List.length_map, List.all_map, List.all_eq_true, decide_eq_true_eq]
  refine ⟨?_, h.on, h.ps, fun p hp => ?_, fun k hk => ?_, fun p hp => ?_⟩
  · have := h.sp
    simp [betwD]
    omega
  · exact patD_ok h.on.2 (h.pn p hp) fun r hr => ⟨by rw [h.rl p hp r hr]; exact h.nv, h.bx p hp r hr⟩
  · have := h.ok k hk
    simp [betwD]
    omega
  · simp only [Function.comp, encPat, evenD, List.all_map, List.all_eq_true, decide_eq_true_eq]
    intro r hr
    simp [encRow, lenD, h.rl p hp r hr]
theorem e_is_song_ok {s : Song} (h : WF s) : M_is_song [encSong s] = .ok (.bl true) := by
  rw [e_is_song (n := 7) _ (okS_pl (pl_song s)), songD_ok h]
end W

set_option Elab.async false
set_option linter.all false
set_option maxRecDepth 100000
set_option maxHeartbeats 2000000
/-! K01: the plain law. -/
namespace W
open PySem L2 PL
theorem strs_ok : strOK "of" = true ∧ strOK "speed" = true ∧ strOK "slide" = true ∧ strOK "jump" = true ∧ strOK "skip" = true ∧ strOK "again" = true ∧ strOK "stop" = true ∧ strOK "off" = true := by decide +kernel
theorem tabs : tabAt LEAST "speed" = some 1 ∧ tabAt LEAST "slide" = some (-6) ∧ tabAt LEAST "jump" = some 0 ∧ tabAt LEAST "skip" = some 0 ∧ tabAt LEAST "again" = some 1 ∧ tabAt LEAST "stop" = none ∧
    tabAt GREATEST "speed" = some 4 ∧ tabAt GREATEST "slide" = some 6 ∧ tabAt GREATEST "jump" = some 5 ∧ tabAt GREATEST "skip" = some 5 ∧ tabAt GREATEST "again" = some 3 := by decide +kernel
def badL (x y : D) (places : Nat) : List D :=
  [.tup [.int 12, y], .tup [.int (-1), y], .tup [.bl true, y], .tup [.str "of", y], .tup [.tup [], y], .tup [x], .tup [x, y, .int 0], .lst [x, y],
   .tup [x, .tup [.str "speed", .int 0]], .tup [x, .tup [.str "speed", .int 5]], .tup [x, .tup [.str "slide", .int 7]], .tup [x, .tup [.str "slide", .int (-7)]], .non,
   .tup [x, .tup [.str "jump", .int places]], .tup [x, .tup [.str "jump", .int (-1)]], .tup [x, .tup [.str "skip", .int 6]], .tup [x, .tup [.str "again", .int 0]],
   .tup [x, .tup [.str "again", .int 4]], .tup [x, .tup [.str "stop", .int 1]], .tup [x, .tup [.str "speed"]], .tup [x, .str "speed"],
   .tup [x, .tup [.str "skip", .bl true]], .tup [x, .lst [.str "skip", .int 1]], .tup [x, .tup [.str "skip", .non]], .tup [x, .tup [.int 1, .int 1]], .tup [x, .tup []], .str "off", .int 0]
theorem badL_ok (b : Box) (places : Nat) : ∀ d ∈ badL (encSnd b.snd) (encDeed b.deed) places, boxD places d = false ∧ okS 3 d = true := by
  obtain ⟨s1, s2, s3, s4, s5, s6, s7, s8⟩ := strs_ok
  obtain ⟨t1, t2, t3, t4, t5, t6, t7, t8, t9, t10, t11⟩ := tabs
  have hx : okS 2 (encSnd b.snd) = true := okS_pl (pl_mono (by omega) (pl_snd b.snd))
  have hy : okS 2 (encDeed b.deed) = true := okS_pl (pl_deed b.deed)
  have hof : ¬ ((("of" : String) : Str) = (("off" : String) : Str)) := by decide +kernel
  intro d hd
  simp only [badL, List.mem_cons, List.not_mem_nil, or_false] at hd
  rcases hd with rfl | rfl | rfl | rfl | rfl | rfl | rfl | rfl | rfl | rfl | rfl | rfl | rfl | rfl | rfl | rfl | rfl | rfl | rfl | rfl | rfl | rfl | rfl | rfl | rfl | rfl | rfl | rfl <;>
    refine ⟨?_, ?_⟩ <;> first | rfl | (simp [boxD, soundD, deedD, betwD, okS, hx, hy, s1, s2, s3, s4, s5, s6, s7, s8, t1, t2, t3, t4, t5, t6, t7, t8, t9, t10, t11, hof]; done) | (simp [boxD, soundD, deedD, betwD, okS, hx, hy, s1, s2, s3, s4, s5, s6, s7, s8, t1, t2, t3, t4, t5, t6, t7, t8, t9, t10, t11, hof]; omega)
theorem e_L_bad_box (b : Box) (places cell : Nat) : ∃ d, M_L_bad_box [encBox b, .int places, .int cell] = .ok d ∧ boxD places d = false ∧ okS 3 d = true := by
  have hj : cell % 28 < (badL (encSnd b.snd) (encDeed b.deed) places).length := Nat.mod_lt _ (by decide)
  refine ⟨_, ?_, badL_ok b places _ (List.getElem_mem hj)⟩
  have hg : atI (badL (encSnd b.snd) (encDeed b.deed) places) ((cell : Int) % 28) = some (badL (encSnd b.snd) (encDeed b.deed) places)[cell % 28] := by
    rw [show (cell : Int) % 28 = ((cell % 28 : Nat) : Int) by omega, atI_n, List.getElem?_eq_getElem hj]
  have lim : ∀ n : Nat, n ≤ 100 → n ≤ LIM := fun n hn => Nat.le_trans hn (by decide)
  have lim' : ∀ n : Nat, n ≤ 100 → n < LIM := fun n hn => Nat.lt_of_le_of_lt hn (by decide)
  simp [M_L_bad_box, B_L_bad_box, encBox, lim, lim']
  unfold badL at hg
  rw [hg]
  rfl
def wholeL (sp : Int) (os ps : List D) (n : Nat) : List D :=
  [.lst [.int sp, .tup os, .tup ps], .tup [.int sp, .tup os], .tup [.int sp, .tup os, .tup ps, .int 0], .tup [.int 0, .tup os, .tup ps], .tup [.int 5, .tup os, .tup ps], .tup [.bl true, .tup os, .tup ps],
   .tup [.int sp, .tup [], .tup ps], .tup [.int sp, .tup os, .tup []], .tup [.int sp, .lst os, .tup ps], .tup [.int sp, .tup os, .lst ps],
   .tup [.int sp, .tup (os ++ [.int n]), .tup ps], .tup [.int sp, .tup [.int (-1)], .tup ps], .tup [.int sp, .tup [.bl true], .tup ps], .non,
   .tup [.int sp, .tup os, .tup (ps ++ [.tup []])], .tup [.int sp, .tup os, .tup (ps ++ [.non])], .tup [.int sp, .non, .tup ps], .tup []]
theorem wholeL_ok (sp : Int) (os ps : List D) (ho : ∀ d ∈ os, okS 6 d = true) (hp : ∀ d ∈ ps, okS 6 d = true) : ∀ d ∈ wholeL sp os ps ps.length, songD d = false ∧ okS 8 d = true := by
  have e1 : okS 7 (.tup os) = true := by simpa [okS] using ho
  have e2 : okS 7 (.tup ps) = true := by simpa [okS] using hp
  have e3 : okS 7 (.lst os) = true := by simpa [okS] using ho
  have e4 : okS 7 (.lst ps) = true := by simpa [okS] using hp
  have e5 : okS 7 (.tup (os ++ [.int ps.length])) = true := by
    simp only [okS, List.all_append, List.all_eq_true, Bool.and_eq_true]
    exact ⟨ho, by simp [okS]⟩
  have e6 : okS 7 (.tup (ps ++ [.tup []])) = true := by
    simp only [okS, List.all_append, List.all_eq_true, Bool.and_eq_true]
    exact ⟨hp, by simp [okS]⟩
  have e7 : okS 7 (.tup (ps ++ [.non])) = true := by
    simp only [okS, List.all_append, List.all_eq_true, Bool.and_eq_true]
    exact ⟨hp, by simp [okS]⟩
  have k : ∀ a b c : D, okS 7 a = true → okS 7 b = true → okS 7 c = true → okS 8 (.tup [a, b, c]) = true := fun a b c h1 h2 h3 => by simp [okS, h1, h2, h3]
  intro d hd
  simp only [wholeL, List.mem_cons, List.not_mem_nil, or_false] at hd
  rcases hd with rfl | rfl | rfl | rfl | rfl | rfl | rfl | rfl | rfl | rfl | rfl | rfl | rfl | rfl | rfl | rfl | rfl | rfl
  · exact ⟨rfl, by simp [okS, -List.all_eq_true, show (os.all fun d => okS 6 d) = true from e1, show (ps.all fun d => okS 6 d) = true from e2]⟩
  · exact ⟨rfl, by simp [okS, -List.all_eq_true, show (os.all fun d => okS 6 d) = true from e1]⟩
  · exact ⟨rfl, by simp [okS, -List.all_eq_true, show (os.all fun d => okS 6 d) = true from e1, show (ps.all fun d => okS 6 d) = true from e2]⟩
  · exact ⟨by simp [songD, betwD], k _ _ _ rfl e1 e2⟩
  · exact ⟨by simp [songD, betwD], k _ _ _ rfl e1 e2⟩
  · exact ⟨by simp [songD, betwD], k _ _ _ rfl e1 e2⟩
  · exact ⟨by simp [songD, lenOk], k _ _ _ rfl rfl e2⟩
  · exact ⟨by simp [songD, lenOk], k _ _ _ rfl e1 rfl⟩
  · exact ⟨rfl, k _ _ _ rfl e3 e2⟩
  · exact ⟨rfl, k _ _ _ rfl e1 e4⟩
  · refine ⟨?_, k _ _ _ rfl e5 e2⟩
    have : betwD (.int ps.length) 0 ((ps.length : Int) - 1) = false := by simp [betwD]; omega
    simp only [songD, List.all_append, List.all_cons, this, Bool.false_and, Bool.and_false]
  · refine ⟨?_, k _ _ _ rfl rfl e2⟩
    have : betwD (.int (-1)) 0 ((ps.length : Int) - 1) = false := by simp [betwD]
    simp only [songD, List.all_cons, this, Bool.false_and, Bool.and_false]
  · refine ⟨?_, k _ _ _ rfl rfl e2⟩
    have : betwD (.bl true) 0 ((ps.length : Int) - 1) = false := rfl
    simp only [songD, List.all_cons, this, Bool.false_and, Bool.and_false]
  · exact ⟨rfl, rfl⟩
  · refine ⟨?_, k _ _ _ rfl e1 e6⟩
    have : ∀ n, patD n (.tup []) = false := fun n => rfl
    simp only [songD, List.all_append, List.all_cons, this, Bool.false_and, Bool.and_false]
  · refine ⟨?_, k _ _ _ rfl e1 e7⟩
    have : ∀ n, patD n .non = false := fun n => rfl
    simp only [songD, List.all_append, List.all_cons, this, Bool.false_and, Bool.and_false]
  · exact ⟨rfl, k _ _ _ rfl rfl e2⟩
  · exact ⟨rfl, rfl⟩
def ordL (o : List Nat) : List D := o.map fun (k : Nat) => D.int k
theorem e_L_whole {s : Song} (h : WF s) (cell : Nat) : ∃ d, M_L_whole [encSong s, .int cell] = .ok d ∧ songD d = false ∧ okS 8 d = true := by
  have hj : cell % 18 < (wholeL s.speed (ordL s.order) (s.pats.map encPat) s.pats.length).length := Nat.mod_lt _ (by decide)
  refine ⟨_, ?_, (List.length_map (as := s.pats) encPat ▸ wholeL_ok s.speed (ordL s.order) (s.pats.map encPat) ?_ ?_) _ (List.getElem_mem hj)⟩
  · have hg : atI (wholeL s.speed (ordL s.order) (s.pats.map encPat) s.pats.length) ((cell : Int) % 18) = some (wholeL s.speed (ordL s.order) (s.pats.map encPat) s.pats.length)[cell % 18] := by
      rw [show (cell : Int) % 18 = ((cell % 18 : Nat) : Int) by omega, atI_n, List.getElem?_eq_getElem hj]
    have lim : ∀ n : Nat, n ≤ 100 → n ≤ LIM := fun n hn => Nat.le_trans hn (by decide)
    have lim' : ∀ n : Nat, n ≤ 100 → n < LIM := fun n hn => Nat.lt_of_le_of_lt hn (by decide)
    have l1 : s.order.length + 1 ≤ LIM := lim _ (by have := h.on; omega)
    have l2 : s.pats.length + 1 ≤ LIM := lim _ (by have := h.ps; omega)
    have ll : (s.pats.map encPat).length = s.pats.length := List.length_map ..
    have c2 : ∀ a b c : D, cut [a, b, c] none (some 2) = [a, b] := fun _ _ _ => rfl
    have eo : encOrd s.order = .tup (ordL s.order) := rfl
    have lo : (ordL s.order).length = s.order.length := by simp [ordL]
    unfold wholeL at hg
    simp [M_L_whole, B_L_whole, encSong, lim, lim', eo, c2, l1, l2, lo]
    rw [hg]
    rfl
  · intro d hd
    obtain ⟨k, _, rfl⟩ := List.mem_map.mp hd
    rfl
  · intro d hd
    obtain ⟨p, _, rfl⟩ := List.mem_map.mp hd
    exact okS_pl (pl_mono (by omega) (pl_pat p))
theorem cut_take (xs : List D) (n : Nat) : cut xs none (some (n : Int)) = xs.take n := by
  unfold cut
  rw [HT.sIx_none, HT.sIx_nat, List.drop_zero, Nat.sub_zero]
  by_cases h : n ≤ xs.length
  · rw [Nat.min_eq_left h]
  · rw [Nat.min_eq_right (by omega), List.take_of_length_le (Nat.le_refl _), List.take_of_length_le (by omega)]
theorem cut_drop (xs : List D) (n : Nat) : cut xs (some (n : Int)) none = xs.drop n := by
  unfold cut
  rw [HT.sIx_none, HT.sIx_nat]
  by_cases h : n ≤ xs.length
  · rw [Nat.min_eq_left h, List.take_of_length_le (by rw [List.length_drop]; omega)]
  · rw [Nat.min_eq_right (by omega), List.drop_eq_nil_of_le (Nat.le_refl _), List.drop_eq_nil_of_le (by omega)]
    simp
/-- a spoilt row spoils the song -/
theorem song_badrow {sp bad : D} {os x y u v : List D} (h : rowD os.length bad = false) : songD (.tup [sp, .tup os, .tup (x ++ .tup (u ++ bad :: v) :: y)]) = false := by
  have hp : patD os.length (.tup (u ++ bad :: v)) = false := by
    simp only [patD, List.all_append, List.all_cons, h, Bool.false_and, Bool.and_false]
  simp only [songD, List.all_append, List.all_cons, hp, Bool.false_and, Bool.and_false]
/-- rows of unlike lengths -/
theorem song_unlike {sp : D} {os ps : List D} {r1 r2 : D} {l1 l2 : List D} (h1 : .tup l1 ∈ ps) (h2 : .tup l2 ∈ ps) (m1 : r1 ∈ l1) (m2 : r2 ∈ l2) (ne : lenD r1 ≠ lenD r2) : songD (.tup [sp, .tup os, .tup ps]) = false := by
  cases hs : songD (.tup [sp, .tup os, .tup ps]) with
  | false => rfl
  | true =>
    simp only [songD, Bool.and_eq_true, List.all_eq_true] at hs
    have he := hs.2.2.2.2.2
    have g1 := he _ h1
    have g2 := he _ h2
    simp only [evenD, List.all_eq_true, decide_eq_true_eq] at g1 g2
    exact absurd ((g1 r1 m1).trans (g2 r2 m2).symm) ne
/-- the song with the row put in its place -/
def putRow (s : Song) (a j : Nat) (p : Pat) (bad : D) : D :=
  .tup [.int s.speed, .tup (ordL s.order), .tup ((s.pats.map encPat).take a ++ .tup ((p.map encRow).take j ++ bad :: (p.map encRow).drop (j + 1)) :: (s.pats.map encPat).drop (a + 1))]
theorem putRow_ok {s : Song} (a j : Nat) (p : Pat) {bad : D} (hb : okS 5 bad = true) : okS 8 (putRow s a j p bad) = true := by
  have h1 : okS 7 (.tup (ordL s.order)) = true := by simp [okS, ordL]
  have h2 : ∀ d ∈ p.map encRow, okS 5 d = true := by
    intro d hd
    obtain ⟨r, _, rfl⟩ := List.mem_map.mp hd
    exact okS_pl (pl_mono (by omega) (pl_row r))
  have h3 : okS 6 (.tup ((p.map encRow).take j ++ bad :: (p.map encRow).drop (j + 1))) = true := by
    simp only [okS, List.all_append, List.all_cons, Bool.and_eq_true, List.all_eq_true]
    exact ⟨fun d hd => h2 d (List.mem_of_mem_take hd), hb, fun d hd => h2 d (List.mem_of_mem_drop hd)⟩
  have h4 : ∀ d ∈ s.pats.map encPat, okS 6 d = true := by
    intro d hd
    obtain ⟨r, _, rfl⟩ := List.mem_map.mp hd
    exact okS_pl (pl_mono (by omega) (pl_pat r))
  have h5 : okS 7 (.tup ((s.pats.map encPat).take a ++ .tup ((p.map encRow).take j ++ bad :: (p.map encRow).drop (j + 1)) :: (s.pats.map encPat).drop (a + 1))) = true := by
    show List.all _ _ = true
    rw [List.all_append, List.all_cons, Bool.and_eq_true, Bool.and_eq_true, List.all_eq_true, List.all_eq_true]
    exact ⟨fun d hd => h4 d (List.mem_of_mem_take hd), h3, fun d hd => h4 d (List.mem_of_mem_drop hd)⟩
  show List.all _ _ = true
  rw [List.all_cons, List.all_cons, List.all_cons, h1, h5]
  rfl
theorem take0 {α : Type} : ∀ (l : List α) (h : 0 < l.length) (n : Nat), l[0] ∈ l.take (n + 1)
  | x :: l, _, n => by simp
theorem putRow_false {s : Song} (h : WF s) {a j : Nat} {p : Pat} (ha : s.pats[a]? = some p) (hj : j < p.length) {bad : D}
    (hb : rowD s.order.length bad = false ∨ (lenD bad ≠ voices s ∧ ¬ (s.pats.length = 1 ∧ p.length = 1))) : songD (putRow s a j p bad) = false := by
  rcases hb with hb | ⟨hn, ho⟩
  · refine song_badrow ?_
    rw [show (ordL s.order).length = s.order.length by simp [ordL]]
    exact hb
  · have hal := lt_of_get ha
    have hmem : p ∈ s.pats := List.mem_of_getElem? ha
    unfold putRow
    by_cases hp : p.length = 1
    · have hs : s.pats.length ≠ 1 := fun e => ho ⟨e, hp⟩
      have hps := h.ps
      -- another pattern
      have oth : ∃ q ∈ s.pats, encPat q ∈ (s.pats.map encPat).take a ++ .tup ((p.map encRow).take j ++ bad :: (p.map encRow).drop (j + 1)) :: (s.pats.map encPat).drop (a + 1) := by
        by_cases h0 : a = 0
        · have h1 : 1 < s.pats.length := by omega
          refine ⟨s.pats[1], List.getElem_mem h1, ?_⟩
          refine List.mem_append_right _ (List.mem_cons_of_mem _ ?_)
          subst h0
          rw [← List.map_drop]
          refine List.mem_map_of_mem ?_
          rw [List.drop_eq_getElem_cons h1]
          exact List.mem_cons_self ..
        · have h1 : 0 < s.pats.length := by omega
          refine ⟨s.pats[0], List.getElem_mem h1, ?_⟩
          refine List.mem_append_left _ ?_
          rw [← List.map_take]
          refine List.mem_map_of_mem ?_
          obtain ⟨a', rfl⟩ : ∃ a', a = a' + 1 := ⟨a - 1, by omega⟩
          exact take0 s.pats h1 a'
      obtain ⟨q, hq, hm⟩ := oth
      have hqn := h.pn q hq
      obtain ⟨r, rs, e⟩ : ∃ r rs, q = r :: rs := by
        cases q with
        | nil => exact absurd hqn.1 (by decide)
        | cons r rs => exact ⟨r, rs, rfl⟩
      refine song_unlike (r1 := bad) (r2 := encRow r) (l1 := (p.map encRow).take j ++ bad :: (p.map encRow).drop (j + 1)) (l2 := q.map encRow) (List.mem_append_right _ (List.mem_cons_self ..)) hm (List.mem_append_right _ (List.mem_cons_self ..)) (by rw [e]; simp) ?_
      have hr := h.rl q hq r (by rw [e]; simp)
      simp [lenD, encRow, hr]
      exact hn
    · -- another row of the pattern
      have hpn := h.pn p hmem
      have oth : ∃ r ∈ p, encRow r ∈ (p.map encRow).take j ++ bad :: (p.map encRow).drop (j + 1) := by
        by_cases h0 : j = 0
        · have h1 : 1 < p.length := by omega
          refine ⟨p[1], List.getElem_mem h1, ?_⟩
          refine List.mem_append_right _ (List.mem_cons_of_mem _ ?_)
          subst h0
          rw [← List.map_drop]
          refine List.mem_map_of_mem ?_
          rw [List.drop_eq_getElem_cons h1]
          exact List.mem_cons_self ..
        · have h1 : 0 < p.length := by omega
          refine ⟨p[0], List.getElem_mem h1, ?_⟩
          refine List.mem_append_left _ ?_
          rw [← List.map_take]
          refine List.mem_map_of_mem ?_
          obtain ⟨a', rfl⟩ : ∃ a', j = a' + 1 := ⟨j - 1, by omega⟩
          exact take0 p h1 a'
      obtain ⟨r, hr, hm⟩ := oth
      refine song_unlike (r1 := bad) (r2 := encRow r) (l1 := (p.map encRow).take j ++ bad :: (p.map encRow).drop (j + 1)) (l2 := (p.map encRow).take j ++ bad :: (p.map encRow).drop (j + 1)) (List.mem_append_right _ (List.mem_cons_self ..)) (List.mem_append_right _ (List.mem_cons_self ..)) (List.mem_append_right _ (List.mem_cons_self ..)) hm ?_
      have hr := h.rl p hmem r hr
      simp [lenD, encRow, hr]
      exact hn
@[simp] theorem oNe_bl (a b : Bool) : oNe (.bl a) (.bl b) = some (.bl (a != b)) := by cases a <;> cases b <;> rfl
@[simp] theorem oEq_bl (a b : Bool) : oEq (.bl a) (.bl b) = some (.bl (a == b)) := by cases a <;> cases b <;> rfl
abbrev r1 : D := .tup [.tup [.non, .non]]
theorem edge1 : ∀ n ∈ [5, 6, 7], M_is_song [.tup [.int 1, .tup (List.replicate n (.int 0)), .tup [.tup [r1]]]] = .ok (.bl (decide (n < 7))) ∧ M_is_song [.tup [.int 1, .tup [.int 0], .tup (List.replicate n (.tup [r1]))]] = .ok (.bl (decide (n < 7))) ∧
    M_is_song [.tup [.int 1, .tup [.int 0], .tup [.tup (List.replicate n r1)]]] = .ok (.bl (decide (n < 7))) ∧ M_is_song [.tup [.int 1, .tup [.int 0], .tup [.tup [.tup (List.replicate (n - 3) (.tup [.non, .non]))]]]] = .ok (.bl (decide (n < 7))) := by
  intro n hn
  simp only [List.mem_cons, List.not_mem_nil, or_false] at hn
  rcases hn with rfl | rfl | rfl <;> refine ⟨?_, ?_, ?_, ?_⟩ <;> (rw [e_is_song (n := 8) _ (by decide +kernel)]; congr 2)
/-- the row that is put -/
theorem bad_ok {s : Song} (h : WF s) {p : Pat} (hp : p ∈ s.pats) {r : Row} (hr : r ∈ p) {v : Nat} (hv : v < r.length) {x : D} (hx : boxD s.order.length x = false) (ok : okS 3 x = true) :
    rowD s.order.length (.tup ((r.map encBox).take v ++ (x :: (r.map encBox).drop (v + 1)))) = false ∧ okS 5 (.tup ((r.map encBox).take v ++ (x :: (r.map encBox).drop (v + 1)))) = true := by
  have okm : okS 4 x = true := by
    have : ∀ {n m : Nat} {d : D}, n ≤ m → okS n d = true → okS m d = true := by
      intro n
      induction n with
      | zero => intro m d hm hd; cases d <;> cases m <;> first | rfl | exact hd | cases hd
      | succ n ih =>
        intro m d hm hd
        obtain ⟨m', rfl⟩ : ∃ m', m = m' + 1 := ⟨m - 1, by omega⟩
        cases d with
        | tup ds =>
          simp only [okS, List.all_eq_true] at hd ⊢
          exact fun d hd' => ih (by omega) (hd d hd')
        | lst ds =>
          simp only [okS, List.all_eq_true] at hd ⊢
          exact fun d hd' => ih (by omega) (hd d hd')
        | _ => first | rfl | exact hd
    exact this (by omega) ok
  refine ⟨by simp only [rowD, List.all_append, List.all_cons, hx, Bool.false_and, Bool.and_false], ?_⟩
  have hm : ∀ d ∈ r.map encBox, okS 4 d = true := by
    intro d hd
    obtain ⟨b, _, rfl⟩ := List.mem_map.mp hd
    exact okS_pl (pl_mono (by omega) (pl_box b))
  show List.all _ _ = true
  rw [List.all_append, List.all_cons, okm, Bool.and_eq_true, Bool.and_eq_true, List.all_eq_true, List.all_eq_true]
  exact ⟨fun d hd => hm d (List.mem_of_mem_take hd), rfl, fun d hd => hm d (List.mem_of_mem_drop hd)⟩
theorem pat_row {s : Song} {a j : Nat} {p : Pat} {r : Row} (ha : s.pats[a]? = some p) (hj : p[j]? = some r) : atI (s.pats.map encPat) a = some (encPat p) ∧ atI (p.map encRow) j = some (encRow r) := by
  rw [atI_n, atI_n, List.getElem?_map, List.getElem?_map, ha, hj]
  exact ⟨rfl, rfl⟩
theorem cut_m1 (xs : List D) (h : 1 ≤ xs.length) : cut xs none (some (-1)) = xs.take (xs.length - 1) := by
  unfold cut
  have e : HT.sIx xs.length xs.length (some (-1)) = xs.length - 1 := by
    unfold HT.sIx
    simp
    omega
  rw [HT.sIx_none, e, List.drop_zero, Nat.sub_zero]
theorem run_ex {f g : DS} {ε : Ev} {r : Out D} {P : D → Prop} (E : D → Ev) (h1 : ∃ bad, P bad ∧ f ε = .nx (E bad)) (h2 : ∀ bad, P bad → runF (g (E bad)) = r) : runF (sSeq f g ε) = r := by
  obtain ⟨b, h3, h4⟩ := h1
  exact run_step h4 (h2 b h3)
def bad5 (l : List D) : List D := [.tup (l ++ l.take 1), .tup (l.take (l.length - 1)), .tup [], .lst l, .non]
def bad3 (l : List D) : List D := [.tup [], .lst l, .non]
theorem bad5_ok {n places : Nat} {l : List D} (hl : l.length = n) (hn : 1 ≤ n) (ok : ∀ d ∈ l, okS 4 d = true) : ∀ d ∈ bad5 l, okS 5 d = true ∧ (rowD places d = false ∨ lenD d ≠ n) := by
  intro d hd
  simp only [bad5, List.mem_cons, List.not_mem_nil, or_false] at hd
  rcases hd with rfl | rfl | rfl | rfl | rfl
  · refine ⟨?_, .inr (by simp [lenD]; omega)⟩
    simp only [okS, List.all_append, Bool.and_eq_true, List.all_eq_true]
    exact ⟨ok, fun d hd => ok d (List.mem_of_mem_take hd)⟩
  · refine ⟨?_, .inr (by simp [lenD]; omega)⟩
    simp only [okS, List.all_eq_true]
    exact fun d hd => ok d (List.mem_of_mem_take hd)
  · exact ⟨rfl, .inl rfl⟩
  · refine ⟨?_, .inl rfl⟩
    simp only [okS, List.all_eq_true]
    exact ok
  · exact ⟨rfl, .inl rfl⟩
theorem bad3_ok {places : Nat} {l : List D} (ok : ∀ d ∈ l, okS 4 d = true) : ∀ d ∈ bad3 l, okS 5 d = true ∧ rowD places d = false := by
  intro d hd
  simp only [bad3, List.mem_cons, List.not_mem_nil, or_false] at hd
  rcases hd with rfl | rfl | rfl
  · exact ⟨rfl, rfl⟩
  · refine ⟨?_, rfl⟩
    simp only [okS, List.all_eq_true]
    exact ok
  · exact ⟨rfl, rfl⟩
theorem e_L_once (ns : List Int) : M_L_once [scr ns] = .ok (.bl true) := by
  obtain ⟨s, h, _, _, _, es⟩ := L_song_ok ns 0 4 ⟨by decide, by decide⟩
  have i1 := e_is_song_ok h
  obtain ⟨cell, hcell, ecell⟩ := pick_n ns 200 (m := 1000000) (by decide)
  have p0 := e_L_pick ns 200 1000000 (by decide)
  rw [show pickI ns 200 1000000 = cell from ecell] at p0
  obtain ⟨wd, w1, w2, w3⟩ := e_L_whole h cell
  have i2 := e_is_song wd w3
  rw [w2] at i2
  have hps := h.ps
  obtain ⟨a, ha, ea⟩ := pick_n ns 201 (m := s.pats.length) (by omega)
  have p1 := e_L_pick ns 201 s.pats.length (by omega)
  rw [ea] at p1
  obtain ⟨p, hp⟩ : ∃ p, s.pats[a]? = some p := ⟨_, List.getElem?_eq_getElem ha⟩
  have hpm : p ∈ s.pats := List.mem_of_getElem? hp
  have hpn := h.pn p hpm
  obtain ⟨j, hj, ej⟩ := pick_n ns 202 (m := p.length) (by omega)
  have p2 := e_L_pick ns 202 p.length (by omega)
  rw [ej] at p2
  obtain ⟨r, hr⟩ : ∃ r, p[j]? = some r := ⟨_, List.getElem?_eq_getElem hj⟩
  have hrm : r ∈ p := List.mem_of_getElem? hr
  have hrl := h.rl p hpm r hrm
  have hnv := h.nv
  obtain ⟨v, hv, ev⟩ := pick_n ns 203 (m := r.length) (by omega)
  have p3 := e_L_pick ns 203 r.length (by omega)
  rw [ev] at p3
  obtain ⟨b, hb⟩ : ∃ b, r[v]? = some b := ⟨_, List.getElem?_eq_getElem hv⟩
  obtain ⟨q4, hq4, eq4⟩ := pick_n ns 204 (m := 3) (by decide)
  have p4 := e_L_pick ns 204 3 (by decide)
  rw [show pickI ns 204 3 = q4 from eq4] at p4
  obtain ⟨x, x1, x2, x3⟩ := e_L_bad_box b s.order.length cell
  obtain ⟨g1, g2⟩ := pat_row hp hr
  have g3 : atI (r.map encBox) v = some (encBox b) := by rw [atI_n, List.getElem?_map, hb]; rfl
  have e5 : encSong s = .tup [.int s.speed, .tup (ordL s.order), .tup (s.pats.map encPat)] := rfl
  have lo : (ordL s.order).length = s.order.length := by simp [ordL]
  have lim : ∀ n : Nat, n ≤ 100 → n ≤ LIM := fun n hn => Nat.le_trans hn (by decide)
  simp at es p0
  show runF (B_L_once [.val (scr ns), .un, .un, .un, .un, .un, .un, .un, .un, .un, .un, .un, .un]) = _
  unfold B_L_once
  refine run_step (ε' := [.val (scr ns), .val (encSong s), .un, .un, .un, .un, .un, .un, .un, .un, .un, .un, .un]) (by simp [es]) ?_
  refine run_step (ε' := [.val (scr ns), .val (encSong s), .un, .un, .un, .un, .un, .un, .un, .un, .un, .un, .un]) (by simp [i1]) ?_
  refine run_step (ε' := [.val (scr ns), .val (encSong s), .val (.int cell), .un, .un, .un, .un, .un, .un, .un, .un, .un, .un]) (by simp [p0, oPow]) ?_
  refine run_step (ε' := [.val (scr ns), .val (encSong s), .val (.int cell), .un, .un, .un, .un, .un, .un, .un, .un, .un, .un]) (by simp [w1, i2]) ?_
  refine run_step (ε' := [.val (scr ns), .val (encSong s), .val (.int cell), .val (.int s.speed), .val (.tup (ordL s.order)), .val (.tup (s.pats.map encPat)), .un, .un, .un, .un, .un, .un, .un]) (by simp [e5]) ?_
  refine run_step (ε' := [.val (scr ns), .val (encSong s), .val (.int cell), .val (.int s.speed), .val (.tup (ordL s.order)), .val (.tup (s.pats.map encPat)), .val (.int a), .un, .un, .un, .un, .un, .un]) (by simp at p1; simp [p1]) ?_
  refine run_step (ε' := [.val (scr ns), .val (encSong s), .val (.int cell), .val (.int s.speed), .val (.tup (ordL s.order)), .val (.tup (s.pats.map encPat)), .val (.int a), .val (.int j), .un, .un, .un, .un, .un]) (by simp at p2; simp [g1, encPat, p2]) ?_
  refine run_step (ε' := [.val (scr ns), .val (encSong s), .val (.int cell), .val (.int s.speed), .val (.tup (ordL s.order)), .val (.tup (s.pats.map encPat)), .val (.int a), .val (.int j), .val (encRow r), .un, .un, .un, .un]) (by simp [g1, encPat, g2]) ?_
  refine run_step (ε' := [.val (scr ns), .val (encSong s), .val (.int cell), .val (.int s.speed), .val (.tup (ordL s.order)), .val (.tup (s.pats.map encPat)), .val (.int a), .val (.int j), .val (encRow r), .val (.int v), .un, .un, .un]) (by simp at p3; simp [encRow, p3]) ?_
  obtain ⟨b1, b2⟩ := bad_ok h hpm hrm hv x2 x3
  refine run_step (ε' := [.val (scr ns), .val (encSong s), .val (.int cell), .val (.int s.speed), .val (.tup (ordL s.order)), .val (.tup (s.pats.map encPat)), .val (.int a), .val (.int j), .val (encRow r), .val (.int v), .val (.tup ((r.map encBox).take v ++ (x :: (r.map encBox).drop (v + 1)))), .un, .un]) (by
    have c1 := cut_take (r.map encBox) v
    have c2 := cut_drop (r.map encBox) (v + 1)
    push_cast at c2
    have l1 : min v r.length + 1 ≤ LIM := lim _ (by omega)
    have l2 : min v r.length + 1 + (r.length - (v + 1)) ≤ LIM := lim _ (by omega)
    simp [encRow, c1, c2, g3, lo, x1, l1, l2, -List.map_take, -List.map_drop]) ?_
  have okb : ∀ d ∈ r.map encBox, okS 4 d = true := by
    intro d hd
    obtain ⟨b, _, rfl⟩ := List.mem_map.mp hd
    exact okS_pl (pl_mono (by omega) (pl_box b))
  have lb : (r.map encBox).length = voices s := by rw [List.length_map, hrl]
  obtain ⟨p00, hp00⟩ : ∃ p0, s.pats[0]? = some p0 := ⟨_, List.getElem?_eq_getElem (by omega)⟩
  have g00 : atI (s.pats.map encPat) 0 = some (encPat p00) := by
    have := atI_n (s.pats.map encPat) 0
    rw [List.getElem?_map, hp00] at this
    exact this
  have same : s.pats.length = 1 → p00 = p := fun e => by
    have : a = 0 := by omega
    subst this
    rw [hp] at hp00
    exact (Option.some.inj hp00).symm
  refine run_ex (P := fun bad => okS 5 bad = true ∧ (rowD s.order.length bad = false ∨ (lenD bad ≠ voices s ∧ ¬ (s.pats.length = 1 ∧ p.length = 1)))) (E := fun bad => [.val (scr ns), .val (encSong s), .val (.int cell), .val (.int s.speed), .val (.tup (ordL s.order)), .val (.tup (s.pats.map encPat)), .val (.int a), .val (.int j), .val (encRow r), .val (.int v), .val bad, .un, .un]) ?_ ?_
  · by_cases hq : q4 = 0
    · subst hq
      have h5 : cell % 5 < (bad5 (r.map encBox)).length := Nat.mod_lt _ (by decide)
      have h3 : cell % 3 < (bad3 (r.map encBox)).length := Nat.mod_lt _ (by decide)
      have k5 := bad5_ok (places := s.order.length) lb hnv.1 okb _ (List.getElem_mem h5)
      have k3 := bad3_ok (places := s.order.length) okb _ (List.getElem_mem h3)
      have a5 : atI (bad5 (r.map encBox)) ((cell : Int) % 5) = some (bad5 (r.map encBox))[cell % 5] := by
        rw [show (cell : Int) % 5 = ((cell % 5 : Nat) : Int) by omega, atI_n, List.getElem?_eq_getElem h5]
      have a3 : atI (bad3 (r.map encBox)) ((cell : Int) % 3) = some (bad3 (r.map encBox))[cell % 3] := by
        rw [show (cell : Int) % 3 = ((cell % 3 : Nat) : Int) by omega, atI_n, List.getElem?_eq_getElem h3]
      generalize hd5 : (bad5 (r.map encBox))[cell % 5] = d5 at k5 a5
      generalize hd3 : (bad3 (r.map encBox))[cell % 3] = d3 at k3 a3
      have c1 := cut_take (r.map encBox) 1
      have c2 := cut_m1 (r.map encBox) (by rw [lb]; exact hnv.1)
      have l1 : r.length + min 1 r.length ≤ LIM := lim _ (by omega)
      rw [List.length_map] at c2
      unfold bad5 at a5
      unfold bad3 at a3
      rw [List.length_map] at a5
      have c1' : cut (r.map encBox) none (some 1) = (r.map encBox).take 1 := c1
      simp at p4
      by_cases hs : s.pats.length = 1 ∧ p00.length = 1
      · refine ⟨d3, ⟨k3.1, .inl k3.2⟩, ?_⟩
        simp [p4, encRow, c1', c2, l1, a5, a3, hs.1, hs.2, g00, encPat, -List.map_take]
      · refine ⟨d5, ⟨k5.1, ?_⟩, ?_⟩
        rotate_left
        · by_cases hs1 : s.pats.length = 1
          · have hs2 : ¬ p00.length = 1 := fun e => hs ⟨hs1, e⟩
            have hs2' : ¬ (p00.length : Int) = 1 := by omega
            simp [p4, encRow, c1', c2, l1, a5, hs1, hs2, hs2', g00, encPat, -List.map_take]
          · have hs1' : ¬ (s.pats.length : Int) = 1 := by omega
            simp [p4, encRow, c1', c2, l1, a5, hs1, hs1', -List.map_take]
        · rcases k5.2 with e | e
          · exact .inl e
          · exact .inr ⟨e, fun z => hs ⟨z.1, by rw [same z.1]; exact z.2⟩⟩
    · have hq' : ¬ (q4 : Int) = 0 := by omega
      refine ⟨_, ⟨b2, .inl b1⟩, ?_⟩
      simp at p4
      simp [p4, hq]
  rintro bad ⟨ok5, hbad⟩
  have f1 := putRow_false h hp hj hbad
  have f2 := e_is_song _ (putRow_ok (s := s) a j p ok5)
  rw [f1] at f2
  have m1 := cut_take (p.map encRow) j
  have m2 := cut_drop (p.map encRow) (j + 1)
  have m3 := cut_take (s.pats.map encPat) a
  have m4 := cut_drop (s.pats.map encPat) (a + 1)
  push_cast at m2 m4
  have l1 : min j p.length + 1 ≤ LIM := lim _ (by omega)
  have l2 : min j p.length + 1 + (p.length - (j + 1)) ≤ LIM := lim _ (by omega)
  have l3 : min a s.pats.length + 1 ≤ LIM := lim _ (by omega)
  have l4 : min a s.pats.length + 1 + (s.pats.length - (a + 1)) ≤ LIM := lim _ (by omega)
  refine run_step (ε' := [.val (scr ns), .val (encSong s), .val (.int cell), .val (.int s.speed), .val (.tup (ordL s.order)), .val (.tup (s.pats.map encPat)), .val (.int a), .val (.int j), .val (encRow r), .val (.int v), .val bad, .val (.tup ((p.map encRow).take j ++ bad :: (p.map encRow).drop (j + 1))), .un]) (by
    simp [g1, encPat, m1, m2, l1, l2, -List.map_take, -List.map_drop]) ?_
  refine run_step (ε' := [.val (scr ns), .val (encSong s), .val (.int cell), .val (.int s.speed), .val (.tup (ordL s.order)), .val (.tup (s.pats.map encPat)), .val (.int a), .val (.int j), .val (encRow r), .val (.int v), .val bad, .val (.tup ((p.map encRow).take j ++ bad :: (p.map encRow).drop (j + 1))), .un]) (by
    unfold putRow at f2
    simp [m3, m4, l3, l4, f2, -List.map_take, -List.map_drop]) ?_
  have hn3 : ∃ n : Nat, n ∈ [5, 6, 7] ∧ 5 + (cell : Int) % 3 = n := by
    have : cell % 3 = 0 ∨ cell % 3 = 1 ∨ cell % 3 = 2 := by omega
    rcases this with e | e | e
    · exact ⟨5, by simp, by omega⟩
    · exact ⟨6, by simp, by omega⟩
    · exact ⟨7, by simp, by omega⟩
  obtain ⟨n, hn, en⟩ := hn3
  obtain ⟨z1, z2, z3, z4⟩ := edge1 n hn
  have hn7 : 5 ≤ n ∧ n ≤ 7 := by
    simp only [List.mem_cons, List.not_mem_nil, or_false] at hn
    omega
  refine run_step (ε' := [.val (scr ns), .val (encSong s), .val (.int cell), .val (.int s.speed), .val (.tup (ordL s.order)), .val (.tup (s.pats.map encPat)), .val (.int a), .val (.int j), .val (encRow r), .val (.int v), .val bad, .val (.tup ((p.map encRow).take j ++ bad :: (p.map encRow).drop (j + 1))), .val (.int n)]) (by
    simp [en]) ?_
  refine run_step (ε' := [.val (scr ns), .val (encSong s), .val (.int cell), .val (.int s.speed), .val (.tup (ordL s.order)), .val (.tup (s.pats.map encPat)), .val (.int a), .val r1, .val (encRow r), .val (.int v), .val bad, .val (.tup ((p.map encRow).take j ++ bad :: (p.map encRow).drop (j + 1))), .val (.int n)]) (by
    simp) ?_
  have rf : ∀ (x : D) (k : Nat), (List.replicate k [x]).flatten = List.replicate k x := by
    intro x k
    induction k with
    | zero => rfl
    | succ k ih => rw [List.replicate_succ, List.flatten_cons, ih]; rfl
  have hb3 : (n : Int) - 3 = ((n - 3 : Nat) : Int) := by omega
  have s1 : (1 : Int) ≤ n ∧ (n : Int) ≤ 1000 := by omega
  have s2 : (1 : Int) ≤ ((n - 3 : Nat) : Int) ∧ ((n - 3 : Nat) : Int) ≤ 1000 := by omega
  have dn : decide ((n : Int) < 7) = decide (n < 7) := decide_eq_decide.mpr (by omega)
  simp [s1, rf, z1, z2, z3, z4, dn, hb3, s2]
theorem law_true : ∀ ns : List Int, ns.length ≤ 63 → M_law [.lst (ns.map .int)] = .ok (.bl true) := fun ns hl => by
  show M_law [scr ns] = .ok (.bl true)
  have body : ∀ (i : Nat) (y : Sl), i < 8 → B_law_1 [.val (scr ns), .val (.int i), y] = if ns = [] then .bk [.val (scr ns), .val (.int i), y] else .nx [.val (scr ns), .val (.int i), y] := by
    intro i y hi
    have c := compL_map (ft := tgN 2) (elt := E_law_1) (ε := [.val (scr ns), .val (.int i), .un]) (enc := D.int) (g := fun x => D.int (x + 7919 * (i : Int))) ns (fun x _ => ⟨_, rfl, by simp [show small 7919 = true by decide]⟩)
    have hl' : ns.length ≤ LIM := Nat.le_trans hl (by decide)
    have it : oSeq (scr ns) = some (ns.map D.int) := rfl
    have o := e_L_once (ns.map fun x => x + 7919 * (i : Int))
    unfold scr at o
    rw [List.map_map] at o
    have o : M_L_once [.lst (ns.map fun x => D.int (x + 7919 * (i : Int)))] = .ok (.bl true) := o
    by_cases hn : ns = []
    · have e : oEq (scr ns) (.lst []) = some (.bl true) := by
        rw [hn]
        exact oEq_same (n := 1) (d := .lst []) rfl
      rw [if_pos hn]
      simp [it, hl', c, o, e]
    · have e : oEq (scr ns) (.lst []) = some (.bl false) := oEq_diff (n := 1) (m := 1) (pl_scr ns) rfl (fun z => by
        unfold scr at z
        injection z with z
        exact hn (List.map_eq_nil_iff.mp z))
      rw [if_neg hn]
      simp [it, hl', c, o, e]
  by_cases hn : ns = []
  · have b0 := body 0 .un (by decide)
    rw [if_pos hn] at b0
    have f : forL (tgN 1) B_law_1 (rng 0 8) [.val (scr ns), .un, .un] = .nx [.val (scr ns), .val (.int 0), .un] := by
      rw [show rng 0 8 = .int 0 :: (rng 0 8).tail from rfl]
      unfold forL
      have t0 : tgN 1 (.int 0) [.val (scr ns), .un, .un] = some [.val (scr ns), .val (.int 0), .un] := rfl
      rw [t0]
      dsimp only
      have b0 : B_law_1 [.val (scr ns), .val (.int 0), .un] = .bk [.val (scr ns), .val (.int 0), .un] := b0
      rw [b0]
    simp [M_law, B_law, f]
  · obtain ⟨ε', h1, y1, h2⟩ := for_rng (ft := tgN 1) (body := B_law_1) (fun i ε => ∃ y1, ε = [.val (scr ns), y1, .un]) 8 [.val (scr ns), .un, .un] ⟨.un, rfl⟩ (by
      rintro i ε hi ⟨y1, rfl⟩
      refine ⟨_, _, rfl, ?_, .val (.int i), rfl⟩
      have b := body i .un hi
      rw [if_neg hn] at b
      exact b)
    subst h2
    simp [M_law, B_law, h1]
end W
open PySem PySem.W PyProof.Rows
set_option maxHeartbeats 0 in
theorem PySem.Challenge.cw_rowsong_k01_songs_holds : PySem.Challenge.rw_rowsong_k01_songs.Holds := by
  w_on; o_law; k_head; (case hw => w_witness2)
  k_fill
  refine L2.walk_of (l := PySem.Challenge.rw_rowsong_k01_songs) (n := 63) (k := 9) (x := "script") (CX := fun _ => L2.CX0) (sp := fun w => PL.spLaw _) rfl (by decide) rfl ⟨rfl, by decide, by decide⟩ (fun w h Y => PySem.W.kIn_of Y) ?F (fun _ _ a ns hl _ hS => ⟨a, ns, rfl, hS, hl, fun _ => rfl⟩) (fun _ _ _ _ _ h => h)
  case F =>
    intro w mg fa h KX G hmg
    refine' W.all_mk W.law_true KX G hmg ?a_is_whole ?l_is_whole ?k_is_whole ?j_is_whole ?a_is_between ?l_is_between ?k_is_between ?j_is_between ?a_is_sound ?l_is_sound ?k_is_sound ?j_is_sound ?a_is_deed ?l_is_deed ?k_is_deed ?j_is_deed ?a_is_box ?l_is_box ?k_is_box ?j_is_box ?a_is_row ?l_is_row ?k_is_row ?j_is_row ?a_is_pattern ?l_is_pattern ?k_is_pattern ?j_is_pattern ?a_is_song ?l_is_song ?k_is_song ?j_is_song ?a_L_cell ?l_L_cell ?k_L_cell ?j_L_cell ?a_L_pick ?l_L_pick ?k_L_pick ?j_L_pick ?a_L_box ?l_L_box ?k_L_box ?j_L_box ?a_L_song ?l_L_song ?k_L_song ?j_L_song ?a_L_bad_box ?l_L_bad_box ?k_L_bad_box ?j_L_bad_box ?a_L_whole ?l_L_whole ?k_L_whole ?j_L_whole ?a_L_once ?l_L_once ?k_L_once ?j_L_once ?a_law ?l_law ?k_law ?j_law ?z_all ?z_bool ?z_int ?z_isinstance ?z_len ?z_list ?z_range ?z_str ?z_tuple ?y_FASTEST ?y_GREATEST ?yl_GREATEST ?yk_GREATEST ?yw_GREATEST ?yb_GREATEST ?y_HEIGHTS ?y_LEAST ?yl_LEAST ?yk_LEAST ?yw_LEAST ?yb_LEAST ?y_MOST_PATTERNS ?y_MOST_PLACES ?y_MOST_ROWS ?y_MOST_VOICES ?y_SLOWEST
    (case a_is_whole => k_is); (case l_is_whole => k_is); (case k_is_whole => k_is); (case j_is_whole => k_is); (case a_is_between => k_is); (case l_is_between => k_is); (case k_is_between => k_is); (case j_is_between => k_is); (case a_is_sound => k_is); (case l_is_sound => k_is); (case k_is_sound => k_is); (case j_is_sound => k_is); (case a_is_deed => k_is); (case l_is_deed => k_is); (case k_is_deed => k_is); (case j_is_deed => k_is); (case a_is_box => k_is); (case l_is_box => k_is); (case k_is_box => k_is); (case j_is_box => k_is); (case a_is_row => k_is); (case l_is_row => k_is); (case k_is_row => k_is); (case j_is_row => k_is); (case a_is_pattern => k_is); (case l_is_pattern => k_is); (case k_is_pattern => k_is); (case j_is_pattern => k_is); (case a_is_song => k_is); (case l_is_song => k_is); (case k_is_song => k_is); (case j_is_song => k_is); (case a_L_cell => k_is); (case l_L_cell => k_is); (case k_L_cell => k_is); (case j_L_cell => k_is); (case a_L_pick => k_is); (case l_L_pick => k_is); (case k_L_pick => k_is); (case j_L_pick => k_is); (case a_L_box => k_is); (case l_L_box => k_is); (case k_L_box => k_is); (case j_L_box => k_is); (case a_L_song => k_is); (case l_L_song => k_is); (case k_L_song => k_is); (case j_L_song => k_is); (case a_L_bad_box => k_is); (case l_L_bad_box => k_is); (case k_L_bad_box => k_is); (case j_L_bad_box => k_is); (case a_L_whole => k_is); (case l_L_whole => k_is); (case k_L_whole => k_is); (case j_L_whole => k_is); (case a_L_once => k_is); (case l_L_once => k_is); (case k_L_once => k_is); (case j_L_once => k_is); (case a_law => k_is); (case l_law => k_is); (case k_law => k_is); (case j_law => k_is); (case z_all => k_is); (case z_bool => k_is); (case z_int => k_is); (case z_isinstance => k_is); (case z_len => k_is); (case z_list => k_is); (case z_range => k_is); (case z_str => k_is); (case z_tuple => k_is); (case y_FASTEST => k_is); (case y_GREATEST => k_is); (case yl_GREATEST => k_is); (case yk_GREATEST => exact ⟨⟨_, _, rfl, rfl⟩, ⟨_, _, rfl, rfl⟩, ⟨_, _, rfl, rfl⟩, ⟨_, _, rfl, rfl⟩, ⟨_, _, rfl, rfl⟩, trivial⟩); (case yw_GREATEST => rfl); (case yb_GREATEST => exact .cons ⟨_, rfl⟩ ⟨_, rfl⟩ (.cons ⟨_, rfl⟩ ⟨_, rfl⟩ (.cons ⟨_, rfl⟩ ⟨_, rfl⟩ (.cons ⟨_, rfl⟩ ⟨_, rfl⟩ (.cons ⟨_, rfl⟩ ⟨_, rfl⟩ (.nil)))))); (case y_HEIGHTS => k_is); (case y_LEAST => k_is); (case yl_LEAST => k_is); (case yk_LEAST => exact ⟨⟨_, _, rfl, rfl⟩, ⟨_, _, rfl, rfl⟩, ⟨_, _, rfl, rfl⟩, ⟨_, _, rfl, rfl⟩, ⟨_, _, rfl, rfl⟩, trivial⟩); (case yw_LEAST => rfl); (case yb_LEAST => exact .cons ⟨_, rfl⟩ ⟨_, rfl⟩ (.cons ⟨_, rfl⟩ ⟨_, rfl⟩ (.cons ⟨_, rfl⟩ ⟨_, rfl⟩ (.cons ⟨_, rfl⟩ ⟨_, rfl⟩ (.cons ⟨_, rfl⟩ ⟨_, rfl⟩ (.nil)))))); (case y_MOST_PATTERNS => k_is); (case y_MOST_PLACES => k_is); (case y_MOST_ROWS => k_is); (case y_MOST_VOICES => k_is); (case y_SLOWEST => k_is)
