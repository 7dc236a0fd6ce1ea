import PyProof.Rows.All
import Wide.All
import OpenK.AllK
import Wide.FinOn
import PyProof.EqAt
import PyProof.EqKinds
import PyProof.TupleCall
import HandS.ForMost
import HandS.Flow
import HandS.Wide
import HandS.Style
import HandS.IsInst
import HandS.Deep
import HandS.Star
import HandS.More
import HandS.TupAny
import PyProof.FactsAll.dict
import PyProof.NeKinds
import PyProof.P3In
import HandS.Exc
import HandS.ExcOwn
import HandS.TryOnly
import HandS.WordsExc
import HandS.Defaults
import HandS.Zip
import HandS.Walk
import PySem.Challenge.RW_stillgood_k00_kinds_or_none
set_option Elab.async false
set_option linter.all false
set_option maxRecDepth 100000
set_option maxHeartbeats 4000000
/-! Data without a heap, and how it lies in the abstract heap. -/
namespace Dl
open PySem PySem.Spec PyProof.Rows L2

inductive D where
  | non
  | bl (b : Bool)
  | int (i : Int)
  | str (s : Str)
  | list (xs : List D)
  | tup (xs : List D)
  | dict (kvs : List (Key × D))
  | box

/-- the source of draws stands at b; it has made at most n mixed numbers -/
def BoxAt (H : Hp) (b : Addr) (n : Nat) : Prop := ∃ x y z : Int, H b = some (.lst [.int x, .int y, .int z]) ∧ 0 ≤ z ∧ z ≤ n

mutual
inductive Rp (K : PySem.W.Frag) (b : Option Addr) (G : Hp) : V → D → Prop
  | non : Rp K b G .non .non
  | bl (x : Bool) : Rp K b G (.bl x) (.bl x)
  | int (i : Int) : Rp K b G (.int i) (.int i)
  | str (x : Str) (z : x.length ≤ sizeLine) (o : PySem.PyData.strOk x = true) : Rp K b G (.str x) (.str x)
  | list {a : Addr} {xs : List V} {ds : List D} (h : G a = some (.lst xs)) (z : xs.length ≤ sizeLine) (g : Rps K b G xs ds) : Rp K b G (.ref a) (.list ds)
  | tup {a : Addr} {xs : List V} {ds : List D} (h : SqT K G a xs) (z : xs.length ≤ sizeLine) (g : Rps K b G xs ds) : Rp K b G (.ref a) (.tup ds)
  | dict {a : Addr} {kvs : List (Key × V)} {ds : List (Key × D)} (h : G a = some (.dK kvs)) (z : kvs.length ≤ sizeLine) (g : Rkv K b G kvs ds) : Rp K b G (.ref a) (.dict ds)
  | box {a : Addr} (h : b = some a) : Rp K b G (.ref a) .box
inductive Rps (K : PySem.W.Frag) (b : Option Addr) (G : Hp) : List V → List D → Prop
  | nil : Rps K b G [] []
  | cons {v : V} {vs : List V} {d : D} {ds : List D} (h : Rp K b G v d) (g : Rps K b G vs ds) : Rps K b G (v :: vs) (d :: ds)
inductive Rkv (K : PySem.W.Frag) (b : Option Addr) (G : Hp) : List (Key × V) → List (Key × D) → Prop
  | nil : Rkv K b G [] []
  | cons {k : Key} {v : V} {vs : List (Key × V)} {d : D} {ds : List (Key × D)} (h : Rp K b G v d) (g : Rkv K b G vs ds) : Rkv K b G ((k, v) :: vs) ((k, d) :: ds)
end

theorem sqt_same {K : PySem.W.Frag} {H H' : Hp} {a : Addr} {xs : List V} (e : Same H H') (h : SqT K H a xs) : SqT K H' a xs := by
  rcases h with (h | ⟨o, h⟩) | h
  · exact .inl (.inl (e _ _ h))
  · exact .inl (.inr ⟨o, e _ _ h⟩)
  · exact .inr h
section
variable {K : PySem.W.Frag} {b : Option Addr} {G G' : Hp}
mutual
theorem Rp.mono (s : Same G G') {v : V} {d : D} (h : Rp K b G v d) : Rp K b G' v d := by
  cases h with
  | non => exact .non
  | bl x => exact .bl x
  | int i => exact .int i
  | str x z o => exact .str x z o
  | list h z g => exact .list (s _ _ h) z (Rps.mono s g)
  | tup h z g => exact .tup (sqt_same s h) z (Rps.mono s g)
  | dict h z g => exact .dict (s _ _ h) z (Rkv.mono s g)
  | box h => exact .box h
theorem Rps.mono (s : Same G G') {v : List V} {d : List D} (h : Rps K b G v d) : Rps K b G' v d := by
  cases h with
  | nil => exact .nil
  | cons h g => exact .cons (Rp.mono s h) (Rps.mono s g)
theorem Rkv.mono (s : Same G G') {v : List (Key × V)} {d : List (Key × D)} (h : Rkv K b G v d) : Rkv K b G' v d := by
  cases h with
  | nil => exact .nil
  | cons h g => exact .cons (Rp.mono s h) (Rkv.mono s g)
end
theorem Rps.length {v : List V} {d : List D} (h : Rps K b G v d) : v.length = d.length := by
  induction v generalizing d with
  | nil => cases h; rfl
  | cons x xs ih => cases h with | cons h g => simp [ih g]
theorem Rps.append {v w : List V} {d e : List D} (h : Rps K b G v d) (g : Rps K b G w e) : Rps K b G (v ++ w) (d ++ e) := by
  induction v generalizing d with
  | nil => cases h; exact g
  | cons x xs ih => cases h with | cons h g' => exact .cons h (ih g')
theorem Rps.get {v : List V} {d : List D} (h : Rps K b G v d) {i : Nat} {x : V} (e : v[i]? = some x) : ∃ y, d[i]? = some y ∧ Rp K b G x y := by
  induction v generalizing d i with
  | nil => simp at e
  | cons w ws ih =>
    cases h with
    | cons h g =>
      cases i with
      | zero => simp at e; subst e; exact ⟨_, rfl, h⟩
      | succ i => simp at e; obtain ⟨y, e1, e2⟩ := ih g e; exact ⟨y, by simpa using e1, e2⟩
theorem Rps.getD {v : List V} {d : List D} (h : Rps K b G v d) {i : Nat} {y : D} (e : d[i]? = some y) : ∃ x, v[i]? = some x ∧ Rp K b G x y := by
  induction v generalizing d i with
  | nil => cases h; simp at e
  | cons w ws ih =>
    cases h with
    | cons h g =>
      cases i with
      | zero => simp at e; subst e; exact ⟨_, rfl, h⟩
      | succ i => simp at e; obtain ⟨y, e1, e2⟩ := ih g e; exact ⟨y, by simpa using e1, e2⟩
theorem Rps.set {v : List V} {d : List D} (h : Rps K b G v d) {i : Nat} {x : V} {y : D} (r : Rp K b G x y) : Rps K b G (v.set i x) (d.set i y) := by
  induction v generalizing d i with
  | nil => cases h; exact .nil
  | cons w ws ih =>
    cases h with
    | cons h g =>
      cases i with
      | zero => exact .cons r g
      | succ i => exact .cons h (ih g)
theorem Rps.take {v : List V} {d : List D} (h : Rps K b G v d) (i : Nat) : Rps K b G (v.take i) (d.take i) := by
  induction v generalizing d i with
  | nil => cases h; cases i <;> exact .nil
  | cons w ws ih =>
    cases h with
    | cons h g =>
      cases i with
      | zero => exact .nil
      | succ i => exact .cons h (ih g i)
theorem Rps.drop {v : List V} {d : List D} (h : Rps K b G v d) (i : Nat) : Rps K b G (v.drop i) (d.drop i) := by
  induction v generalizing d i with
  | nil => cases h; cases i <;> exact .nil
  | cons w ws ih =>
    cases h with
    | cons h g =>
      cases i with
      | zero => exact .cons h g
      | succ i => exact ih g i
end

/-! ### steps -/
structure Ok (b : Option Addr) (G H : Hp) (n : Nat) : Prop where
  sub : Same G H
  box : ∀ p, b = some p → G p = none ∧ BoxAt H p n
structure Stp (b : Option Addr) (G H G' H' : Hp) (n' : Nat) : Prop where
  gg : Same G G'
  gh : Same G' H'
  kp : ∀ a o, some a ≠ b → H a = some o → H' a = some o
  nw : ∀ a o, G' a = some o → G a = some o ∨ H a = none
  bx : ∀ p, b = some p → BoxAt H' p n'
section
variable {b : Option Addr} {G H G' H' G2 H2 : Hp} {n n' n2 : Nat}
theorem Stp.refl (h : Ok b G H n) : Stp b G H G H n := ⟨Same.refl _, h.sub, fun _ _ _ e => e, fun _ _ e => .inl e, fun p e => (h.box p e).2⟩
theorem BoxAt.some {p : Addr} (h : BoxAt H p n) : H p ≠ none := by
  obtain ⟨x, y, z, e, _⟩ := h
  rw [e]
  intro q
  cases q
theorem Ok.step (h : Ok b G H n) (s : Stp b G H G' H' n') : Ok b G' H' n' := by
  refine ⟨s.gh, fun p e => ⟨?_, s.bx p e⟩⟩
  obtain ⟨g, x⟩ := h.box p e
  cases q : G' p with
  | none => rfl
  | some o =>
    rcases s.nw p o q with z | z
    · rw [g] at z; cases z
    · exact absurd z x.some
theorem Stp.trans (s : Stp b G H G' H' n') (t : Stp b G' H' G2 H2 n2) : Stp b G H G2 H2 n2 := by
  refine ⟨s.gg.trans t.gg, t.gh, fun a o n e => t.kp a o n (s.kp a o n e), fun a o e => ?_, t.bx⟩
  rcases t.nw a o e with z | z
  · exact s.nw a o z
  · right
    cases q : H a with
    | none => rfl
    | some u =>
      by_cases ha : some a = b
      · exact absurd z (s.bx a ha.symm).some
      · rw [s.kp a u ha q] at z; cases z
theorem same_upd {p : Addr} {o : HO} (h : H p = none) : Same H (upd H p o) := fun b x e => by
  rw [upd_ne (ne_of_none e h)]
  exact e
theorem same_upd2 {p : Addr} {o : HO} (s : Same G H) : Same (upd G p o) (upd H p o) := fun b x e => by
  unfold upd at e ⊢
  split at e
  · rename_i h; rw [if_pos h]; exact e
  · rename_i h; rw [if_neg h]; exact s b x e
/-- a new object, for all to see -/
theorem Stp.new (h : Ok b G H n) {p : Addr} {o : HO} (np : H p = none) : Stp b G H (upd G p o) (upd H p o) n := by
  have gp : G p = none := h.sub.free np
  refine ⟨same_upd gp, same_upd2 h.sub, fun a u _ e => same_upd np a u e, fun a u e => ?_, fun q e => ?_⟩
  · by_cases z : a = p
    · rw [z]; exact .inr np
    · rw [upd_ne z] at e; exact .inl e
  · obtain ⟨x, y, z, e1, r⟩ := (h.box q e).2
    exact ⟨x, y, z, same_upd np _ _ e1, r⟩
/-- a new object of one's own -/
theorem Stp.own (h : Ok b G H n) {p : Addr} {o : HO} (np : H p = none) : Stp b G H G (upd H p o) n := by
  refine ⟨Same.refl _, fun a u e => same_upd np a u (h.sub a u e), fun a u _ e => same_upd np a u e, fun a u e => .inl e, fun q e => ?_⟩
  obtain ⟨x, y, z, e1, r⟩ := (h.box q e).2
  exact ⟨x, y, z, same_upd np _ _ e1, r⟩
end

/-! ### the names of a def -/
inductive Ent where
  | no
  | sh (d : D)
  | ow (d : D)
def EntOk (K : PySem.W.Frag) (b : Option Addr) (H0 G H : Hp) : Ent → Option (Option V) → Prop
  | .no, _ => True
  | .sh d, s => ∃ v, s = some (some v) ∧ Rp K b G v d
  | .ow d, s => ∃ p, s = some (some (.ref p)) ∧ G p = none ∧ H0 p = none ∧ some p ≠ b ∧
    ((∃ xs ds, d = .list ds ∧ H p = some (.lst xs) ∧ xs.length ≤ sizeLine ∧ Rps K b G xs ds) ∨ (∃ xs ds, d = .dict ds ∧ H p = some (.dK xs) ∧ xs.length ≤ sizeLine ∧ Rkv K b G xs ds))
structure Rho (K : PySem.W.Frag) (b : Option Addr) (G0 H0 G H : Hp) (n : Nat) (s : L2.St) (r : List Ent) : Prop where
  ok : Ok b G H n
  st : Stp b G0 H0 G H n
  len : r.length = s.length
  ent : ∀ (i : Nat) (e : Ent), r[i]? = some e → EntOk K b H0 G H e s[i]?
  dj : ∀ (i j : Nat) (p : Addr) (d e : D), r[i]? = some (.ow d) → r[j]? = some (.ow e) → s[i]? = some (some (.ref p)) → s[j]? = some (some (.ref p)) → i = j
section
variable {K : PySem.W.Frag} {b : Option Addr} {G0 H0 G H G' H' : Hp} {n n' : Nat} {s : L2.St} {r : List Ent}
theorem EntOk.step {e : Ent} {x : Option (Option V)} (h : EntOk K b H0 G H e x) (st : Stp b G H G' H' n') : EntOk K b H0 G' H' e x := by
  cases e with
  | no => trivial
  | sh d =>
    obtain ⟨v, e1, e2⟩ := h
    exact ⟨v, e1, e2.mono st.gg⟩
  | ow d =>
    obtain ⟨p, e1, e2, e3, e4, e5⟩ := h
    have hp : H p ≠ none := by
      rcases e5 with ⟨xs, ds, _, q, _⟩ | ⟨xs, ds, _, q, _⟩ <;> (rw [q]; intro z; cases z)
    refine ⟨p, e1, ?_, e3, e4, ?_⟩
    · cases q : G' p with
      | none => rfl
      | some o =>
        rcases st.nw p o q with z | z
        · rw [e2] at z; cases z
        · exact absurd z hp
    · rcases e5 with ⟨xs, ds, q1, q2, q3, q4⟩ | ⟨xs, ds, q1, q2, q3, q4⟩
      · exact .inl ⟨xs, ds, q1, st.kp _ _ e4 q2, q3, q4.mono st.gg⟩
      · exact .inr ⟨xs, ds, q1, st.kp _ _ e4 q2, q3, q4.mono st.gg⟩
theorem Rho.step (h : Rho K b G0 H0 G H n s r) (st : Stp b G H G' H' n') : Rho K b G0 H0 G' H' n' s r :=
  ⟨h.ok.step st, h.st.trans st, h.len, fun i e q => (h.ent i e q).step st, h.dj⟩
/-- a name gets a shared thing -/
theorem Rho.setSh (h : Rho K b G0 H0 G H n s r) {i : Nat} {v : V} {d : D} (e : Rp K b G v d) : Rho K b G0 H0 G H n (s.set i (some v)) (r.set i (.sh d)) := by
  refine ⟨h.ok, h.st, by rw [List.length_set, List.length_set]; exact h.len, fun j x q => ?_, fun j k p d1 d2 q1 q2 q3 q4 => ?_⟩
  · by_cases hj : i = j
    · subst hj
      have hl : i < r.length := by
        have := (List.getElem?_eq_some_iff.mp q).1
        simpa using this
      rw [List.getElem?_set_self hl] at q
      cases q
      rw [List.getElem?_set_self (by rw [← h.len]; exact hl)]
      exact ⟨v, rfl, e⟩
    · rw [List.getElem?_set_ne hj] at q
      rw [List.getElem?_set_ne hj]
      exact h.ent j x q
  · have n1 : i ≠ j := fun z => by
      subst z
      have hl : i < r.length := by
        have := (List.getElem?_eq_some_iff.mp q1).1
        simpa using this
      rw [List.getElem?_set_self hl] at q1
      cases q1
    have n2 : i ≠ k := fun z => by
      subst z
      have hl : i < r.length := by
        have := (List.getElem?_eq_some_iff.mp q2).1
        simpa using this
      rw [List.getElem?_set_self hl] at q2
      cases q2
    rw [List.getElem?_set_ne n1] at q1 q3
    rw [List.getElem?_set_ne n2] at q2 q4
    exact h.dj j k p d1 d2 q1 q2 q3 q4
/-- a name is wiped -/
theorem Rho.wipe1 (h : Rho K b G0 H0 G H n s r) {i : Nat} {x : Option V} : Rho K b G0 H0 G H n (s.set i x) (r.set i .no) := by
  refine ⟨h.ok, h.st, by rw [List.length_set, List.length_set]; exact h.len, fun j e q => ?_, fun j k p d1 d2 q1 q2 q3 q4 => ?_⟩
  · by_cases hj : i = j
    · subst hj
      have hl : i < r.length := by
        have := (List.getElem?_eq_some_iff.mp q).1
        simpa using this
      rw [List.getElem?_set_self hl] at q
      cases q
      trivial
    · rw [List.getElem?_set_ne hj] at q
      rw [List.getElem?_set_ne hj]
      exact h.ent j e q
  · have n1 : i ≠ j := fun z => by
      subst z
      have hl : i < r.length := by
        have := (List.getElem?_eq_some_iff.mp q1).1
        simpa using this
      rw [List.getElem?_set_self hl] at q1
      cases q1
    have n2 : i ≠ k := fun z => by
      subst z
      have hl : i < r.length := by
        have := (List.getElem?_eq_some_iff.mp q2).1
        simpa using this
      rw [List.getElem?_set_self hl] at q2
      cases q2
    rw [List.getElem?_set_ne n1] at q1 q3
    rw [List.getElem?_set_ne n2] at q2 q4
    exact h.dj j k p d1 d2 q1 q2 q3 q4
end

/-! ### the lifts -/
/-- an exception: its class by name, its own attributes -/
structure Exn where
  cls : Str
  fs : List (Str × D)
abbrev QX := Exn → Nat → Prop
abbrev TD := List Ent → Nat → (D → Nat → Prop) → QX → Prop
abbrev TDA := List Ent → Nat → (List D → Nat → Prop) → QX → Prop
abbrev TDT := List Ent → Nat → (Bool → Nat → Prop) → QX → Prop
/-- what is known of the module -/
structure Cn where
  K : PySem.W.Frag
  mg : Str → Option Value
inductive Rfs (K : PySem.W.Frag) (b : Option Addr) (G : Hp) : List (Str × V) → List (Str × D) → Prop
  | nil : Rfs K b G [] []
  | cons {k : Str} {v : V} {vs : List (Str × V)} {d : D} {ds : List (Str × D)} (h : Rp K b G v d) (g : Rfs K b G vs ds) : Rfs K b G ((k, v) :: vs) ((k, d) :: ds)
def Rx (c : Cn) (b : Option Addr) (G H : Hp) (cls : Value) (d : Option Addr) (x : Exn) : Prop :=
  c.mg x.cls = some cls ∧ ∃ p fs, d = some p ∧ H p = some (.xd fs) ∧ Rfs c.K b G fs x.fs
abbrev WD := Value → Option Addr → L2.St → Hp → Prop
def XOk (c : Cn) (W : WD) (b : Option Addr) (G H : Hp) (s : L2.St) (Ex : QX) : Prop :=
  ∀ cls d G' H' n' x, Stp b G H G' H' n' → Rx c b G' H' cls d x → Ex x n' → W cls d s H'
def lift (c : Cn) (W : WD) (te : TD) : TE := fun s H Q => ∃ b G0 H0 G n r Qd Ex, Rho c.K b G0 H0 G H n s r ∧ te r n Qd Ex ∧ XOk c W b G H s Ex ∧ ∀ v G' H' n' d, Stp b G H G' H' n' → Rp c.K b G' v d → Qd d n' → Q v H'
def liftA (c : Cn) (W : WD) (te : TDA) : TA := fun s H Q => ∃ b G0 H0 G n r Qd Ex, Rho c.K b G0 H0 G H n s r ∧ te r n Qd Ex ∧ XOk c W b G H s Ex ∧ ∀ v G' H' n' d, Stp b G H G' H' n' → Rps c.K b G' v d → Qd d n' → Q v H'
def liftT (c : Cn) (W : WD) (te : TDT) : TT := fun s H Q => ∃ b G0 H0 G n r Qd Ex, Rho c.K b G0 H0 G H n s r ∧ te r n Qd Ex ∧ XOk c W b G H s Ex ∧ ∀ G' H' n' d, Stp b G H G' H' n' → Qd d n' → Q d H'
theorem pe_imp {X : Cx} {e : Expr} {t t' : TE} (h : PE X e t) (i : ∀ s H Q, t' s H Q → t s H Q) : PE X e t' := ⟨fun pins s a H Q I q => h.run pins s a H Q I (i _ _ _ q)⟩
theorem pt_imp {X : Cx} {e : Expr} {t t' : TT} (h : PT X e t) (i : ∀ s H Q, t' s H Q → t s H Q) : PT X e t' := ⟨fun pins s a H Q I q => h.run pins s a H Q I (i _ _ _ q)⟩
theorem pw_imp {X : Cx} {e : Expr} {t t' : TT} (h : PW X e t) (i : ∀ s H Q, t' s H Q → t s H Q) : PW X e t' := ⟨fun wh pins s a H Q I q => h.run wh pins s a H Q I (i _ _ _ q)⟩
theorem pa_imp {X : Cx} {e : List Expr} {t t' : TA} (h : PA X e t) (i : ∀ s H Q, t' s H Q → t s H Q) : PA X e t' := ⟨fun pos pins s a H Q I q => h.run pos pins s a H Q I (i _ _ _ q)⟩
section
variable {c : Cn} {W : WD} {s : L2.St} {H : Hp} {b : Option Addr} {G0 H0 G G' H' : Hp} {n n' : Nat} {r : List Ent} {Ex : QX}
theorem XOk.step (h : XOk c W b G H s Ex) (st : Stp b G H G' H' n') : XOk c W b G' H' s Ex := fun cls d G2 H2 n2 x s2 e q => h cls d G2 H2 n2 x (st.trans s2) e q
/-- one part, then the next -/
theorem lift_bind {te : TD} {Q : VK} {Qd : D → Nat → Prop} (h : Rho c.K b G0 H0 G H n s r) (x : XOk c W b G H s Ex) (t : te r n Qd Ex)
    (k : ∀ v G' H' n' d, Rho c.K b G0 H0 G' H' n' s r → XOk c W b G' H' s Ex → Stp b G H G' H' n' → Rp c.K b G' v d → Qd d n' → Q v H') : lift c W te s H Q :=
  ⟨b, G0, H0, G, n, r, Qd, Ex, h, t, x, fun v G' H' n' d st e q => k v G' H' n' d (h.step st) (x.step st) st e q⟩
theorem liftA_bind {te : TDA} {Q : List V → Hp → Prop} {Qd : List D → Nat → Prop} (h : Rho c.K b G0 H0 G H n s r) (x : XOk c W b G H s Ex) (t : te r n Qd Ex)
    (k : ∀ v G' H' n' d, Rho c.K b G0 H0 G' H' n' s r → XOk c W b G' H' s Ex → Stp b G H G' H' n' → Rps c.K b G' v d → Qd d n' → Q v H') : liftA c W te s H Q :=
  ⟨b, G0, H0, G, n, r, Qd, Ex, h, t, x, fun v G' H' n' d st e q => k v G' H' n' d (h.step st) (x.step st) st e q⟩
theorem liftT_bind {te : TDT} {Q : Bool → Hp → Prop} {Qd : Bool → Nat → Prop} (h : Rho c.K b G0 H0 G H n s r) (x : XOk c W b G H s Ex) (t : te r n Qd Ex)
    (k : ∀ G' H' n' d, Rho c.K b G0 H0 G' H' n' s r → XOk c W b G' H' s Ex → Stp b G H G' H' n' → Qd d n' → Q d H') : liftT c W te s H Q :=
  ⟨b, G0, H0, G, n, r, Qd, Ex, h, t, x, fun G' H' n' d st q => k G' H' n' d (h.step st) (x.step st) st q⟩
end
end Dl

set_option Elab.async false
set_option linter.all false
set_option maxRecDepth 100000
set_option maxHeartbeats 4000000
/-! A small language of expressions and statements over data, and what it asks. -/
namespace Dl
open PySem PySem.Spec PyProof.Rows L2

/-! ### what the operators do -/
mutual
def D.py : D → PyData
  | .non => .none
  | .bl b => .bool b
  | .int i => .int i
  | .str s => .str s
  | .list xs => .list (D.pys xs)
  | .tup xs => .tuple (D.pys xs)
  | .dict _ => .dict []
  | .box => .none
def D.pys : List D → List PyData
  | [] => []
  | x :: xs => D.py x :: D.pys xs
end
mutual
/-- no dict in it; at most so deep -/
def D.flat : Nat → D → Bool
  | _, .non => true
  | _, .bl _ => true
  | _, .int _ => true
  | _, .str _ => true
  | 0, .list _ => false
  | 0, .tup _ => false
  | k + 1, .list xs => D.flats k xs
  | k + 1, .tup xs => D.flats k xs
  | _, .dict _ => false
  | _, .box => false
def D.flats : Nat → List D → Bool
  | _, [] => true
  | k, x :: xs => D.flat k x && D.flats k xs
end
def D.isStr : D → Bool
  | .str _ => true
  | _ => false
def D.isBox : D → Bool
  | .box => true
  | _ => false
def D.eqb (x y : D) : Bool := PyData.eqv x.py y.py
/-- may be compared by == -/
def eqOk (x y : D) : Bool := (y.isStr && !x.isBox) || (x.flat 64 && y.flat 64) || (match x, y with
  | .tup _, .tup [] => true
  | _, _ => false)
def neOk (x y : D) : Bool := (y.isStr && !x.isBox) || (x.flat 64 && y.flat 64)
def D.scal : D → Bool
  | .non => true
  | .bl _ => true
  | .int _ => true
  | .str _ => true
  | _ => false
def inOk (x : D) (ys : List D) : Bool := (ys.all D.isStr && !x.isBox) || (x.flat 63 && D.flats 63 ys)
def D.truth : D → Option Bool
  | .non => some false
  | .bl b => some b
  | .int i => some (i != 0)
  | .str s => some ((s.length : Int) != 0)
  | .list xs => some (!xs.isEmpty)
  | .tup xs => some (!xs.isEmpty)
  | .dict xs => some (!xs.isEmpty)
  | .box => none
inductive BOp where
  | add | sub | mul | mod | fdiv | pow
inductive COp where
  | eq | ne | lt | le | gt | ge | is | isnot | inn | notin
def repL (xs : List D) : Nat → List D
  | 0 => []
  | k + 1 => xs ++ repL xs k
def repS (z : Str) (n : Nat) : Str := ⟨(List.replicate n z.cps).foldl (· ++ ·) #[]⟩
def small64 (i : Int) : Bool := decide (-(2 ^ 64) < i) && decide (i < 2 ^ 64)
def binop : BOp → D → D → Option D
  | .add, .int i, .int j => some (.int (i + j))
  | .add, .str a, .str c => if a.length + c.length ≤ sizeLine then some (.str (a ++ c)) else none
  | .add, .list a, .list c => if a.length + c.length ≤ sizeLine then some (.list (a ++ c)) else none
  | .add, .tup a, .tup c => if a.length + c.length ≤ sizeLine then some (.tup (a ++ c)) else none
  | .sub, .int i, .int j => some (.int (i - j))
  | .mul, .int i, .int j => if small64 i || small64 j then some (.int (i * j)) else none
  | .mul, .list a, .int j => if decide (-(2 ^ 63) ≤ j) && decide (j < 2 ^ 63) && decide (a.length * j.toNat ≤ sizeLine) then some (.list (repL a j.toNat)) else none
  | .mul, .str a, .int j => if decide (2 ≤ j) && decide (j ≤ 1000) && decide (1 ≤ a.length) && decide (a.length ≤ 1000) && decide ((repS a j.toNat).length ≤ sizeLine) then some (.str (repS a j.toNat)) else none
  | .mod, .int i, .int j => if 0 < j then some (.int (i % j)) else none
  | .fdiv, .int i, .int j => if decide (0 < j) && decide (j < 1073741824) then some (.int (i / j)) else none
  | .pow, .int i, .int j => if decide (0 ≤ j) && decide (j ≤ 1000000) && decide (i.natAbs < 2 ^ 64) then some (.int (i ^ j.toNat)) else none
  | _, _, _ => none
def inS (x z : Str) : Bool := !(PySem.Builtin.Str.occurrences z x 0 z.length 1).isEmpty
def cmpop : COp → D → D → Option Bool
  | .eq, x, y => if eqOk x y then some (x.eqb y) else none
  | .ne, x, y => if neOk x y then some (!x.eqb y) else none
  | .lt, .int i, .int j => some (decide (i < j))
  | .le, .int i, .int j => some (decide (i ≤ j))
  | .gt, .int i, .int j => some (decide (j < i))
  | .ge, .int i, .int j => some (decide (j ≤ i))
  | .is, x, .non => some (match x with
    | .non => true
    | _ => false)
  | .isnot, x, .non => some (match x with
    | .non => false
    | _ => true)
  | .is, .bl a, .bl c => some (decide (a = c))
  | .isnot, .bl a, .bl c => some (!decide (a = c))
  | .inn, x, .list ys => if inOk x ys then some (ys.any fun z => z.eqb x) else none
  | .inn, x, .tup ys => if inOk x ys then some (ys.any fun z => z.eqb x) else none
  | .notin, x, .list ys => if inOk x ys then some (!ys.any fun z => z.eqb x) else none
  | .notin, x, .tup ys => if inOk x ys then some (!ys.any fun z => z.eqb x) else none
  | .inn, .str x, .str z => some (inS x z)
  | .notin, .str x, .str z => some (!inS x z)
  | _, _, _ => none
def getI (x i : D) : Option D := match x, i with
  | .list xs, .int k => atI xs k
  | .tup xs, .int k => atI xs k
  | .str z, .int k => (atI z.cps.toList k).map fun c => .str ⟨#[c]⟩
  | _, _ => none
def cutD (xs : List D) (lo hi : Option Int) : List D := (xs.drop (HT.sIx xs.length 0 lo)).take (HT.sIx xs.length xs.length hi - HT.sIx xs.length 0 lo)
def slcD (x : D) (lo hi : Option Int) : Option D := match x with
  | .list xs => some (.list (cutD xs lo hi))
  | .tup xs => some (.tup (cutD xs lo hi))
  | .str z => some (.str (cutS z lo hi))
  | _ => none
/-- built-in classes, for isinstance -/
inductive Ty where
  | int | bool | str | list | tuple | dict
def D.isTy : D → Ty → Bool
  | .bl _, .bool => true
  | .bl _, .int => true
  | .int _, .int => true
  | .str _, .str => true
  | .list _, .list => true
  | .tup _, .tuple => true
  | .dict _, .dict => true
  | _, _ => false
def bools : List D → Option (List Bool)
  | [] => some []
  | .bl b :: r => (bools r).map (b :: ·)
  | _ :: _ => none
def strsD : List D → Option (List Str)
  | [] => some []
  | .str b :: r => (strsD r).map (b :: ·)
  | _ :: _ => none
inductive Bi where
  | len | tuple | list | all | any | int | abs
def biD : Bi → List D → Option D
  | .len, [.list xs] => some (.int xs.length)
  | .len, [.tup xs] => some (.int xs.length)
  | .len, [.str z] => some (.int z.length)
  | .len, [.dict xs] => some (.int xs.length)
  | .tuple, [.list xs] => some (.tup xs)
  | .tuple, [.tup xs] => some (.tup xs)
  | .list, [.list xs] => some (.list xs)
  | .list, [.tup xs] => some (.list xs)
  | .all, [.list xs] => (bools xs).map fun bs => .bl (bs.all id)
  | .any, [.list xs] => (bools xs).map fun bs => .bl (bs.any id)
  | .int, [.int i] => some (.int i)
  | .int, [.bl b] => some (.int (if b then 1 else 0))
  | .abs, [.int i] => some (.int (if i < 0 then -i else i))
  | _, _ => none
def joinD (z : Str) (x : D) : Option D := match x with
  | .list xs => match strsD xs with
    | some ys => if (ys.map (·.length)).sum + ys.length * z.length ≤ 16777216 then some (.str (Txt.join z ys)) else none
    | none => none
  | _ => none

/-- a key more, unless it is there -/
def more1 {K : Type} [DecidableEq K] (l : List K) (x : K) : List K := if x ∈ l then l else l ++ [x]
def unlike {K : Type} [DecidableEq K] (xs : List K) : List K := xs.foldl more1 []
/-! ### the language -/
inductive Tg where
  | one (i : Nat)
  | many (l : List Nat)
mutual
inductive IE where
  | bad
  | v (i : Nat)
  | k (d : D)
  | g (x : Str)
  | bin (op : BOp) (a c : IE)
  | neg (a : IE)
  | cmp (op : COp) (a c : IE)
  | chain (op op' : COp) (a c e : IE)
  | and (a : IAs)
  | or (a : IAs)
  | not (a : IE)
  | tand (a : IAs)
  | tor (a : IAs)
  | tnot (a : IE)
  | ite (c a e : IE)
  | lst (a : IAs)
  | tup (a : IAs)
  | ix (a i : IE)
  | slc (a : IE) (hl hh : Bool) (lo hi : IE)
  | rev (a : IE)
  | call (f : Str) (a : IAs)
  | stat (C m : Str) (a : IAs)
  | statk (C m : Str) (ks : List Str) (a : IAs)
  | bi (f : Bi) (a : IE)
  | lenset (a : IE)
  | isi (a : IE) (ts : List Ty)
  | comp (s : ISr) (t : Tg) (c : IE) (e : IE)
  | join (z : Str) (a : IE)
  | gget (x : Str) (a e : IE)
  | dis (ks : List Key) (a : IAs)
  | inO (neg : Bool) (a : IE) (i : Nat)
  | lenO (i : Nat)
  | cat (a c : IE)
inductive IAs where
  | nil
  | cons (e : IE) (r : IAs)
  | star (e : IE) (r : IAs)
inductive ISr where
  | ex (e : IE)
  | rng1 (a : IE)
  | rng2 (a c : IE)
  | enum (a : IE)
  | zip (a c : IE)
end
def IAs.isNil : IAs → Bool
  | .nil => true
  | _ => false
abbrev FS := List D → Nat → (D → Nat → Prop) → QX → Prop
structure Tab where
  fs : Str → Option FS
  gv : Str → Option D
  gd : Str → Option (List (Str × D))
  sm : Str → Str → Option (List Str × FS) := fun _ _ => none
def ofO {α : Type} (o : Option α) (Q : α → Prop) : Prop := match o with
  | some z => Q z
  | none => False
@[simp] theorem ofO_some {α : Type} (z : α) (Q : α → Prop) : ofO (some z) Q = Q z := rfl
@[simp] theorem ofO_none {α : Type} (Q : α → Prop) : ofO none Q = False := rfl
theorem ofO_iff {α : Type} {o : Option α} {Q : α → Prop} (h : ofO o Q) : ∃ z, o = some z ∧ Q z := by
  cases o with
  | none => exact h.elim
  | some z => exact ⟨z, rfl, h⟩
def setMany : List Ent → List Nat → List D → Option (List Ent)
  | r, [], [] => some r
  | r, i :: is, d :: ds => setMany (r.set i (.sh d)) is ds
  | _, _, _ => none
def bindT (t : Tg) (r : List Ent) (d : D) : Option (List Ent) := match t with
  | .one i => some (r.set i (.sh d))
  | .many is => match d with
    | .tup ds => setMany r is ds
    | _ => none
def iotaI (lo : Int) : Nat → List D
  | 0 => []
  | k + 1 => .int lo :: iotaI (lo + 1) k
def enumD (i : Int) : List D → List D
  | [] => []
  | d :: ds => .tup [.int i, d] :: enumD (i + 1) ds
def zipD : List D → List D → List D
  | x :: xs, y :: ys => .tup [x, y] :: zipD xs ys
  | _, _ => []
def signs (z : Str) : List D := z.cps.toList.map fun c => .str ⟨#[c]⟩
def itemsD : D → Option (List D)
  | .list xs => some xs
  | .tup xs => some xs
  | .str z => some (signs z)
  | _ => none
/-- a comprehension's turns -/
def compL (f : D → Nat → (Option D → Nat → Prop) → Prop) : List D → List D → Nat → (List D → Nat → Prop) → Prop
  | [], acc, n, Q => Q acc n
  | d :: ds, acc, n, Q => f d n fun o n1 => compL f ds (match o with
    | some y => acc ++ [y]
    | none => acc) n1 Q
/-- a list, one's own or not -/
def owL (r : List Ent) (i : Nat) : Option (List D) := match r[i]? with
  | some (.sh (.list ys)) => some ys
  | some (.ow (.list ys)) => some ys
  | _ => none
def noX : QX := fun _ _ => False
def optI (h : Bool) (x : D) : Option (Option Int) := if h then (match x with
  | .int i => some (some i)
  | _ => none) else some none
def keysD (ks : List Key) (xs : List D) : List (Key × D) := ks.zip xs
def wP (h : Bool) (w : (D → Nat → Prop) → Prop) (n : Nat) (k : Option Int → Nat → Prop) : Prop := if h = true then w (fun x n1 => match x with
    | .int i => k (some i) n1
    | _ => False) else k none n
/-- its truth -/
def tru (Q : Bool → Nat → Prop) : D → Nat → Prop := fun x n => ofO x.truth fun z => Q z n
mutual
def wE (T : Tab) : IE → List Ent → Nat → (D → Nat → Prop) → QX → Prop
  | .bad, _, _, _, _ => False
  | .v i, r, n, Q, _ => match r[i]? with
    | some (.sh d) => Q d n
    | _ => False
  | .k d, _, n, Q, _ => Q d n
  | .g x, _, n, Q, _ => ofO (T.gv x) fun d => Q d n
  | .bin op a c, r, n, Q, E => wE T a r n (fun x n1 => wE T c r n1 (fun y n2 => ofO (binop op x y) fun z => Q z n2) E) E
  | .neg a, r, n, Q, E => wE T a r n (fun x n1 => match x with
    | .int i => Q (.int (-i)) n1
    | _ => False) E
  | .cmp op a c, r, n, Q, E => wE T a r n (fun x n1 => wE T c r n1 (fun y n2 => ofO (cmpop op x y) fun z => Q (.bl z) n2) E) E
  | .chain op op' a c e, r, n, Q, E => wE T a r n (fun x n1 => wE T c r n1 (fun y n2 => ofO (cmpop op x y) fun z => if z = true then wE T e r n2 (fun w n3 => ofO (cmpop op' y w) fun z' => Q (.bl z') n3) E else Q (.bl false) n2) E) E
  | .and a, r, n, Q, E => wAnd T a r n Q E
  | .or a, r, n, Q, E => wOr T a r n Q E
  | .not a, r, n, Q, E => wE T a r n (fun x n1 => ofO x.truth fun z => Q (.bl (!z)) n1) E
  | .tand a, r, n, Q, E => wAndT T a r n Q E
  | .tor a, r, n, Q, E => wOrT T a r n Q E
  | .tnot a, r, n, Q, E => wE T a r n (tru fun z n1 => Q (.bl (!z)) n1) E
  | .ite c a e, r, n, Q, E => wE T c r n (tru fun z n1 => if z = true then wE T a r n1 Q E else wE T e r n1 Q E) E
  | .lst a, r, n, Q, E => wA T a r n (fun xs n1 => xs.length ≤ sizeLine ∧ Q (.list xs) n1) E
  | .tup a, r, n, Q, E => wA T a r n (fun xs n1 => xs.length ≤ sizeLine ∧ Q (.tup xs) n1) E
  | .ix a i, r, n, Q, E => wE T a r n (fun x n1 => wE T i r n1 (fun y n2 => ofO (getI x y) fun z => Q z n2) E) E
  | .slc a hl hh lo hi, r, n, Q, E => wE T a r n (fun x n1 => wP hl (fun q => wE T lo r n1 q E) n1 fun l n2 => wP hh (fun q => wE T hi r n2 q E) n2 fun h n3 => ofO (slcD x l h) fun z => Q z n3) E
  | .rev a, r, n, Q, E => wE T a r n (fun x n1 => match x with
    | .list xs => Q (.list xs.reverse) n1
    | .tup xs => Q (.tup xs.reverse) n1
    | _ => False) E
  | .call f a, r, n, Q, E => ofO (T.fs f) fun sp => wA T a r n (fun xs n1 => sp xs n1 Q E) E
  | .stat C m a, r, n, Q, E => ofO (T.sm C m) fun sp => wA T a r n (fun xs n1 => sp.2 xs n1 Q noX) E
  | .statk C m ks a, r, n, Q, E => ofO (T.sm C m) fun sp => sp.1 = ks ∧ wA T a r n (fun xs n1 => sp.2 xs n1 Q noX) E
  | .bi f a, r, n, Q, E => wE T a r n (fun x n1 => ofO (biD f [x]) fun z => Q z n1) E
  | .lenset a, r, n, Q, E => wE T a r n (fun x n1 => match x with
    | .tup xs => ofO (strsD xs) fun ys => ys.length ≤ 1000 ∧ Q (.int ((unlike ys).length : Nat)) n1
    | _ => False) E
  | .isi a ts, r, n, Q, E => wE T a r n (fun x n1 => x.isBox = false ∧ Q (.bl (ts.any fun t => x.isTy t)) n1) E
  | .comp s t c e, r, n, Q, E => wI T s r n (fun ds n1 => compL (fun d m k => ofO (bindT t r d) fun r' => wE T c r' m (tru fun z m1 => if z = true then wE T e r' m1 (fun y m2 => k (some y) m2) noX else k none m1) noX) ds [] n1 fun xs n2 => Q (.list xs) n2) E
  | .join z a, r, n, Q, E => wE T a r n (fun x n1 => ofO (joinD z x) fun y => Q y n1) E
  | .gget x a e, r, n, Q, E => ofO (T.gd x) fun kv => wE T a r n (fun y n1 => wE T e r n1 (fun w n2 => match y with
    | .str k => Q ((kv.lookup k).getD w) n2
    | _ => False) E) E
  | .dis ks a, r, n, Q, E => wA T a r n (fun xs n1 => ks.length = xs.length ∧ ks.Nodup ∧ ks.length ≤ 15 ∧ Q (.dict (keysD ks xs)) n1) E
  | .inO neg a i, r, n, Q, E => wE T a r n (fun x n1 => ofO (owL r i) fun ys => inOk x ys = true ∧ Q (.bl (if neg then !ys.any fun z => z.eqb x else ys.any fun z => z.eqb x)) n1) E
  | .lenO i, r, n, Q, _ => ofO (owL r i) fun ys => Q (.int ys.length) n
  | .cat a c, r, n, Q, E => wE T a r n (fun x n1 => wE T c r n1 (fun y n2 => match x, y with
    | .list xs, .list ys => xs.length + ys.length ≤ sizeLine ∧ Q (.list (xs ++ ys)) n2
    | _, _ => False) E) E
def wAnd (T : Tab) : IAs → List Ent → Nat → (D → Nat → Prop) → QX → Prop
  | .nil, _, _, _, _ => False
  | .star _ _, _, _, _, _ => False
  | .cons e rest, r, n, Q, E => if rest.isNil = true then wE T e r n Q E else wE T e r n (fun x n1 => ofO x.truth fun z => if z = true then wAnd T rest r n1 Q E else Q x n1) E
def wOr (T : Tab) : IAs → List Ent → Nat → (D → Nat → Prop) → QX → Prop
  | .nil, _, _, _, _ => False
  | .star _ _, _, _, _, _ => False
  | .cons e rest, r, n, Q, E => if rest.isNil = true then wE T e r n Q E else wE T e r n (fun x n1 => ofO x.truth fun z => if z = true then Q x n1 else wOr T rest r n1 Q E) E
/-- as tests -/
def wAndT (T : Tab) : IAs → List Ent → Nat → (D → Nat → Prop) → QX → Prop
  | .nil, _, _, _, _ => False
  | .star _ _, _, _, _, _ => False
  | .cons e rest, r, n, Q, E => wE T e r n (tru fun z n1 => if rest.isNil = true then Q (.bl z) n1 else if z = true then wAndT T rest r n1 Q E else Q (.bl false) n1) E
def wOrT (T : Tab) : IAs → List Ent → Nat → (D → Nat → Prop) → QX → Prop
  | .nil, _, _, _, _ => False
  | .star _ _, _, _, _, _ => False
  | .cons e rest, r, n, Q, E => wE T e r n (tru fun z n1 => if rest.isNil = true then Q (.bl z) n1 else if z = true then Q (.bl true) n1 else wOrT T rest r n1 Q E) E
def wA (T : Tab) : IAs → List Ent → Nat → (List D → Nat → Prop) → QX → Prop
  | .nil, _, n, Q, _ => Q [] n
  | .cons e rest, r, n, Q, E => wE T e r n (fun x n1 => wA T rest r n1 (fun xs n2 => Q (x :: xs) n2) E) E
  | .star e rest, r, n, Q, E => wE T e r n (fun x n1 => match x with
    | .list ys => wA T rest r n1 (fun xs n2 => Q (ys ++ xs) n2) E
    | .tup ys => wA T rest r n1 (fun xs n2 => Q (ys ++ xs) n2) E
    | _ => False) E
def wI (T : Tab) : ISr → List Ent → Nat → (List D → Nat → Prop) → QX → Prop
  | .ex e, r, n, Q, E => wE T e r n (fun x n1 => ofO (itemsD x) fun ds => Q ds n1) E
  | .rng1 a, r, n, Q, E => wE T a r n (fun x n1 => match x with
    | .int j => j < 16777216 ∧ -(2 ^ 62) ≤ j ∧ Q (iotaI 0 j.toNat) n1
    | _ => False) E
  | .rng2 a c, r, n, Q, E => wE T a r n (fun x n1 => wE T c r n1 (fun y n2 => match x, y with
    | .int i, .int j => j - i < 16777216 ∧ -(2 ^ 62) ≤ i ∧ i < 2 ^ 62 ∧ -(2 ^ 62) ≤ j ∧ j < 2 ^ 62 ∧ Q (iotaI i (j - i).toNat) n2
    | _, _ => False) E) E
  | .enum a, r, n, Q, E => wE T a r n (fun x n1 => match x with
    | .list xs => Q (enumD 0 xs) n1
    | _ => False) E
  | .zip a c, r, n, Q, E => wE T a r n (fun x n1 => wE T c r n1 (fun y n2 => match x, y with
    | .list xs, .list ys => Q (zipD xs ys) n2
    | .tup xs, .tup ys => Q (zipD xs ys) n2
    | _, _ => False) E) E
end
end Dl

set_option Elab.async false
set_option linter.all false
set_option maxRecDepth 100000
set_option maxHeartbeats 4000000
/-! The operators on data. -/
namespace Dl
open PySem PySem.Spec PyProof.Rows L2
def lr2 (K : PySem.W.Frag) (f : D → D → Option D) : R2 := fun x y H Q => ∃ b G n dx dy z, Ok b G H n ∧ Rp K b G x dx ∧ Rp K b G y dy ∧ f dx dy = some z ∧ ∀ v G' H', Stp b G H G' H' n → Rp K b G' v z → Q v H'
section
variable {K : PySem.W.Frag} {b : Option Addr} {G H : Hp} {n : Nat}
theorem Rps.rep {xs : List V} {ds : List D} (h : Rps K b G xs ds) : ∀ k, Rps K b G ((List.replicate k xs).flatten) (repL ds k)
  | 0 => .nil
  | k + 1 => by
    rw [List.replicate_succ, List.flatten_cons]
    exact h.append (Rps.rep h k)
theorem strOk_app {x y : Str} (hx : PyData.strOk x = true) (hy : PyData.strOk y = true) : PyData.strOk (x ++ y) = true := by
  unfold PyData.strOk at *
  show (x.cps ++ y.cps).all _ = true
  rw [Array.all_append, hx, hy]
  rfl
theorem len_app (x y : Str) : (x ++ y).length = x.length + y.length := by
  show (x.cps ++ y.cps).size = _
  rw [Array.size_append]
  rfl
theorem rp_list_inv {v : V} {ds : List D} (h : Rp K b G v (.list ds)) : ∃ a xs, v = .ref a ∧ G a = some (.lst xs) ∧ xs.length ≤ sizeLine ∧ Rps K b G xs ds := by
  cases h with
  | list h z g => exact ⟨_, _, rfl, h, z, g⟩
theorem rp_tup_inv {v : V} {ds : List D} (h : Rp K b G v (.tup ds)) : ∃ a xs, v = .ref a ∧ SqT K G a xs ∧ xs.length ≤ sizeLine ∧ Rps K b G xs ds := by
  cases h with
  | tup h z g => exact ⟨_, _, rfl, h, z, g⟩
theorem rp_int_inv {v : V} {i : Int} (h : Rp K b G v (.int i)) : v = .int i := by
  cases h
  rfl
theorem rp_bl_inv {v : V} {i : Bool} (h : Rp K b G v (.bl i)) : v = .bl i := by
  cases h
  rfl
theorem rp_non_inv {v : V} (h : Rp K b G v .non) : v = .non := by
  cases h
  rfl
theorem rp_str_inv {v : V} {z : Str} (h : Rp K b G v (.str z)) : v = .str z ∧ z.length ≤ sizeLine ∧ PyData.strOk z = true := by
  cases h with
  | str x z o => exact ⟨rfl, z, o⟩
theorem rp_new_list (ok : Ok b G H n) {p : Addr} (np : H p = none) {xs : List V} {ds : List D} (g : Rps K b G xs ds) (z : xs.length ≤ sizeLine) : Stp b G H (upd G p (.lst xs)) (upd H p (.lst xs)) n ∧ Rp K b (upd G p (.lst xs)) (.ref p) (.list ds) :=
  ⟨Stp.new ok np, .list upd_same z (g.mono (same_upd (ok.sub.free np)))⟩
theorem rp_new_tup (ok : Ok b G H n) {p : Addr} (np : H p = none) {xs : List V} {ds : List D} (g : Rps K b G xs ds) (z : xs.length ≤ sizeLine) : Stp b G H (upd G p (.tup xs)) (upd H p (.tup xs)) n ∧ Rp K b (upd G p (.tup xs)) (.ref p) (.tup ds) :=
  ⟨Stp.new ok np, .tup (.inl (.inl upd_same)) z (g.mono (same_upd (ok.sub.free np)))⟩
end
section
variable {X : Cx}
theorem dop_add : OpR X (binaryOp .Add) (lr2 X.K (binop .add)) := by
  intro pins s a H x y v u Q I rx ry ⟨b, G, n, dx, dy, z, ok, hx, hy, e, q⟩
  cases dx <;> cases dy <;> first | (simp [binop] at e; done) | skip
  · have ex := rp_int_inv hx
    have ey := rp_int_inv hy
    subst ex ey
    simp only [binop, Option.some.injEq] at e
    subst e
    exact op_add pins s a H _ _ v u Q I rx ry ⟨_, _, rfl, rfl, q _ G H (Stp.refl ok) (.int _)⟩
  · obtain ⟨ex, zx, ox⟩ := rp_str_inv hx
    obtain ⟨ey, zy, oy⟩ := rp_str_inv hy
    subst ex ey
    simp only [binop, Option.ite_none_right_eq_some, Option.some.injEq] at e
    obtain ⟨c, e⟩ := e
    subst e
    exact op_add_str pins s a H _ _ v u Q I rx ry ⟨_, _, rfl, rfl, c, q _ G H (Stp.refl ok) (.str _ (by rw [len_app]; exact c) (strOk_app ox oy))⟩
  · obtain ⟨l, xs, rfl, hl, z1, g1⟩ := rp_list_inv hx
    obtain ⟨m, ys, rfl, hm, z2, g2⟩ := rp_list_inv hy
    simp only [binop, Option.ite_none_right_eq_some, Option.some.injEq] at e
    obtain ⟨c, e⟩ := e
    subst e
    rw [← g1.length, ← g2.length] at c
    refine op_cat pins s a H _ _ v u Q I rx ry ⟨l, m, xs, ys, rfl, rfl, ok.sub _ _ hl, ok.sub _ _ hm, c, fun p np => ?_⟩
    obtain ⟨s1, r1⟩ := rp_new_list ok np (g1.append g2) (by rw [List.length_append]; exact c)
    exact q _ _ _ s1 r1
  · obtain ⟨l, xs, rfl, hl, z1, g1⟩ := rp_tup_inv hx
    obtain ⟨m, ys, rfl, hm, z2, g2⟩ := rp_tup_inv hy
    simp only [binop, Option.ite_none_right_eq_some, Option.some.injEq] at e
    obtain ⟨c, e⟩ := e
    subst e
    rw [← g1.length, ← g2.length] at c
    refine op_catA pins s a H _ _ v u Q I rx ry ⟨l, m, xs, ys, rfl, rfl, sqt_same ok.sub hl, sqt_same ok.sub hm, c, fun e => ?_, fun _ e => ?_, fun _ _ p np => ?_⟩
    · subst e
      cases g1
      exact q _ _ _ (Stp.refl ok) (.tup hm z2 g2)
    · subst e
      cases g2
      rw [List.append_nil] at q
      exact q _ _ _ (Stp.refl ok) (.tup hl z1 g1)
    · obtain ⟨s1, r1⟩ := rp_new_tup ok np (g1.append g2) (by rw [List.length_append]; exact c)
      exact q _ _ _ s1 r1
theorem dop_sub : OpR X (binaryOp .Sub) (lr2 X.K (binop .sub)) := by
  intro pins s a H x y v u Q I rx ry ⟨b, G, n, dx, dy, z, ok, hx, hy, e, q⟩
  cases dx <;> cases dy <;> first | (simp [binop] at e; done) | skip
  have ex := rp_int_inv hx
  have ey := rp_int_inv hy
  subst ex ey
  simp only [binop, Option.some.injEq] at e
  subst e
  exact op_sub pins s a H _ _ v u Q I rx ry ⟨_, _, rfl, rfl, q _ G H (Stp.refl ok) (.int _)⟩
theorem small_iff {i : Int} (h : small64 i = true) : -(2 ^ 64) < i ∧ i < 2 ^ 64 := by
  unfold small64 at h
  simpa using h
theorem foldl_all {p : Nat → Bool} {z : Array Nat} (h : z.all p = true) : ∀ (k : Nat) (acc : Array Nat), acc.all p = true → ((List.replicate k z).foldl (· ++ ·) acc).all p = true
  | 0, acc, ha => ha
  | k + 1, acc, ha => by
    rw [List.replicate_succ, List.foldl_cons]
    exact foldl_all h k _ (by rw [Array.all_append, ha, h]; rfl)
theorem dop_mul : OpR X (binaryOp .Mult) (lr2 X.K (binop .mul)) := by
  intro pins s a H x y v u Q I rx ry ⟨b, G, n, dx, dy, z, ok, hx, hy, e, q⟩
  cases dx <;> cases dy <;> first | (simp [binop] at e; done) | skip
  · have ex := rp_int_inv hx
    have ey := rp_int_inv hy
    subst ex ey
    simp only [binop, Option.ite_none_right_eq_some, Option.some.injEq, Bool.or_eq_true] at e
    obtain ⟨c, e⟩ := e
    subst e
    exact op_mul pins s a H _ _ v u Q I rx ry ⟨_, _, rfl, rfl, c.imp small_iff small_iff, q _ G H (Stp.refl ok) (.int _)⟩
  · obtain ⟨ex, zx, ox⟩ := rp_str_inv hx
    have ey := rp_int_inv hy
    subst ex ey
    rename_i st i
    simp only [binop, Option.ite_none_right_eq_some, Option.some.injEq, Bool.and_eq_true, decide_eq_true_eq] at e
    obtain ⟨⟨⟨⟨⟨c1, c2⟩, c3⟩, c4⟩, c5⟩, e⟩ := e
    subst e
    obtain ⟨t, rfl⟩ := rx
    obtain ⟨t', rfl⟩ := ry
    have d1 : ¬ i < 1 := by omega
    have d2 : (i == 1 || st.length == 0) = false := by
      have e1 : (i == 1) = false := by simp; omega
      have e2 : (st.length == 0) = false := by simp; omega
      rw [e1, e2] <;> rfl
    refine PySem.P.mul_str (by
        have a1 : ¬ i < -(2 ^ 63 : Int) := by omega
        have a2 : ¬ i ≥ 2 ^ 63 := by omega
        rw [decide_eq_false a1, decide_eq_false a2] <;> rfl) (fun _ _ => ?_) (fun _ _ => ?_) ?_
    · have : (1000 : Int) ≤ (2 ^ 63 - 1) / i := by
        rw [Int.le_ediv_iff_mul_le (by omega)]
        omega
      omega
    · have : st.length * i.toNat ≤ 1000 * 1000 := Nat.mul_le_mul c4 (by omega)
      unfold Builtin.Str.tooLong
      simp only [decide_eq_false_iff_not]
      have e := sizeLine_eq
      omega
    · rw [if_neg d1, if_neg (by rw [d2]; exact Bool.false_ne_true)]
      exact ⟨c5, ⟨.str (repS st i.toNat), H, I.tok _, ⟨_, rfl⟩, q _ G H (Stp.refl ok) (.str _ c5 (foldl_all ox _ _ (by simp)))⟩⟩
  · obtain ⟨l, xs, rfl, hl, z1, g1⟩ := rp_list_inv hx
    have ey := rp_int_inv hy
    subst ey
    simp only [binop, Option.ite_none_right_eq_some, Option.some.injEq, Bool.and_eq_true, decide_eq_true_eq] at e
    obtain ⟨⟨⟨c1, c2⟩, c3⟩, e⟩ := e
    subst e
    rw [← g1.length] at c3
    refine op_rep pins s a H _ _ v u Q I rx ry ⟨l, _, xs, rfl, rfl, ok.sub _ _ hl, c1, c2, c3, fun p np => ?_⟩
    obtain ⟨s1, r1⟩ := rp_new_list ok np (g1.rep _) (by rw [List.length_flatten, List.map_replicate, List.sum_replicate_nat, Nat.mul_comm]; exact c3)
    exact q _ _ _ s1 r1
theorem dop_mod : OpR X (binaryOp .Mod) (lr2 X.K (binop .mod)) := by
  intro pins s a H x y v u Q I rx ry ⟨b, G, n, dx, dy, z, ok, hx, hy, e, q⟩
  cases dx <;> cases dy <;> first | (simp [binop] at e; done) | skip
  have ex := rp_int_inv hx
  have ey := rp_int_inv hy
  subst ex ey
  simp only [binop, Option.ite_none_right_eq_some, Option.some.injEq] at e
  obtain ⟨c, e⟩ := e
  subst e
  exact op_mod pins s a H _ _ v u Q I rx ry ⟨_, _, rfl, rfl, c, q _ G H (Stp.refl ok) (.int _)⟩
theorem dop_fdiv : OpR X (binaryOp .FloorDiv) (lr2 X.K (binop .fdiv)) := by
  intro pins s a H x y v u Q I rx ry ⟨b, G, n, dx, dy, z, ok, hx, hy, e, q⟩
  cases dx <;> cases dy <;> first | (simp [binop] at e; done) | skip
  have ex := rp_int_inv hx
  have ey := rp_int_inv hy
  subst ex ey
  simp only [binop, Option.ite_none_right_eq_some, Option.some.injEq, Bool.and_eq_true, decide_eq_true_eq] at e
  obtain ⟨⟨c1, c2⟩, e⟩ := e
  subst e
  exact op_fdiv pins s a H _ _ v u Q I rx ry ⟨_, _, rfl, rfl, ⟨c1, c2⟩, q _ G H (Stp.refl ok) (.int _)⟩
theorem dop_pow : OpR X (binaryOp .Pow) (lr2 X.K (binop .pow)) := by
  intro pins s a H x y v u Q I rx ry ⟨b, G, n, dx, dy, z, ok, hx, hy, e, q⟩
  cases dx <;> cases dy <;> first | (simp [binop] at e; done) | skip
  have ex := rp_int_inv hx
  have ey := rp_int_inv hy
  subst ex ey
  simp only [binop, Option.ite_none_right_eq_some, Option.some.injEq, Bool.and_eq_true, decide_eq_true_eq] at e
  obtain ⟨⟨⟨c1, c2⟩, c3⟩, e⟩ := e
  subst e
  exact op_pow pins s a H _ _ v u Q I rx ry ⟨_, _, rfl, rfl, ⟨c1, c2, c3⟩, q _ G H (Stp.refl ok) (.int _)⟩
end
end Dl

set_option Elab.async false
set_option linter.all false
set_option maxRecDepth 100000
set_option maxHeartbeats 4000000
/-! Comparisons of data. -/
namespace PySem.SgX
open PySem.SeqAt PySem.MeetsSeq
open AutoSeq1 (wpAny_loadPart')
theorem dict_no_str (l : Addr) (es : Array DictEntry) (n : Nat) (dd : Option Addr) (sl : Array (Option Value)) (b : Str) (u : Tok) :
    Meets (Builtin.«dict.__eq__» ⟨[.ref l, .str b u], []⟩) (fun _ R s => s.heap.get? l = some { cls := .type "dict", dict := dd, data := .dict es n, slots := sl } ∧ R (.ok (.ret .notImplemented)) s) :=
  .of_wp fun prog w A R s h => by
    obtain ⟨hp, g, d, tk, os⟩ := s
    obtain ⟨hl, h⟩ := h
    have f1 := F.sub_str_dict
    wp_walk using wpAny_loadPart' hl
    exact ⟨_, rfl, h⟩
theorem str_no_dict (b : Str) (u : Tok) (l : Addr) (c : Value) (es : Array DictEntry) (n : Nat) (dd : Option Addr) (sl : Array (Option Value)) :
    Meets (Builtin.«str.__eq__» ⟨[.str b u, .ref l], []⟩) (fun _ R s => s.heap.get? l = some { cls := c, dict := dd, data := .dict es n, slots := sl } ∧ R (.ok (.ret .notImplemented)) s) :=
  .of_wp fun prog w A R s h => by
    obtain ⟨hp, g, d, tk, os⟩ := s
    obtain ⟨hl, h⟩ := h
    wp_walk using wpAny_loadPart' hl, wpAny_load hl
    exact ⟨_, rfl, h⟩
theorem dict_not_str (l : Addr) (es : Array DictEntry) (n : Nat) (dd : Option Addr) (sl : Array (Option Value)) (b : Str) (u : Tok) :
    Meets (Builtin.«dict.__ne__» ⟨[.ref l, .str b u], []⟩) (fun _ R s => s.heap.get? l = some { cls := .type "dict", dict := dd, data := .dict es n, slots := sl } ∧ R (.ok (.ret .notImplemented)) s) :=
  .of_wp fun prog w A R s h => by
    obtain ⟨hp, g, d, tk, os⟩ := s
    obtain ⟨hl, h⟩ := h
    have f1 := F.sub_str_dict
    wp_walk using wpAny_loadPart' hl
    exact ⟨_, rfl, h⟩
theorem str_not_dict (b : Str) (u : Tok) (l : Addr) (c : Value) (es : Array DictEntry) (n : Nat) (dd : Option Addr) (sl : Array (Option Value)) :
    Meets (Builtin.«str.__ne__» ⟨[.str b u, .ref l], []⟩) (fun _ R s => s.heap.get? l = some { cls := c, dict := dd, data := .dict es n, slots := sl } ∧ R (.ok (.ret .notImplemented)) s) :=
  .of_wp fun prog w A R s h => by
    obtain ⟨hp, g, d, tk, os⟩ := s
    obtain ⟨hl, h⟩ := h
    wp_walk using wpAny_loadPart' hl, wpAny_load hl
    exact ⟨_, rfl, h⟩
section
variable {A : Around} {s : Shared}
theorem rn_dict_str {l : Addr} {es : Array DictEntry} {n : Nat} {dd : Option Addr} {sl : Array (Option Value)} (b : Str) (u : Tok) (ho : s.heap.get? l = some { cls := .type "dict", dict := dd, data := .dict es n, slots := sl }) (hu : A.units < cLine) : RcNeAt A s (.ref l) (.str b u) true := fun prog w E Q h =>
  rc_ne_decline_or (k := false) ⟨_, ho, rfl⟩ (typeIs_str s b u) (by decide) F.sub_str_dict F.slot_dict_ne F.slot_str_ne_refl
    (fun _ hq => call_meets F.slot_dict_ne ⟨_, ho, rfl⟩ F.entry_dict_ne (F.args_dict_ne_2 _ _) (dict_not_str l es n dd sl b u) ⟨ho, hq⟩)
    (fun _ hq => call_meets F.slot_str_ne_refl (typeIs_str s b u) F.entry_str_ne (F.args_str_ne_2 _ _) (str_not_dict b u l (.type "dict") es n dd sl) ⟨ho, hq⟩)
    (fun _ hq => wpAny_of_eq (rfl : isSame (.ref l) (.str b u) = pure false) hq) (.inr hu) h
theorem rc_dict_str {l : Addr} {es : Array DictEntry} {n : Nat} {dd : Option Addr} {sl : Array (Option Value)} (b : Str) (u : Tok) (ho : s.heap.get? l = some { cls := .type "dict", dict := dd, data := .dict es n, slots := sl }) (hu : A.units < cLine) : RcAt A s (.ref l) (.str b u) false := fun prog w E Q h =>
  rc_eq_decline_or (k := false) ⟨_, ho, rfl⟩ (typeIs_str s b u) (by decide) F.sub_str_dict F.slot_dict_eq F.slot_str_eq_refl
    (fun _ hq => call_meets F.slot_dict_eq ⟨_, ho, rfl⟩ F.entry_dict_eq (F.args_dict_eq_2 _ _) (dict_no_str l es n dd sl b u) ⟨ho, hq⟩)
    (fun _ hq => call_meets F.slot_str_eq_refl (typeIs_str s b u) F.entry_str_eq (F.args_str_eq_2 _ _) (str_no_dict b u l (.type "dict") es n dd sl) ⟨ho, hq⟩)
    (fun _ hq => wpAny_of_eq (rfl : isSame (.ref l) (.str b u) = pure false) hq) (.inr hu) h
theorem rc_str_dict {l : Addr} {es : Array DictEntry} {n : Nat} {dd : Option Addr} {sl : Array (Option Value)} (b : Str) (u : Tok) (ho : s.heap.get? l = some { cls := .type "dict", dict := dd, data := .dict es n, slots := sl }) (hu : A.units < cLine) : RcAt A s (.str b u) (.ref l) false := fun prog w E Q h =>
  rc_eq_decline_or (k := false) (typeIs_str s b u) ⟨_, ho, rfl⟩ (by decide) F.sub_dict_str F.slot_str_eq F.slot_dict_eq_refl
    (fun _ hq => call_meets F.slot_str_eq (typeIs_str s b u) F.entry_str_eq (F.args_str_eq_2 _ _) (str_no_dict b u l (.type "dict") es n dd sl) ⟨ho, hq⟩)
    (fun _ hq => call_meets F.slot_dict_eq_refl ⟨_, ho, rfl⟩ F.entry_dict_eq (F.args_dict_eq_2 _ _) (dict_no_str l es n dd sl b u) ⟨ho, hq⟩)
    (fun _ hq => wpAny_of_eq (rfl : isSame (.str b u) (.ref l) = pure false) hq) (.inr hu) h
theorem eq_str_dict {l : Addr} {es : Array DictEntry} {n : Nat} {dd : Option Addr} {sl : Array (Option Value)} (b : Str) (u : Tok) (ho : s.heap.get? l = some { cls := .type "dict", dict := dd, data := .dict es n, slots := sl }) (hu : A.units < cLine) : EqAt A s (.str b u) (.ref l) false := fun prog w E Q h => by
  unfold eqBool
  refine wpAny_holding (wpAny_ite_split (fun z => absurd (eq_of_beq z) nofun) fun _ => ?_)
  exact wpAny_bind (rc_str_dict b u ho hu prog w E _ (wpAny_truthy_bool h))
end
end PySem.SgX
namespace Dl
open PySem PySem.Spec PyProof.Rows L2 PySem.SeqAt
theorem hod_dK {X : Cx} {pins : List (Addr × Obj)} {a0 : L2.St} {H : Hp} {s : Shared} (I : L2.Inv X pins a0 H s) {a : Addr} {kvs : List (Key × V)} (h : H a = some (.dK kvs)) : ∃ dd es n sl, s.heap.get? a = some ⟨.type "dict", dd, .dict es n, sl⟩ := by
  obtain ⟨_, _, _, _, ⟨oc, od, dt, sl⟩, es, n, e, x, ed, _⟩ := (show ObjOk X.prog X.w H s.heap a (.dK kvs) from I.hok a _ h)
  simp only at ed
  subst ed
  obtain ⟨c, _⟩ := x
  simp only at c
  subst c
  exact ⟨_, _, _, _, e⟩
section
variable {K : PySem.W.Frag} {b : Option Addr} {G H : Hp}
mutual
theorem flat_dp (s : Same G H) : ∀ (k : Nat) (d : D) (v : V), Rp K b G v d → d.flat k = true → Dp K H v d.py ∧ PyData.canLay0 d.py = true ∧ d.py.depth ≤ k
  | k, .non, v, h, _ => by
    cases h
    exact ⟨.non, rfl, Nat.zero_le _⟩
  | k, .bl x, v, h, _ => by
    cases h
    exact ⟨.bl _, rfl, Nat.zero_le _⟩
  | k, .int x, v, h, _ => by
    cases h
    exact ⟨.int _, rfl, Nat.zero_le _⟩
  | k, .str x, v, h, _ => by
    cases h with
    | str x z o => exact ⟨.str _, by rw [D.py, PyData.canLay0]; exact o, Nat.zero_le _⟩
  | 0, .list xs, v, h, f => by simp [D.flat] at f
  | 0, .tup xs, v, h, f => by simp [D.flat] at f
  | k + 1, .list xs, v, h, f => by
    obtain ⟨a, ws, rfl, hl, z, g⟩ := rp_list_inv h
    rw [D.flat] at f
    obtain ⟨h1, h2, h3⟩ := flats_dp s k xs ws g f
    refine ⟨by rw [D.py]; exact .lst (SqL.of (s _ _ hl)) h1, by rw [D.py, PyData.canLay0]; exact h2, by rw [D.py, PyData.depth]; omega⟩
  | k + 1, .tup xs, v, h, f => by
    obtain ⟨a, ws, rfl, hl, z, g⟩ := rp_tup_inv h
    rw [D.flat] at f
    obtain ⟨h1, h2, h3⟩ := flats_dp s k xs ws g f
    refine ⟨by rw [D.py]; exact .tup (sqt_same s hl) h1, by rw [D.py, PyData.canLay0]; exact h2, by rw [D.py, PyData.depth]; omega⟩
  | k, .dict xs, v, h, f => by simp [D.flat] at f
  | k, .box, v, h, f => by simp [D.flat] at f
theorem flats_dp (s : Same G H) : ∀ (k : Nat) (ds : List D) (vs : List V), Rps K b G vs ds → D.flats k ds = true → DpAll K H vs (D.pys ds) ∧ PyData.canLayAll0 (D.pys ds) = true ∧ PyData.depthAll (D.pys ds) ≤ k
  | k, [], vs, h, _ => by
    cases h
    exact ⟨.nil, rfl, Nat.zero_le _⟩
  | k, d :: ds, vs, h, f => by
    cases h with
    | cons h g =>
      rw [D.flats, Bool.and_eq_true] at f
      obtain ⟨a1, a2, a3⟩ := flat_dp s k d _ h f.1
      obtain ⟨b1, b2, b3⟩ := flats_dp s k ds _ g f.2
      refine ⟨by rw [D.pys]; exact .cons a1 b1, by rw [D.pys, PyData.canLayAll0, a2, b2]; rfl, by rw [D.pys, PyData.depthAll]; omega⟩
end
theorem pys_length (xs : List D) : (D.pys xs).length = xs.length := by
  induction xs with
  | nil => rfl
  | cons x xs ih => rw [D.pys, List.length_cons, List.length_cons, ih]
theorem pys_any (f : PyData → Bool) (xs : List D) : (D.pys xs).any f = xs.any fun z => f z.py := by
  induction xs with
  | nil => rfl
  | cons x xs ih => rw [D.pys, List.any_cons, List.any_cons, ih]
end
/-- is it this text? -/
theorem eqb_str_r (d : D) (x : Str) : d.eqb (.str x) = (match d with
  | .str y => y == x
  | _ => false) := by
  cases d <;> simp [D.eqb, D.py, PyData.eqv]
theorem eqb_str_l (d : D) (x : Str) : (D.str x).eqb d = (match d with
  | .str y => x == y
  | _ => false) := by
  cases d <;> simp [D.eqb, D.py, PyData.eqv]
section
variable {X : Cx} {pins : List (Addr × Obj)} {a0 : L2.St} {H G : Hp} {s : Shared} {v : V} {d : D} {u : Value} {A : Around} {b0 : Option Addr}
theorem rc_q (I : L2.Inv X pins a0 H s) (sm : Same G H) (h : Rp X.K b0 G v d) (nb : d.isBox = false) (r : L2.RelV v u) (hu : A.units < cLine) (b : Str) (t : Tok) : RcAt A s u (.str b t) (d.eqb (.str b)) := by
  rw [eqb_str_r]
  cases h with
  | non => cases r; exact RcAt.none_str b t
  | bl x => cases r; exact RcAt.bool_str x b t
  | int i =>
    obtain ⟨k, rfl⟩ := r
    exact RcAt.int_str i k b t
  | str x z o =>
    obtain ⟨k, rfl⟩ := r
    exact RcAt.str_str x k b t
  | list hs _ _ =>
    cases r
    obtain ⟨its, rv, p, hz⟩ := I.list (SqL.of (sm _ _ hs))
    exact RcAt.list_str b t p.isList hu
  | tup hs _ _ =>
    cases r
    obtain ⟨its, rv, p, hz⟩ := I.tuple (sqt_same sm hs)
    exact RcAt.tuple_str b t p hu
  | dict hs _ _ =>
    cases r
    obtain ⟨dd, es, n, sl, e⟩ := hod_dK I (sm _ _ hs)
    exact PySem.SgX.rc_dict_str b t e hu
  | box => cases nb
theorem rn_q (I : L2.Inv X pins a0 H s) (sm : Same G H) (h : Rp X.K b0 G v d) (nb : d.isBox = false) (r : L2.RelV v u) (hu : A.units < cLine) (b : Str) (t : Tok) : RcNeAt A s u (.str b t) (!d.eqb (.str b)) := by
  rw [eqb_str_r]
  cases h with
  | non => cases r; exact RcNeAt.none_str b t
  | bl x => cases r; exact RcNeAt.bool_str x b t
  | int i =>
    obtain ⟨k, rfl⟩ := r
    exact RcNeAt.int_str i k b t
  | str x z o =>
    obtain ⟨k, rfl⟩ := r
    exact RcNeAt.str_str x k b t
  | list hs _ _ =>
    cases r
    obtain ⟨its, rv, p, hz⟩ := I.list (SqL.of (sm _ _ hs))
    exact RcNeAt.list_str b t p.isList hu
  | tup hs _ _ =>
    cases r
    obtain ⟨its, rv, p, hz⟩ := I.tuple (sqt_same sm hs)
    exact RcNeAt.tuple_str b t p hu
  | dict hs _ _ =>
    cases r
    obtain ⟨dd, es, n, sl, e⟩ := hod_dK I (sm _ _ hs)
    exact PySem.SgX.rn_dict_str b t e hu
  | box => cases nb
theorem eq_q (I : L2.Inv X pins a0 H s) (sm : Same G H) (h : Rp X.K b0 G v d) (nb : d.isBox = false) (r : L2.RelV v u) (hu : A.units < cLine) (b : Str) (t : Tok) : EqAt A s (.str b t) u ((D.str b).eqb d) := by
  rw [eqb_str_l]
  cases h with
  | non => cases r; exact EqAt.str_none b t
  | bl x => cases r; exact EqAt.str_bool b t x
  | int i =>
    obtain ⟨k, rfl⟩ := r
    exact EqAt.str_int b t i k
  | str x z o =>
    obtain ⟨k, rfl⟩ := r
    exact EqAt.str_str b t x k
  | list hs _ _ =>
    cases r
    obtain ⟨its, rv, p, hz⟩ := I.list (SqL.of (sm _ _ hs))
    exact EqAt.str_list b t p.isList hu
  | tup hs _ _ =>
    cases r
    obtain ⟨its, rv, p, hz⟩ := I.tuple (sqt_same sm hs)
    exact EqAt.str_tuple b t p hu
  | dict hs _ _ =>
    cases r
    obtain ⟨dd, es, n, sl, e⟩ := hod_dK I (sm _ _ hs)
    exact PySem.SgX.eq_str_dict b t e hu
  | box => cases nb
end
def lc2 (K : PySem.W.Frag) (f : D → D → Option Bool) : R2 := fun x y H Q => ∃ b G n dx dy z, Ok b G H n ∧ Rp K b G x dx ∧ Rp K b G y dy ∧ f dx dy = some z ∧ Q (.bl z) H
/-- t == (), t a tuple -/
def rEqE (K : PySem.W.Frag) (neg : Bool) : R2 := fun x y H Q => ∃ (a b : Addr) (xs : List V), x = .ref a ∧ y = .ref b ∧ SqT K H a xs ∧ SqT K H b [] ∧ Q (.bl (if neg then !xs.isEmpty else xs.isEmpty)) H
section
variable {X : Cx}
theorem emp_eq {xs : List V} {its : List Value} (r : Vals xs its) : ((List.range (min its.toArray.size (#[] : Array Value).size)).all (fun _ => true) && its.toArray.size == (#[] : Array Value).size) = xs.isEmpty := by
  have l := r.length
  cases xs with
  | nil =>
    have : its = [] := List.length_eq_zero_iff.mp (by simpa using l.symm)
    subst this
    rfl
  | cons x xs =>
    cases its with
    | nil => simp at l
    | cons i its => simp
theorem op_eqE (hu : X.A.units + 64 < cLine) : OpR X (compareOp .Eq) (rEqE X.K false) := by
  intro pins s a0 H x y v u Q I rx ry h
  obtain ⟨a, b, xs, rfl, rfl, ha, hb, q⟩ := h
  cases rx
  cases ry
  obtain ⟨its, r, pl, hz⟩ := I.tuple ha
  obtain ⟨its2, r2, pl2, hz2⟩ := I.tuple hb
  cases r2
  refine SeqAt.eq_tupleAt (e := fun _ => true) pl pl2 (by omega) (fun j h1 h2 => absurd h2 (by simp)) ⟨.bl _, H, I, rfl, ?_⟩
  show Q (.bl _) H
  rw [show (([] : List Value).toArray) = (#[] : Array Value) from rfl, emp_eq r]
  exact q
theorem dc_eq (hu : X.A.units + 64 < cLine) : OpR X (compareOp .Eq) (lc2 X.K (cmpop .eq)) := by
  intro pins s a0 H x y v u Q I rx ry ⟨b, G, n, dx, dy, z, ok, hx, hy, e, q⟩
  rw [cmpop, Option.ite_none_right_eq_some] at e
  obtain ⟨c, e⟩ := e
  cases e
  unfold eqOk at c
  rw [Bool.or_eq_true, Bool.or_eq_true] at c
  rcases c with (c | c) | c
  · rw [Bool.and_eq_true] at c
    obtain ⟨c1, c2⟩ := c
    cases dy with
    | str t =>
      obtain ⟨ey, _, _⟩ := rp_str_inv hy
      subst ey
      obtain ⟨tk, rfl⟩ := ry
      exact rc_q I ok.sub hx (by simpa using c2) rx (by omega) t tk _ _ _ _ ⟨.bl _, H, I, rfl, q⟩
    | _ => cases c1
  · rw [Bool.and_eq_true] at c
    obtain ⟨p1, p2, p3⟩ := flat_dp ok.sub 64 dx x hx c.1
    obtain ⟨q1, q2, q3⟩ := flat_dp ok.sub 64 dy y hy c.2
    exact op_eqD hu pins s a0 H x y v u Q I rx ry ⟨_, _, p1, q1, by unfold SeqAt.shaped; rw [p2, decide_eq_true p3]; rfl, by unfold SeqAt.shaped; rw [q2, decide_eq_true q3]; rfl, q⟩
  · split at c
    · obtain ⟨l, xs, rfl, hl, z1, g1⟩ := rp_tup_inv hx
      obtain ⟨m, ys, rfl, hm, z2, g2⟩ := rp_tup_inv hy
      cases g2
      refine op_eqE hu pins s a0 H _ _ v u Q I rx ry ⟨l, m, xs, rfl, rfl, sqt_same ok.sub hl, sqt_same ok.sub hm, ?_⟩
      have e : ∀ ds, Rps X.K b G xs ds → xs.isEmpty = (D.tup ds).eqb (.tup []) := fun ds g1 => by
        cases g1 with
        | nil => rfl
        | cons _ _ => rfl
      rw [if_neg (by decide), e _ g1]
      exact q
    · cases c
theorem dc_ne (hu : X.A.units + 64 < cLine) : OpR X (compareOp .NotEq) (lc2 X.K (cmpop .ne)) := by
  intro pins s a0 H x y v u Q I rx ry ⟨b, G, n, dx, dy, z, ok, hx, hy, e, q⟩
  rw [cmpop, Option.ite_none_right_eq_some] at e
  obtain ⟨c, e⟩ := e
  cases e
  unfold neOk at c
  rw [Bool.or_eq_true] at c
  rcases c with c | c
  · rw [Bool.and_eq_true] at c
    obtain ⟨c1, c2⟩ := c
    cases dy with
    | str t =>
      obtain ⟨ey, _, _⟩ := rp_str_inv hy
      subst ey
      obtain ⟨tk, rfl⟩ := ry
      exact rn_q I ok.sub hx (by simpa using c2) rx (by omega) t tk _ _ _ _ ⟨.bl _, H, I, rfl, q⟩
    | _ => cases c1
  · rw [Bool.and_eq_true] at c
    obtain ⟨p1, p2, p3⟩ := flat_dp ok.sub 64 dx x hx c.1
    obtain ⟨q1, q2, q3⟩ := flat_dp ok.sub 64 dy y hy c.2
    exact op_neD hu pins s a0 H x y v u Q I rx ry ⟨_, _, p1, q1, by unfold SeqAt.shaped; rw [p2, decide_eq_true p3]; rfl, by unfold SeqAt.shaped; rw [q2, decide_eq_true q3]; rfl, q⟩
theorem dc_lt : OpR X (compareOp .Lt) (lc2 X.K (cmpop .lt)) := by
  intro pins s a H x y v u Q I rx ry ⟨b, G, n, dx, dy, z, ok, hx, hy, e, q⟩
  cases dx <;> cases dy <;> first | (simp [cmpop] at e; done) | skip
  have ex := rp_int_inv hx
  have ey := rp_int_inv hy
  subst ex ey
  simp only [cmpop, Option.some.injEq] at e
  subst e
  exact op_lt pins s a H _ _ v u Q I rx ry ⟨_, _, rfl, rfl, q⟩
theorem dc_le : OpR X (compareOp .LtE) (lc2 X.K (cmpop .le)) := by
  intro pins s a H x y v u Q I rx ry ⟨b, G, n, dx, dy, z, ok, hx, hy, e, q⟩
  cases dx <;> cases dy <;> first | (simp [cmpop] at e; done) | skip
  have ex := rp_int_inv hx
  have ey := rp_int_inv hy
  subst ex ey
  simp only [cmpop, Option.some.injEq] at e
  subst e
  exact op_le pins s a H _ _ v u Q I rx ry ⟨_, _, rfl, rfl, q⟩
theorem dc_gt : OpR X (compareOp .Gt) (lc2 X.K (cmpop .gt)) := by
  intro pins s a H x y v u Q I rx ry ⟨b, G, n, dx, dy, z, ok, hx, hy, e, q⟩
  cases dx <;> cases dy <;> first | (simp [cmpop] at e; done) | skip
  have ex := rp_int_inv hx
  have ey := rp_int_inv hy
  subst ex ey
  simp only [cmpop, Option.some.injEq] at e
  subst e
  exact op_gt pins s a H _ _ v u Q I rx ry ⟨_, _, rfl, rfl, q⟩
theorem dc_ge : OpR X (compareOp .GtE) (lc2 X.K (cmpop .ge)) := by
  intro pins s a H x y v u Q I rx ry ⟨b, G, n, dx, dy, z, ok, hx, hy, e, q⟩
  cases dx <;> cases dy <;> first | (simp [cmpop] at e; done) | skip
  have ex := rp_int_inv hx
  have ey := rp_int_inv hy
  subst ex ey
  simp only [cmpop, Option.some.injEq] at e
  subst e
  exact op_ge pins s a H _ _ v u Q I rx ry ⟨_, _, rfl, rfl, q⟩
theorem is_non {b : Option Addr} {G : Hp} {x : V} {dx : D} {K : PySem.W.Frag} (h : Rp K b G x dx) : decide (x = .non) = (match dx with
    | .non => true
    | _ => false) := by
  cases h <;> simp
theorem dc_is : OpR X (compareOp .Is) (lc2 X.K (cmpop .is)) := by
  intro pins s a H x y v u Q I rx ry ⟨b, G, n, dx, dy, z, ok, hx, hy, e, q⟩
  cases dy with
  | non =>
    have ey := rp_non_inv hy
    subst ey
    have e' : z = decide (x = .non) := by
      rw [is_non hx]
      cases dx <;> (simp only [cmpop, Option.some.injEq] at e; exact e.symm)
    rw [e'] at q
    exact op_isN pins s a H _ _ v u Q I rx ry ⟨rfl, q⟩
  | bl c =>
    cases dx with
    | bl d =>
      have ex := rp_bl_inv hx
      have ey := rp_bl_inv hy
      subst ex ey
      simp only [cmpop, Option.some.injEq] at e
      subst e
      exact op_isBl pins s a H _ _ v u Q I rx ry ⟨_, _, rfl, rfl, q⟩
    | _ => simp [cmpop] at e
  | _ => cases dx <;> simp [cmpop] at e
theorem dc_isnot : OpR X (compareOp .IsNot) (lc2 X.K (cmpop .isnot)) := by
  intro pins s a H x y v u Q I rx ry ⟨b, G, n, dx, dy, z, ok, hx, hy, e, q⟩
  cases dy with
  | non =>
    have ey := rp_non_inv hy
    subst ey
    have e' : z = !decide (x = .non) := by
      rw [is_non hx]
      cases dx <;> (simp only [cmpop, Option.some.injEq] at e; exact e.symm)
    rw [e'] at q
    exact op_notN pins s a H _ _ v u Q I rx ry ⟨rfl, q⟩
  | bl c =>
    cases dx with
    | bl d =>
      have ex := rp_bl_inv hx
      have ey := rp_bl_inv hy
      subst ex ey
      simp only [cmpop, Option.some.injEq] at e
      subst e
      exact op_notBl pins s a H _ _ v u Q I rx ry ⟨_, _, rfl, rfl, q⟩
    | _ => simp [cmpop] at e
  | _ => cases dx <;> simp [cmpop] at e
/-! ### in -/
def uS (d : D) : Value → Bool
  | .str b _ => (D.str b).eqb d
  | _ => false
theorem strs_of {K : PySem.W.Frag} {b : Option Addr} {G : Hp} : ∀ {xs : List V} {ds : List D} {us : List Value}, Rps K b G xs ds → ds.all D.isStr = true → Vals xs us → ∀ y ∈ us, ∃ z t, y = .str z t
  | _, [], _, h, _, r, y, hy => by
    cases h
    cases r
    cases hy
  | _, d :: ds, _, h, f, r, y, hy => by
    cases h with
    | cons h g =>
      cases r with
      | cons r1 r2 =>
        rw [List.all_cons, Bool.and_eq_true] at f
        rcases List.mem_cons.mp hy with z | z
        · cases d with
          | str x =>
            obtain ⟨ev, _, _⟩ := rp_str_inv h
            subst ev
            obtain ⟨t, rfl⟩ := r1
            exact ⟨x, t, z⟩
          | _ => cases f.1
        · exact strs_of g f.2 r2 y z
theorem any_uS {K : PySem.W.Frag} {b : Option Addr} {G : Hp} {d : D} : ∀ {xs : List V} {ds : List D} {us : List Value}, Rps K b G xs ds → ds.all D.isStr = true → Vals xs us → us.any (uS d) = ds.any fun z => z.eqb d
  | _, [], _, h, _, r => by
    cases h
    cases r
    rfl
  | _, d :: ds, _, h, f, r => by
    cases h with
    | cons h g =>
      cases r with
      | cons r1 r2 =>
        rw [List.all_cons, Bool.and_eq_true] at f
        cases d with
        | str x =>
          obtain ⟨ev, _, _⟩ := rp_str_inv h
          subst ev
          obtain ⟨t, rfl⟩ := r1
          rw [List.any_cons, List.any_cons, any_uS g f.2 r2]
          rfl
        | _ => cases f.1
theorem in1_room {A : Around} (hu : A.units + 64 < cLine) : A.in1.units < cLine := by
  show A.units + 1 < cLine
  omega
/-- x in a list that is read -/
theorem in_core (hu : X.A.units + 65 < cLine) {pins : List (Addr × Obj)} {s : Shared} {a0 : L2.St} {H : Hp} {x : V} {v : Value} {Q : VK} (I : L2.Inv X pins a0 H s) (rx : L2.RelV x v)
    {b : Option Addr} {G : Hp} {dx : D} {ds : List D} {xs : List V} {p : Addr} (sm : Same G H) (hx : Rp X.K b G x dx) (g : Rps X.K b G xs ds) (c : inOk dx ds = true) (neg : Bool) (hq : SqL X.K H p xs ∨ SqT X.K H p xs)
    (q : Q (.bl (if neg then !ds.any fun z => z.eqb dx else ds.any fun z => z.eqb dx)) H) : wpAny (model X.prog X.w) X.A (compareOp (if neg then .NotIn else .In) v (.ref p)) (EP X pins a0 Q) X.xe s := by
  unfold inOk at c
  rw [Bool.or_eq_true] at c
  rcases c with c | c
  · rw [Bool.and_eq_true] at c
    have key : ∀ (its : List Value), Vals xs its → ∀ y ∈ its.toArray, EqAt X.A.in1 s y v (uS dx y) := fun its r y hy => by
      obtain ⟨z, t, rfl⟩ := strs_of g c.1 r y (by simpa using hy)
      exact eq_q I sm hx (by simpa using c.2) rx (in1_room (by omega)) z t
    rcases hq with hq | hq
    · obtain ⟨its, r, pl, hz⟩ := I.list hq
      cases neg with
      | false =>
        refine SeqAt.in_listAt (uS dx) pl.isList (key its r) ⟨.bl _, H, I, rfl, ?_⟩
        rw [show its.toArray.any (uS dx) = its.any (uS dx) by simp, any_uS g c.1 r]
        exact q
      | true =>
        refine SeqAt.notIn_listAt (uS dx) pl.isList (key its r) ⟨.bl _, H, I, rfl, ?_⟩
        rw [show its.toArray.any (uS dx) = its.any (uS dx) by simp, any_uS g c.1 r]
        exact q
    · obtain ⟨its, r, pl, hz⟩ := I.tuple hq
      cases neg with
      | false =>
        refine SeqAt.in_tupleAt (uS dx) pl (key its r) ⟨.bl _, H, I, rfl, ?_⟩
        rw [show its.toArray.any (uS dx) = its.any (uS dx) by simp, any_uS g c.1 r]
        exact q
      | true =>
        refine SeqAt.notIn_tupleAt (uS dx) pl (key its r) ⟨.bl _, H, I, rfl, ?_⟩
        rw [show its.toArray.any (uS dx) = its.any (uS dx) by simp, any_uS g c.1 r]
        exact q
  · rw [Bool.and_eq_true] at c
    obtain ⟨p1, p2, p3⟩ := flat_dp sm 63 dx x hx c.1
    obtain ⟨q1, q2, q3⟩ := flats_dp sm 63 ds xs g c.2
    obtain ⟨as, r1⟩ := Dp.reads I dx.py x v p1 rx
    have sd : SeqAt.shaped dx.py = true := by unfold SeqAt.shaped; rw [p2, decide_eq_true (show dx.py.depth ≤ 64 by omega)]; rfl
    have e : ∀ (z : Bool), (ds.any fun z => z.eqb dx) = z → ((D.pys ds).any fun z => PyData.eqv z dx.py) = z := fun z h => by rw [pys_any]; exact h
    rcases hq with hq | hq
    · obtain ⟨bs, r2⟩ := Dp.reads I (.list (D.pys ds)) (.ref p) (.ref p) (.lst hq q1) rfl
      cases neg with
      | false => exact SeqAt.in_list_reads r2 r1 q2 p2 (room_in_shaped sd hu) ⟨.bl _, H, I, rfl, by rw [e _ rfl]; exact q⟩
      | true => exact SeqAt.notIn_list_reads r2 r1 q2 p2 (room_in_shaped sd hu) ⟨.bl _, H, I, rfl, by rw [e _ rfl]; exact q⟩
    · obtain ⟨bs, r2⟩ := Dp.reads I (.tuple (D.pys ds)) (.ref p) (.ref p) (.tup hq q1) rfl
      cases neg with
      | false => exact SeqAt.in_tuple_reads r2 r1 q2 p2 (room_in_shaped sd hu) ⟨.bl _, H, I, rfl, by rw [e _ rfl]; exact q⟩
      | true => exact SeqAt.notIn_tuple_reads r2 r1 q2 p2 (room_in_shaped sd hu) ⟨.bl _, H, I, rfl, by rw [e _ rfl]; exact q⟩
theorem dc_in (hu : X.A.units + 65 < cLine) : OpR X (compareOp .In) (lc2 X.K (cmpop .inn)) := by
  intro pins s a H x y v u Q I rx ry ⟨b, G, n, dx, dy, z, ok, hx, hy, e, q⟩
  cases dy with
  | list ys =>
    obtain ⟨l, xs, rfl, hl, z1, g1⟩ := rp_list_inv hy
    cases ry
    have e' : inOk dx ys = true ∧ (ys.any fun z => z.eqb dx) = z := by
      cases dx <;> (simp only [cmpop, Option.ite_none_right_eq_some, Option.some.injEq] at e; exact e)
    exact in_core hu I rx ok.sub hx g1 e'.1 false (.inl (SqL.of (ok.sub _ _ hl))) (by rw [if_neg (by decide), e'.2]; exact q)
  | tup ys =>
    obtain ⟨l, xs, rfl, hl, z1, g1⟩ := rp_tup_inv hy
    cases ry
    have e' : inOk dx ys = true ∧ (ys.any fun z => z.eqb dx) = z := by
      cases dx <;> (simp only [cmpop, Option.ite_none_right_eq_some, Option.some.injEq] at e; exact e)
    exact in_core hu I rx ok.sub hx g1 e'.1 false (.inr (sqt_same ok.sub hl)) (by rw [if_neg (by decide), e'.2]; exact q)
  | str t =>
    cases dx with
    | str w =>
      obtain ⟨ex, _, _⟩ := rp_str_inv hx
      obtain ⟨ey, _, _⟩ := rp_str_inv hy
      subst ex ey
      simp only [cmpop, Option.some.injEq] at e
      subst e
      exact op_in_str pins s a H _ _ v u Q I rx ry ⟨_, _, rfl, rfl, q⟩
    | _ => simp [cmpop] at e
  | _ => cases dx <;> simp [cmpop] at e
theorem dc_notin (hu : X.A.units + 65 < cLine) : OpR X (compareOp .NotIn) (lc2 X.K (cmpop .notin)) := by
  intro pins s a H x y v u Q I rx ry ⟨b, G, n, dx, dy, z, ok, hx, hy, e, q⟩
  cases dy with
  | list ys =>
    obtain ⟨l, xs, rfl, hl, z1, g1⟩ := rp_list_inv hy
    cases ry
    have e' : inOk dx ys = true ∧ (!ys.any fun z => z.eqb dx) = z := by
      cases dx <;> (simp only [cmpop, Option.ite_none_right_eq_some, Option.some.injEq] at e; exact e)
    exact in_core hu I rx ok.sub hx g1 e'.1 true (.inl (SqL.of (ok.sub _ _ hl))) (by rw [if_pos rfl, e'.2]; exact q)
  | tup ys =>
    obtain ⟨l, xs, rfl, hl, z1, g1⟩ := rp_tup_inv hy
    cases ry
    have e' : inOk dx ys = true ∧ (!ys.any fun z => z.eqb dx) = z := by
      cases dx <;> (simp only [cmpop, Option.ite_none_right_eq_some, Option.some.injEq] at e; exact e)
    exact in_core hu I rx ok.sub hx g1 e'.1 true (.inr (sqt_same ok.sub hl)) (by rw [if_pos rfl, e'.2]; exact q)
  | str t =>
    cases dx with
    | str w =>
      obtain ⟨ex, _, _⟩ := rp_str_inv hx
      obtain ⟨ey, _, _⟩ := rp_str_inv hy
      subst ex ey
      simp only [cmpop, Option.some.injEq] at e
      subst e
      exact op_notin_str pins s a H _ _ v u Q I rx ry ⟨_, _, rfl, rfl, q⟩
    | _ => simp [cmpop] at e
  | _ => cases dx <;> simp [cmpop] at e
end
end Dl

set_option Elab.async false
set_option linter.all false
set_option maxRecDepth 100000
set_option maxHeartbeats 4000000
/-! Expressions: names, constants, operators, tests. -/
namespace Dl
open PySem PySem.Spec PyProof.Rows L2
abbrev cn (X : Cx) : Cn := ⟨X.K, X.mg⟩
section
variable {X : Cx} {W : WD} {T : Tab}
theorem de_bad {e : Expr} : PE X e (lift (cn X) W (wE T .bad)) := ⟨fun pins s a H Q I ⟨b, G0, H0, G, n, r, Qd, Ex, h, t, x, k⟩ => by
  rw [wE] at t
  exact t.elim⟩
theorem de_v {i : Nat} {x : Str} {pos : Pos} (hN : X.N[i]? = some x) (hv : Vis X.env.scope x) (hd : (x == ("__debug__" : Str)) = false) (hcd : (x == ("__classdict__" : Str)) = false) : PE X (.Name x pos) (lift (cn X) W (wE T (.v i))) :=
  pe_imp (pe_var hN hv hd hcd) fun s H Q ⟨b, G0, H0, G, n, r, Qd, Ex, h, t, x, k⟩ => by
    rw [wE] at t
    split at t
    · rename_i d e
      obtain ⟨v, e1, e2⟩ := h.ent i _ e
      exact ⟨v, e1, k v G H n d (Stp.refl h.ok) e2 t⟩
    · exact t.elim
theorem lift_c {v : V} {d : D} {s : L2.St} {H : Hp} {Q : VK} (hd : ∀ b G, Rp X.K b G v d) (h : lift (cn X) W (wE T (.k d)) s H Q) : Q v H := by
  obtain ⟨b, G0, H0, G, n, r, Qd, Ex, h, t, x, k⟩ := h
  rw [wE] at t
  exact k v G H n d (Stp.refl h.ok) (hd b G) t
theorem de_int {i : Int} {j : Nat} {pos : Pos} : PE X (.Constant (.int i) j pos) (lift (cn X) W (wE T (.k (.int i)))) := pe_imp pe_int fun s H Q h => lift_c (fun _ _ => .int i) h
theorem de_bl {i : Bool} {j : Nat} {pos : Pos} : PE X (.Constant (.bool i) j pos) (lift (cn X) W (wE T (.k (.bl i)))) := pe_imp pe_bl fun s H Q h => lift_c (fun _ _ => .bl i) h
theorem de_non {j : Nat} {pos : Pos} : PE X (.Constant .none j pos) (lift (cn X) W (wE T (.k .non))) := pe_imp pe_non fun s H Q h => lift_c (fun _ _ => .non) h
theorem de_str {z : Str} {j : Nat} {pos : Pos} (hz : z.length ≤ sizeLine) (ho : PyData.strOk z = true) : PE X (.Constant (.str z) j pos) (lift (cn X) W (wE T (.k (.str z)))) := pe_imp pe_str fun s H Q h => lift_c (fun _ _ => .str z hz ho) h
theorem de_g {x : Str} {pos : Pos} (hg : Gl X x) (hd : (x == ("__debug__" : Str)) = false) (hm : ∀ d, T.gv x = some d → ∃ v u, X.mg x = some u ∧ RelV v u ∧ ∀ b G, Rp X.K b G v d) : PE X (.Name x pos) (lift (cn X) W (wE T (.g x))) := by
  cases e : T.gv x with
  | none => exact ⟨fun pins s a H Q I ⟨b, G0, H0, G, n, r, Qd, Ex, h, t, x, k⟩ => by
      rw [wE, e] at t
      exact t.elim⟩
  | some d =>
    obtain ⟨v, u, h1, h2, h3⟩ := hm d e
    exact pe_imp (pe_glob hg h1 h2 hd) fun s H Q ⟨b, G0, H0, G, n, r, Qd, Ex, h, t, x, k⟩ => by
      rw [wE, e, ofO_some] at t
      exact k v G H n d (Stp.refl h.ok) (h3 b G) t
theorem de_bin {op : Operator} {o : BOp} {a c : Expr} {ia ic : IE} {pos : Pos} (ho : OpR X (binaryOp op) (lr2 X.K (binop o))) (ha : PE X a (lift (cn X) W (wE T ia))) (hc : PE X c (lift (cn X) W (wE T ic))) : PE X (.BinOp a op c pos) (lift (cn X) W (wE T (.bin o ia ic))) :=
  pe_imp (pe_op ho ha hc) fun s H Q ⟨b, G0, H0, G, n, r, Qd, Ex, h, t, x, k⟩ => by
    rw [wE] at t
    refine lift_bind h x t fun v G1 H1 n1 d h1 x1 s1 r1 q1 => lift_bind h1 x1 q1 fun w G2 H2 n2 e h2 x2 s2 r2 q2 => ?_
    obtain ⟨z, ez, q3⟩ := ofO_iff q2
    exact ⟨b, G2, n2, d, e, z, h2.ok, r1.mono s2.gg, r2, ez, fun u G' H' st r' => k u G' H' n2 z ((s1.trans s2).trans st) r' q3⟩
theorem de_neg {a : Expr} {ia : IE} {pos : Pos} (ha : PE X a (lift (cn X) W (wE T ia))) : PE X (.UnaryOp .USub a pos) (lift (cn X) W (wE T (.neg ia))) :=
  pe_imp (pe_un un_neg ha) fun s H Q ⟨b, G0, H0, G, n, r, Qd, Ex, h, t, x, k⟩ => by
    rw [wE] at t
    refine lift_bind h x t fun v G1 H1 n1 d h1 x1 s1 r1 q1 => ?_
    cases d with
    | int i => exact ⟨i, rp_int_inv r1, k _ G1 H1 n1 _ s1 (.int _) q1⟩
    | _ => exact q1.elim
theorem de_cmp {op : CmpOp} {o : COp} {a c : Expr} {ia ic : IE} {pos : Pos} (ho : OpR X (compareOp op) (lc2 X.K (cmpop o))) (ha : PE X a (lift (cn X) W (wE T ia))) (hc : PE X c (lift (cn X) W (wE T ic))) (hm : behindInMarks op c = false) : PE X (.Compare a [op] [c] pos) (lift (cn X) W (wE T (.cmp o ia ic))) :=
  pe_imp (pe_cmpR ho ha hc hm) fun s H Q ⟨b, G0, H0, G, n, r, Qd, Ex, h, t, x, k⟩ => by
    rw [wE] at t
    refine lift_bind h x t fun v G1 H1 n1 d h1 x1 s1 r1 q1 => lift_bind h1 x1 q1 fun w G2 H2 n2 e h2 x2 s2 r2 q2 => ?_
    obtain ⟨z, ez, q3⟩ := ofO_iff q2
    exact ⟨b, G2, n2, d, e, z, h2.ok, r1.mono s2.gg, r2, ez, k _ G2 H2 n2 _ (s1.trans s2) (.bl z) q3⟩
theorem de_chain {op op' : CmpOp} {o o' : COp} {a c e : Expr} {ia ic ie : IE} {pos : Pos} (ho : OpR X (compareOp op) (lc2 X.K (cmpop o))) (ho' : OpR X (compareOp op') (lc2 X.K (cmpop o'))) (ha : PE X a (lift (cn X) W (wE T ia))) (hc : PE X c (lift (cn X) W (wE T ic))) (he : PE X e (lift (cn X) W (wE T ie)))
    (hm : lastMarks [op, op'] [c, e] = false) : PE X (.Compare a [op, op'] [c, e] pos) (lift (cn X) W (wE T (.chain o o' ia ic ie))) :=
  pe_imp (pe_chain ho ho' ha hc he hm) fun s H Q ⟨b, G0, H0, G, n, r, Qd, Ex, h, t, x, k⟩ => by
    rw [wE] at t
    refine lift_bind h x t fun v G1 H1 n1 d h1 x1 s1 r1 q1 => lift_bind h1 x1 q1 fun w G2 H2 n2 e h2 x2 s2 r2 q2 => ?_
    obtain ⟨z, ez, q3⟩ := ofO_iff q2
    refine ⟨b, G2, n2, d, e, z, h2.ok, r1.mono s2.gg, r2, ez, z, rfl, ?_⟩
    cases z with
    | false =>
      rw [if_neg (by decide)] at q3 ⊢
      exact k _ G2 H2 n2 _ (s1.trans s2) (.bl false) q3
    | true =>
      rw [if_pos rfl] at q3 ⊢
      refine lift_bind h2 x2 q3 fun u G3 H3 n3 f h3 x3 s3 r3 q4 => ?_
      obtain ⟨z', ez', q5⟩ := ofO_iff q4
      exact ⟨b, G3, n3, e, f, z', h3.ok, r2.mono s3.gg, r3, ez', k _ G3 H3 n3 _ ((s1.trans s2).trans s3) (.bl z') q5⟩
/-! ### truth -/
theorem tru_rp {K : PySem.W.Frag} {b : Option Addr} {G H : Hp} {v : V} {d : D} {z : Bool} (sm : Same G H) (h : Rp K b G v d) (e : d.truth = some z) : TruV K v H z := by
  cases h with
  | non => exact (Option.some.inj e).symm
  | bl x => exact (Option.some.inj e).symm
  | int i => exact (Option.some.inj e).symm
  | str x zz o => exact ⟨zz, (Option.some.inj e).symm⟩
  | @list a xs ds h zz g =>
    refine .inl ⟨xs, SqL.of (sm _ _ h), ?_⟩
    have e' := (Option.some.inj e).symm
    rw [e']
    cases g <;> rfl
  | @tup a xs ds h zz g =>
    refine .inr (.inl ⟨xs, sqt_same sm h, ?_⟩)
    have e' := (Option.some.inj e).symm
    rw [e']
    cases g <;> rfl
  | @dict a xs ds h zz g =>
    refine .inr (.inr ⟨xs, sm _ _ h, ?_⟩)
    have e' := (Option.some.inj e).symm
    rw [e']
    cases g <;> rfl
  | box h => cases e
theorem de_not {a : Expr} {ia : IE} {pos : Pos} (ha : PE X a (lift (cn X) W (wE T ia))) : PE X (.UnaryOp .Not a pos) (lift (cn X) W (wE T (.not ia))) :=
  pe_imp (pe_notT ha) fun s H Q ⟨b, G0, H0, G, n, r, Qd, Ex, h, t, x, k⟩ => by
    rw [wE] at t
    refine lift_bind h x t fun v G1 H1 n1 d h1 x1 s1 r1 q1 => ?_
    obtain ⟨z, ez, q3⟩ := ofO_iff q1
    exact ⟨z, tru_rp h1.ok.sub r1 ez, k _ G1 H1 n1 _ s1 (.bl _) q3⟩
theorem de_and1 {a : Expr} {ia : IE} {pos : Pos} (ha : PE X a (lift (cn X) W (wE T ia))) : PE X (.BoolOp .And [a] pos) (lift (cn X) W (wAnd T (.cons ia .nil))) :=
  pe_imp (pe_one ha) fun s H Q ⟨b, G0, H0, G, n, r, Qd, Ex, h, t, x, k⟩ => by
    rw [wAnd, if_pos (show IAs.nil.isNil = true from rfl)] at t
    exact ⟨b, G0, H0, G, n, r, Qd, Ex, h, t, x, k⟩
theorem de_or1 {a : Expr} {ia : IE} {pos : Pos} (ha : PE X a (lift (cn X) W (wE T ia))) : PE X (.BoolOp .Or [a] pos) (lift (cn X) W (wOr T (.cons ia .nil))) :=
  pe_imp (pe_one ha) fun s H Q ⟨b, G0, H0, G, n, r, Qd, Ex, h, t, x, k⟩ => by
    rw [wOr, if_pos (show IAs.nil.isNil = true from rfl)] at t
    exact ⟨b, G0, H0, G, n, r, Qd, Ex, h, t, x, k⟩
theorem de_andC {a c : Expr} {rest : List Expr} {ia : IE} {ir : IAs} {pos : Pos} (hn : ir.isNil = false) (ha : PE X a (lift (cn X) W (wE T ia))) (hr : PE X (.BoolOp .And (c :: rest) pos) (lift (cn X) W (wAnd T ir))) : PE X (.BoolOp .And (a :: c :: rest) pos) (lift (cn X) W (wAnd T (.cons ia ir))) :=
  pe_imp (pe_andT ha hr) fun s H Q ⟨b, G0, H0, G, n, r, Qd, Ex, h, t, x, k⟩ => by
    rw [wAnd, if_neg (by rw [hn]; decide)] at t
    refine lift_bind h x t fun v G1 H1 n1 d h1 x1 s1 r1 q1 => ?_
    obtain ⟨z, ez, q3⟩ := ofO_iff q1
    refine ⟨z, tru_rp h1.ok.sub r1 ez, ?_⟩
    cases z with
    | true =>
      rw [if_pos rfl] at q3 ⊢
      exact lift_bind h1 x1 q3 fun u G2 H2 n2 e h2 x2 s2 r2 q => k u G2 H2 n2 e (s1.trans s2) r2 q
    | false =>
      rw [if_neg (by decide)] at q3 ⊢
      exact k v G1 H1 n1 d s1 r1 q3
theorem de_orC {a c : Expr} {rest : List Expr} {ia : IE} {ir : IAs} {pos : Pos} (hn : ir.isNil = false) (ha : PE X a (lift (cn X) W (wE T ia))) (hr : PE X (.BoolOp .Or (c :: rest) pos) (lift (cn X) W (wOr T ir))) : PE X (.BoolOp .Or (a :: c :: rest) pos) (lift (cn X) W (wOr T (.cons ia ir))) :=
  pe_imp (pe_orT ha hr) fun s H Q ⟨b, G0, H0, G, n, r, Qd, Ex, h, t, x, k⟩ => by
    rw [wOr, if_neg (by rw [hn]; decide)] at t
    refine lift_bind h x t fun v G1 H1 n1 d h1 x1 s1 r1 q1 => ?_
    obtain ⟨z, ez, q3⟩ := ofO_iff q1
    refine ⟨z, tru_rp h1.ok.sub r1 ez, ?_⟩
    cases z with
    | false =>
      rw [if_neg (by decide)] at q3 ⊢
      exact lift_bind h1 x1 q3 fun u G2 H2 n2 e h2 x2 s2 r2 q => k u G2 H2 n2 e (s1.trans s2) r2 q
    | true =>
      rw [if_pos rfl] at q3 ⊢
      exact k v G1 H1 n1 d s1 r1 q3
/-! ### tests: an expression whose value's truth is the test -/
abbrev lT (X : Cx) (W : WD) (w : TD) : TT := liftT (cn X) W (fun r n Q E => w r n (tru Q) E)
theorem dt_bad {e : Expr} : PT X e (lT X W (wE T .bad)) := ⟨fun pins s a H Q I ⟨b, G0, H0, G, n, r, Qd, Ex, h, t, x, k⟩ => by
  dsimp only at t
  rw [wE] at t
  exact t.elim⟩
theorem dt_val {e : Expr} {w : TD} (h : PE X e (lift (cn X) W w)) (he : ∀ whole, isTrue e X.env whole = (do let v ← whole; standAt e.pos; holding [v] (truthy v))) : PT X e (lT X W w) :=
  pt_imp (pt_truth h he) fun s H Q ⟨b, G0, H0, G, n, r, Qd, Ex, h, t, x, k⟩ => by
    refine lift_bind h x t fun v G1 H1 n1 d h1 x1 s1 r1 q1 => ?_
    obtain ⟨z, ez, q3⟩ := ofO_iff q1
    exact ⟨z, tru_rp h1.ok.sub r1 ez, k G1 H1 n1 z s1 q3⟩
theorem dt_cmp {op : CmpOp} {o : COp} {a c : Expr} {ia ic : IE} {pos : Pos} (ho : OpR X (compareOp op) (lc2 X.K (cmpop o))) (ha : PE X a (lift (cn X) W (wE T ia))) (hc : PE X c (lift (cn X) W (wE T ic))) (hm : behindInMarks op c = false) : PT X (.Compare a [op] [c] pos) (lT X W (wE T (.cmp o ia ic))) :=
  pt_imp (pt_cmpR ho ha hc hm) fun s H Q ⟨b, G0, H0, G, n, r, Qd, Ex, h, t, x, k⟩ => by
    dsimp only at t
    rw [wE] at t
    refine lift_bind h x t fun v G1 H1 n1 d h1 x1 s1 r1 q1 => lift_bind h1 x1 q1 fun w G2 H2 n2 e h2 x2 s2 r2 q2 => ?_
    obtain ⟨z, ez, q3⟩ := ofO_iff q2
    exact ⟨b, G2, n2, d, e, z, h2.ok, r1.mono s2.gg, r2, ez, z, rfl, k G2 H2 n2 _ (s1.trans s2) q3⟩
theorem dt_chain {op op' : CmpOp} {o o' : COp} {a c e : Expr} {ia ic ie : IE} {pos : Pos} (ho : OpR X (compareOp op) (lc2 X.K (cmpop o))) (ho' : OpR X (compareOp op') (lc2 X.K (cmpop o'))) (ha : PE X a (lift (cn X) W (wE T ia))) (hc : PE X c (lift (cn X) W (wE T ic))) (he : PE X e (lift (cn X) W (wE T ie)))
    (hm : lastMarks [op, op'] [c, e] = false) : PT X (.Compare a [op, op'] [c, e] pos) (lT X W (wE T (.chain o o' ia ic ie))) :=
  pt_imp (pt_chain ho ho' ha hc he hm) fun s H Q ⟨b, G0, H0, G, n, r, Qd, Ex, h, t, x, k⟩ => by
    dsimp only at t
    rw [wE] at t
    refine lift_bind h x t fun v G1 H1 n1 d h1 x1 s1 r1 q1 => lift_bind h1 x1 q1 fun w G2 H2 n2 e h2 x2 s2 r2 q2 => ?_
    obtain ⟨z, ez, q3⟩ := ofO_iff q2
    refine ⟨b, G2, n2, d, e, z, h2.ok, r1.mono s2.gg, r2, ez, z, rfl, ?_⟩
    cases z with
    | false =>
      rw [if_neg (by decide)] at q3 ⊢
      exact ⟨_, rfl, k G2 H2 n2 _ (s1.trans s2) q3⟩
    | true =>
      rw [if_pos rfl] at q3 ⊢
      refine lift_bind h2 x2 q3 fun u G3 H3 n3 f h3 x3 s3 r3 q4 => ?_
      obtain ⟨z', ez', q5⟩ := ofO_iff q4
      exact ⟨b, G3, n3, e, f, z', h3.ok, r2.mono s3.gg, r3, ez', _, rfl, k G3 H3 n3 _ ((s1.trans s2).trans s3) q5⟩
theorem dt_not {a : Expr} {ia : IE} {pos : Pos} (ha : PT X a (lT X W (wE T ia))) : PT X (.UnaryOp .Not a pos) (lT X W (wE T (.tnot ia))) :=
  pt_imp (pt_not ha) fun s H Q ⟨b, G0, H0, G, n, r, Qd, Ex, h, t, x, k⟩ => by
    dsimp only at t
    rw [wE] at t
    exact liftT_bind h x t fun G1 H1 n1 d h1 x1 s1 q1 => k G1 H1 n1 _ s1 q1
theorem dw_and1 {a : Expr} {ia : IE} {pos : Pos} (ha : PT X a (lT X W (wE T ia))) : PW X (.BoolOp .And [a] pos) (lT X W (wAndT T (.cons ia .nil))) :=
  pw_imp (pw_and1 ha) fun s H Q ⟨b, G0, H0, G, n, r, Qd, Ex, h, t, x, k⟩ => by
    dsimp only at t
    rw [wAndT] at t
    refine liftT_bind (Qd := fun z n1 => tru Qd (.bl z) n1) h x ?_ fun G1 H1 n1 d h1 x1 s1 q1 => k G1 H1 n1 _ s1 q1
    exact t
theorem dw_or1 {a : Expr} {ia : IE} {pos : Pos} (ha : PT X a (lT X W (wE T ia))) : PW X (.BoolOp .Or [a] pos) (lT X W (wOrT T (.cons ia .nil))) :=
  pw_imp (pw_or1 ha) fun s H Q ⟨b, G0, H0, G, n, r, Qd, Ex, h, t, x, k⟩ => by
    dsimp only at t
    rw [wOrT] at t
    refine liftT_bind (Qd := fun z n1 => tru Qd (.bl z) n1) h x ?_ fun G1 H1 n1 d h1 x1 s1 q1 => k G1 H1 n1 _ s1 q1
    exact t
theorem dw_andC {a c : Expr} {rest : List Expr} {ia : IE} {ir : IAs} {pos : Pos} (hn : ir.isNil = false) (ha : PT X a (lT X W (wE T ia))) (hr : PW X (.BoolOp .And (c :: rest) pos) (lT X W (wAndT T ir))) : PW X (.BoolOp .And (a :: c :: rest) pos) (lT X W (wAndT T (.cons ia ir))) :=
  pw_imp (pw_and ha hr) fun s H Q ⟨b, G0, H0, G, n, r, Qd, Ex, h, t, x, k⟩ => by
    dsimp only at t
    rw [wAndT] at t
    refine liftT_bind h x t fun G1 H1 n1 z h1 x1 s1 q1 => ?_
    rw [if_neg (by rw [hn]; decide)] at q1
    cases z with
    | true =>
      rw [if_pos rfl] at q1 ⊢
      exact liftT_bind h1 x1 q1 fun G2 H2 n2 e h2 x2 s2 q => k G2 H2 n2 e (s1.trans s2) q
    | false =>
      rw [if_neg (by decide)] at q1 ⊢
      exact k G1 H1 n1 _ s1 q1
theorem dw_orC {a c : Expr} {rest : List Expr} {ia : IE} {ir : IAs} {pos : Pos} (hn : ir.isNil = false) (ha : PT X a (lT X W (wE T ia))) (hr : PW X (.BoolOp .Or (c :: rest) pos) (lT X W (wOrT T ir))) : PW X (.BoolOp .Or (a :: c :: rest) pos) (lT X W (wOrT T (.cons ia ir))) :=
  pw_imp (pw_or ha hr) fun s H Q ⟨b, G0, H0, G, n, r, Qd, Ex, h, t, x, k⟩ => by
    dsimp only at t
    rw [wOrT] at t
    refine liftT_bind h x t fun G1 H1 n1 z h1 x1 s1 q1 => ?_
    rw [if_neg (by rw [hn]; decide)] at q1
    cases z with
    | false =>
      rw [if_neg (by decide)] at q1 ⊢
      exact liftT_bind h1 x1 q1 fun G2 H2 n2 e h2 x2 s2 q => k G2 H2 n2 e (s1.trans s2) q
    | true =>
      rw [if_pos rfl] at q1 ⊢
      exact k G1 H1 n1 _ s1 q1
theorem de_ite {c a e : Expr} {ic ia ie : IE} {pos : Pos} (hc : PT X c (lT X W (wE T ic))) (ha : PE X a (lift (cn X) W (wE T ia))) (he : PE X e (lift (cn X) W (wE T ie))) : PE X (.IfExp c a e pos) (lift (cn X) W (wE T (.ite ic ia ie))) :=
  pe_imp (pe_ifExp hc ha he) fun s H Q ⟨b, G0, H0, G, n, r, Qd, Ex, h, t, x, k⟩ => by
    rw [wE] at t
    refine liftT_bind h x t fun G1 H1 n1 z h1 x1 s1 q1 => ?_
    cases z with
    | true =>
      rw [if_pos rfl] at q1 ⊢
      exact lift_bind h1 x1 q1 fun u G2 H2 n2 e h2 x2 s2 r2 q => k u G2 H2 n2 e (s1.trans s2) r2 q
    | false =>
      rw [if_neg (by decide)] at q1 ⊢
      exact lift_bind h1 x1 q1 fun u G2 H2 n2 e h2 x2 s2 r2 q => k u G2 H2 n2 e (s1.trans s2) r2 q
/-! ### argument lists, displays -/
theorem da_nil : PA X [] (liftA (cn X) W (wA T .nil)) := pa_imp pa_nil fun s H Q ⟨b, G0, H0, G, n, r, Qd, Ex, h, t, x, k⟩ => by
  rw [wA] at t
  exact k [] G H n [] (Stp.refl h.ok) .nil t
theorem da_cons {e : Expr} {es : List Expr} {ie : IE} {ir : IAs} (he : PE X e (lift (cn X) W (wE T ie))) (hr : PA X es (liftA (cn X) W (wA T ir))) (hs : starEach (e :: es) X.env = (false, eval e X.env) :: starEach es X.env) : PA X (e :: es) (liftA (cn X) W (wA T (.cons ie ir))) :=
  pa_imp (pa_cons he hr hs) fun s H Q ⟨b, G0, H0, G, n, r, Qd, Ex, h, t, x, k⟩ => by
    rw [wA] at t
    refine lift_bind h x t fun v G1 H1 n1 d h1 x1 s1 r1 q1 => liftA_bind h1 x1 q1 fun w G2 H2 n2 e h2 x2 s2 r2 q2 => ?_
    exact k _ G2 H2 n2 _ (s1.trans s2) (.cons (r1.mono s2.gg) r2) q2
theorem da_star {e : Expr} {es : List Expr} {p : Pos} {ie : IE} {ir : IAs} (he : PE X e (lift (cn X) W (wE T ie))) (hr : PA X es (liftA (cn X) W (wA T ir))) : PA X (.Starred e p :: es) (liftA (cn X) W (wA T (.star ie ir))) :=
  pa_imp (StX.pa_star he hr) fun s H Q ⟨b, G0, H0, G, n, r, Qd, Ex, h, t, x, k⟩ => by
    rw [wA] at t
    refine lift_bind h x t fun v G1 H1 n1 d h1 x1 s1 r1 q1 => ?_
    have key : ∀ (p : Addr) (xs : List V) (ys : List D), v = .ref p → (SqT X.K H1 p xs ∨ SqL X.K H1 p xs) → Rps X.K b G1 xs ys → wA T ir r n1 (fun zs n2 => Qd (ys ++ zs) n2) Ex →
        ∃ p xs, v = V.ref p ∧ (SqT X.K H1 p xs ∨ SqL X.K H1 p xs) ∧ liftA (cn X) W (wA T ir) s H1 fun ys H2 => Q (xs ++ ys) H2 := fun p xs ys ev hq g q =>
      ⟨p, xs, ev, hq, liftA_bind h1 x1 q fun w G2 H2 n2 e h2 x2 s2 r2 q2 => k _ G2 H2 n2 _ (s1.trans s2) ((g.mono s2.gg).append r2) q2⟩
    cases d with
    | list ys =>
      obtain ⟨a, xs, ev, hl, z, g⟩ := rp_list_inv r1
      exact key a xs ys ev (.inr (SqL.of (h1.ok.sub _ _ hl))) g q1
    | tup ys =>
      obtain ⟨a, xs, ev, hl, z, g⟩ := rp_tup_inv r1
      exact key a xs ys ev (.inl (sqt_same h1.ok.sub hl)) g q1
    | _ => exact q1.elim
/-- a tuple, a list of written items -/
theorem de_tup {es : List Expr} {ia : IAs} {kk : Nat} {pos : Pos} (ha : PA X es (liftA (cn X) W (wA T ia))) : PE X (.Tuple es kk pos) (lift (cn X) W (wE T (.tup ia))) :=
  pe_imp (pe_tup ha) fun s H Q ⟨b, G0, H0, G, n, r, Qd, Ex, h, t, x, k⟩ => by
    rw [wE] at t
    refine liftA_bind h x t fun v G1 H1 n1 d h1 x1 s1 r1 q1 => ⟨by rw [r1.length]; exact q1.1, fun p np => ?_⟩
    obtain ⟨s2, r2⟩ := rp_new_tup h1.ok np r1 (by rw [r1.length]; exact q1.1)
    exact k _ _ _ n1 _ (s1.trans s2) r2 q1.2
theorem de_lst {es : List Expr} {ia : IAs} {pos : Pos} (ha : PA X es (liftA (cn X) W (wA T ia))) : PE X (.List es pos) (lift (cn X) W (wE T (.lst ia))) :=
  pe_imp (pe_lst ha) fun s H Q ⟨b, G0, H0, G, n, r, Qd, Ex, h, t, x, k⟩ => by
    rw [wE] at t
    refine liftA_bind h x t fun v G1 H1 n1 d h1 x1 s1 r1 q1 => ⟨by rw [r1.length]; exact q1.1, fun p np => ?_⟩
    obtain ⟨s2, r2⟩ := rp_new_list h1.ok np r1 (by rw [r1.length]; exact q1.1)
    exact k _ _ _ n1 _ (s1.trans s2) r2 q1.2
/-! ### subscripts, slices -/
theorem Rps.atI {K : PySem.W.Frag} {b : Option Addr} {G : Hp} {xs : List V} {ds : List D} (g : Rps K b G xs ds) {i : Int} {d : D} (e : L2.atI ds i = some d) : ∃ v, L2.atI xs i = some v ∧ Rp K b G v d := by
  unfold L2.atI at e ⊢
  rw [g.length]
  cases q : L2.ixN ds.length i with
  | none => rw [q] at e; cases e
  | some j =>
    rw [q] at e
    obtain ⟨v, e1, e2⟩ := g.getD (show ds[j]? = some d from e)
    exact ⟨v, e1, e2⟩
theorem strOk_one {z : Str} {c : Nat} (h : PyData.strOk z = true) (hc : c ∈ z.cps.toList) : PyData.strOk ⟨#[c]⟩ = true := by
  unfold PyData.strOk at h ⊢
  rw [Array.all_eq_true'] at h
  have := h c (by simpa using hc)
  simpa using this
theorem atI_mem {α : Type} {xs : List α} {i : Int} {v : α} (h : L2.atI xs i = some v) : v ∈ xs := by
  unfold L2.atI at h
  cases q : L2.ixN xs.length i with
  | none => rw [q] at h; cases h
  | some j =>
    rw [q] at h
    exact List.mem_of_getElem? (show xs[j]? = some v from h)
theorem de_ix {a i : Expr} {ia ii : IE} {pos : Pos} (ha : PE X a (lift (cn X) W (wE T ia))) (hi : PE X i (lift (cn X) W (wE T ii))) (hs : PlainIx i) : PE X (.Subscript a i pos) (lift (cn X) W (wE T (.ix ia ii))) :=
  pe_imp (pe_ix ix_seq ha hi hs) fun s H Q ⟨b, G0, H0, G, n, r, Qd, Ex, h, t, x, k⟩ => by
    rw [wE] at t
    refine lift_bind h x t fun v G1 H1 n1 d h1 x1 s1 r1 q1 => lift_bind h1 x1 q1 fun w G2 H2 n2 e h2 x2 s2 r2 q2 => ?_
    obtain ⟨z, ez, q3⟩ := ofO_iff q2
    have r1 := r1.mono s2.gg
    cases e with
    | int j =>
      have ew := rp_int_inv r2
      subst ew
      cases d with
      | list xs =>
        obtain ⟨p, vs, rfl, hl, zz, g⟩ := rp_list_inv r1
        obtain ⟨u, e1, e2⟩ := g.atI (show L2.atI xs j = some z from ez)
        exact .inl ⟨p, vs, j, u, rfl, rfl, SqL.of (h2.ok.sub _ _ hl), e1, k _ G2 H2 n2 _ (s1.trans s2) e2 q3⟩
      | tup xs =>
        obtain ⟨p, vs, rfl, hl, zz, g⟩ := rp_tup_inv r1
        obtain ⟨u, e1, e2⟩ := g.atI (show L2.atI xs j = some z from ez)
        exact .inr (.inl ⟨p, vs, j, u, rfl, rfl, sqt_same h2.ok.sub hl, e1, k _ G2 H2 n2 _ (s1.trans s2) e2 q3⟩)
      | str y =>
        obtain ⟨ev, zy, oy⟩ := rp_str_inv r1
        subst ev
        have ez : (L2.atI y.cps.toList j).map (fun c => D.str ⟨#[c]⟩) = some z := ez
        cases q : L2.atI y.cps.toList j with
        | none => rw [q] at ez; cases ez
        | some c =>
          rw [q] at ez
          cases ez
          exact .inr (.inr ⟨y, j, c, rfl, rfl, zy, q, k _ G2 H2 n2 _ (s1.trans s2) (.str _ (by show 1 ≤ sizeLine; rw [sizeLine_eq]; decide) (strOk_one oy (atI_mem q))) q3⟩)
      | _ => cases ez
    | _ => cases d <;> cases ez
end
end Dl

set_option Elab.async false
set_option linter.all false
set_option maxRecDepth 100000
set_option maxHeartbeats 4000000
/-! Expressions: slices, built-in functions, isinstance, calls. -/
namespace Dl
open PySem PySem.Spec PyProof.Rows L2
section
variable {X : Cx} {W : WD} {T : Tab}
/-! ### slices -/
theorem cut_rps {K : PySem.W.Frag} {b : Option Addr} {G : Hp} {xs : List V} {ds : List D} (g : Rps K b G xs ds) (lo hi : Option Int) : Rps K b G (cutV xs lo hi) (cutD ds lo hi) := by
  unfold cutV cutD
  rw [g.length]
  exact (g.drop _).take _
theorem cutD_whole {ds : List D} {lo hi : Option Int} (h1 : HT.sIx ds.length 0 lo = 0) (h2 : HT.sIx ds.length ds.length hi = ds.length) : cutD ds lo hi = ds := by
  unfold cutD
  rw [h1, h2]
  simp
theorem strOk_cut {z : Str} (h : PyData.strOk z = true) (lo hi : Option Int) : PyData.strOk (cutS z lo hi) = true := by
  unfold PyData.strOk at h ⊢
  rw [Array.all_eq_true'] at h ⊢
  intro x hx
  unfold cutS at hx
  refine h x ?_
  have hx : x ∈ ((z.cps.toList.drop (HT.sIx z.length 0 lo)).take (HT.sIx z.length z.length hi - HT.sIx z.length 0 lo)) := by simpa using hx
  have := List.mem_of_mem_drop (List.mem_of_mem_take hx)
  simpa using this
abbrev WO := List Ent → Nat → (Option Int → Nat → Prop) → QX → Prop
def liftO (c : Cn) (W : WD) (te : WO) : TO := fun s H Q => ∃ b G0 H0 G n r Qd Ex, Rho c.K b G0 H0 G H n s r ∧ te r n Qd Ex ∧ XOk c W b G H s Ex ∧ ∀ G' H' n' d, Stp b G H G' H' n' → Qd d n' → Q d H'
theorem po_imp {e : Option Expr} {t t' : TO} (h : PO X e t) (i : ∀ s H Q, t' s H Q → t s H Q) : PO X e t' := ⟨fun pins s a H Q I q => h.run pins s a H Q I (i _ _ _ q)⟩
def IE.part (T : Tab) (h : Bool) (e : IE) : WO := fun r n Q E => wP h (fun q => wE T e r n q E) n Q
theorem dpo_none {e : IE} : PO X none (liftO (cn X) W (IE.part T false e)) := po_imp po_none fun s H Q ⟨b, G0, H0, G, n, r, Qd, Ex, h, t, x, k⟩ => by
  unfold IE.part wP at t
  rw [if_neg (by decide)] at t
  exact k G H n none (Stp.refl h.ok) t
theorem dpo_some {e : Expr} {ie : IE} (he : PE X e (lift (cn X) W (wE T ie))) : PO X (some e) (liftO (cn X) W (IE.part T true ie)) := po_imp (po_some he) fun s H Q ⟨b, G0, H0, G, n, r, Qd, Ex, h, t, x, k⟩ => by
  unfold IE.part wP at t
  rw [if_pos rfl] at t
  refine lift_bind h x t fun v G1 H1 n1 d h1 x1 s1 r1 q1 => ?_
  cases d with
  | int i => exact ⟨i, rp_int_inv r1, k G1 H1 n1 _ s1 q1⟩
  | _ => exact q1.elim
theorem de_slc {a : Expr} {lo hi : Option Expr} {ia il ih : IE} {hl hh : Bool} {p2 pos : Pos} (ha : PE X a (lift (cn X) W (wE T ia))) (h1 : PO X lo (liftO (cn X) W (IE.part T hl il))) (h2 : PO X hi (liftO (cn X) W (IE.part T hh ih))) :
    PE X (.Subscript a (.Slice lo hi none p2) pos) (lift (cn X) W (wE T (.slc ia hl hh il ih))) :=
  pe_imp (pe_slice (sl_list.or (sl_tupA.or sl_str)) ha h1 h2) fun s H Q ⟨b, G0, H0, G, n, r, Qd, Ex, h, t, x, k⟩ => by
    rw [wE] at t
    refine lift_bind h x t fun v G1 H1 n1 d h1 x1 s1 r1 q1 => ?_
    refine ⟨b, G0, H0, G1, n1, r, _, Ex, h1, q1, x1, fun G2 H2 n2 l s2 q2 => ?_⟩
    have h2 := h1.step s2
    refine ⟨b, G0, H0, G2, n2, r, _, Ex, h2, q2, x1.step s2, fun G3 H3 n3 u s3 q3 => ?_⟩
    have h3 := h2.step s3
    have st := (s1.trans s2).trans s3
    have r1 := (r1.mono s2.gg).mono s3.gg
    obtain ⟨z, ez, q4⟩ := ofO_iff q3
    cases d with
    | list ds =>
      obtain ⟨a, xs, rfl, hl, zz, g⟩ := rp_list_inv r1
      cases ez
      refine .inl ⟨a, xs, rfl, SqL.of (h3.ok.sub _ _ hl), fun p np => ?_⟩
      obtain ⟨s4, r4⟩ := rp_new_list h3.ok np (cut_rps g l u) (Nat.le_trans (cutV_length _ _ _) zz)
      exact k _ _ _ n3 _ (st.trans s4) r4 q4
    | tup ds =>
      obtain ⟨a, xs, rfl, hl, zz, g⟩ := rp_tup_inv r1
      cases ez
      refine .inr (.inl ⟨a, xs, rfl, sqt_same h3.ok.sub hl, fun w => ?_, fun _ p np => ?_⟩)
      · rw [g.length] at w
        rw [cutD_whole w.1 w.2] at q4
        exact k _ _ _ n3 _ st r1 q4
      · obtain ⟨s4, r4⟩ := rp_new_tup h3.ok np (cut_rps g l u) (Nat.le_trans (cutV_length _ _ _) zz)
        exact k _ _ _ n3 _ (st.trans s4) r4 q4
    | str y =>
      obtain ⟨ev, zy, oy⟩ := rp_str_inv r1
      subst ev
      cases ez
      exact .inr (.inr ⟨y, rfl, zy, k _ _ _ n3 _ st (.str _ (Nat.le_trans (cutS_length _ _ _) zy) (strOk_cut oy l u)) q4⟩)
    | _ => cases ez
/-! ### built-in functions of one argument -/
def lb1 (K : PySem.W.Frag) (f : D → Option D) : List V → Hp → VK → Prop := fun vs H Q => ∃ b G n v dx z, vs = [v] ∧ Ok b G H n ∧ Rp K b G v dx ∧ f dx = some z ∧ ∀ v' G' H', Stp b G H G' H' n → Rp K b G' v' z → Q v' H'
theorem db_len : CallR X (.builtin "len") (lb1 X.K fun x => biD .len [x]) := by
  intro pins s a H xs us Q I r ⟨b, G, n, v, dx, z, ev, ok, hv, e, q⟩
  subst ev
  cases dx with
  | list ds =>
    obtain ⟨p, ys, rfl, hl, zz, g⟩ := rp_list_inv hv
    cases e
    rw [← g.length] at q
    exact call_len pins s a H _ us Q I r ⟨_, ys.length, rfl, .inl ⟨_, SqL.of (ok.sub _ _ hl), rfl⟩, q _ G H (Stp.refl ok) (.int _)⟩
  | tup ds =>
    obtain ⟨p, ys, rfl, hl, zz, g⟩ := rp_tup_inv hv
    cases e
    rw [← g.length] at q
    exact call_len pins s a H _ us Q I r ⟨_, ys.length, rfl, .inr ⟨_, sqt_same ok.sub hl, rfl⟩, q _ G H (Stp.refl ok) (.int _)⟩
  | str y =>
    obtain ⟨ev, zy, oy⟩ := rp_str_inv hv
    subst ev
    cases e
    exact call_len pins s a H _ us Q I r ⟨_, y.length, rfl, ⟨zy, rfl⟩, q _ G H (Stp.refl ok) (.int _)⟩
  | dict ds =>
    cases hv with
    | @dict p kvs _ h zz g =>
      cases e
      have e2 : ∀ (xs : List (Key × V)) (ds : List (Key × D)), Rkv X.K b G xs ds → xs.length = ds.length := by
        intro xs
        induction xs with
        | nil => intro ds h; cases h; rfl
        | cons x xs ih => intro ds h; cases h with | cons h g => simp [ih _ g]
      rw [← e2 _ _ g] at q
      exact call_lenD pins s a H _ us Q I r ⟨p, kvs, rfl, ok.sub _ _ h, q _ G H (Stp.refl ok) (.int _)⟩
  | _ => cases e
theorem db_tuple : CallR X (.type "tuple") (lb1 X.K fun x => biD .tuple [x]) := by
  intro pins s a H xs us Q I r ⟨b, G, n, v, dx, z, ev, ok, hv, e, q⟩
  subst ev
  cases dx with
  | list ds =>
    obtain ⟨p, ys, rfl, hl, zz, g⟩ := rp_list_inv hv
    cases e
    refine call_tuple_of pins s a H _ us Q I r ⟨p, ys, rfl, .inl ⟨SqL.of (ok.sub _ _ hl), fun l nl => ?_⟩⟩
    obtain ⟨s4, r4⟩ := rp_new_tup ok nl g zz
    exact q _ _ _ s4 r4
  | tup ds =>
    obtain ⟨p, ys, rfl, hl, zz, g⟩ := rp_tup_inv hv
    cases e
    exact call_tuple_of pins s a H _ us Q I r ⟨p, ys, rfl, .inr ⟨sqt_same ok.sub hl, q _ _ _ (Stp.refl ok) hv⟩⟩
  | _ => cases e
theorem db_list : CallR X (.type "list") (lb1 X.K fun x => biD .list [x]) := by
  intro pins s a H xs us Q I r ⟨b, G, n, v, dx, z, ev, ok, hv, e, q⟩
  subst ev
  cases dx with
  | list ds =>
    obtain ⟨p, ys, rfl, hl, zz, g⟩ := rp_list_inv hv
    cases e
    refine call_list_of pins s a H _ us Q I r ⟨p, ys, rfl, .inl (SqL.of (ok.sub _ _ hl)), fun l nl => ?_⟩
    obtain ⟨s4, r4⟩ := rp_new_list ok nl g zz
    exact q _ _ _ s4 r4
  | tup ds =>
    obtain ⟨p, ys, rfl, hl, zz, g⟩ := rp_tup_inv hv
    cases e
    refine call_list_of pins s a H _ us Q I r ⟨p, ys, rfl, .inr (sqt_same ok.sub hl), fun l nl => ?_⟩
    obtain ⟨s4, r4⟩ := rp_new_list ok nl g zz
    exact q _ _ _ s4 r4
  | _ => cases e
theorem bools_rps {K : PySem.W.Frag} {b : Option Addr} {G : Hp} : ∀ {xs : List V} {ds : List D} {bs : List Bool}, Rps K b G xs ds → bools ds = some bs → xs = bs.map V.bl
  | _, [], bs, h, e => by
    cases h
    cases e
    rfl
  | _, d :: ds, bs, h, e => by
    cases h with
    | cons h g =>
      cases d with
      | bl c =>
        rw [bools] at e
        cases q : bools ds with
        | none => rw [q] at e; cases e
        | some cs =>
          rw [q] at e
          cases e
          rw [bools_rps g q, rp_bl_inv h]
          rfl
      | _ => cases e
theorem db_all (hc : X.calm = true) : CallR X (.builtin "all") (lb1 X.K fun x => biD .all [x]) := by
  intro pins s a H xs us Q I r ⟨b, G, n, v, dx, z, ev, ok, hv, e, q⟩
  subst ev
  cases dx with
  | list ds =>
    obtain ⟨p, ys, rfl, hl, zz, g⟩ := rp_list_inv hv
    have e : (bools ds).map (fun bs => D.bl (bs.all id)) = some z := e
    cases qq : bools ds with
    | none => rw [qq] at e; cases e
    | some bs =>
      rw [qq] at e
      cases e
      have ey := bools_rps g qq
      subst ey
      exact cr_all hc pins s a H _ us Q I r ⟨p, bs, rfl, SqL.of (ok.sub _ _ hl), q _ G H (Stp.refl ok) (.bl _)⟩
  | _ => cases e
theorem db_any (hc : X.calm = true) : CallR X (.builtin "any") (lb1 X.K fun x => biD .any [x]) := by
  intro pins s a H xs us Q I r ⟨b, G, n, v, dx, z, ev, ok, hv, e, q⟩
  subst ev
  cases dx with
  | list ds =>
    obtain ⟨p, ys, rfl, hl, zz, g⟩ := rp_list_inv hv
    have e : (bools ds).map (fun bs => D.bl (bs.any id)) = some z := e
    cases qq : bools ds with
    | none => rw [qq] at e; cases e
    | some bs =>
      rw [qq] at e
      cases e
      have ey := bools_rps g qq
      subst ey
      exact cr_any hc pins s a H _ us Q I r ⟨p, bs, rfl, SqL.of (ok.sub _ _ hl), q _ G H (Stp.refl ok) (.bl _)⟩
  | _ => cases e
theorem db_int : CallR X (.type "int") (lb1 X.K fun x => biD .int [x]) := by
  intro pins s a H xs us Q I r ⟨b, G, n, v, dx, z, ev, ok, hv, e, q⟩
  subst ev
  cases dx with
  | int i =>
    have ev := rp_int_inv hv
    subst ev
    cases e
    exact call_int1 pins s a H _ us Q I r (.inl ⟨i, rfl, q _ G H (Stp.refl ok) (.int _)⟩)
  | bl i =>
    have ev := rp_bl_inv hv
    subst ev
    cases e
    exact call_int1 pins s a H _ us Q I r (.inr ⟨i, rfl, q _ G H (Stp.refl ok) (.int _)⟩)
  | _ => cases e
theorem db_abs : CallR X (.builtin "abs") (lb1 X.K fun x => biD .abs [x]) := by
  intro pins s a H xs us Q I r ⟨b, G, n, v, dx, z, ev, ok, hv, e, q⟩
  subst ev
  cases dx with
  | int i =>
    have ev := rp_int_inv hv
    subst ev
    cases e
    exact call_abs pins s a H _ us Q I r ⟨i, rfl, q _ G H (Stp.refl ok) (.int _)⟩
  | _ => cases e
theorem bi_read {t : TA} {f : Bi} {ia : IE} {s : L2.St} {H : Hp} {Q : VK} (ht : ∀ Q', lift (cn X) W (wE T ia) s H (fun v H1 => Q' [v] H1) → t s H Q') (h : lift (cn X) W (wE T (.bi f ia)) s H Q) : tCB (lb1 X.K fun x => biD f [x]) t s H Q := by
  obtain ⟨b, G0, H0, G, n, r, Qd, Ex, h, t, x, k⟩ := h
  rw [wE] at t
  refine ht _ (lift_bind h x t fun v G1 H1 n1 d h1 x1 s1 r1 q1 => ?_)
  obtain ⟨z, ez, q3⟩ := ofO_iff q1
  exact ⟨b, G1, n1, v, d, z, rfl, h1.ok, r1, ez, fun v' G' H' st r' => k v' G' H' n1 z (s1.trans st) r' q3⟩
theorem de_biB {f : Bi} {a : Expr} {ia : IE} {nm : Str} {id : String} {p pos : Pos} (hc : CallR X (.builtin id) (lb1 X.K fun x => biD f [x])) (hg : Gl X nm) (hm : X.mg nm = none) (hv : bootBuiltins nm = some (.builtin id)) (hn : nm ≠ "__name__") (hdb : (nm == ("__debug__" : Str)) = false)
    (ha : PE X a (lift (cn X) W (wE T ia))) (hs : starEach [a] X.env = [(false, eval a X.env)]) : PE X (.Call (.Name nm p) [a] [] pos) (lift (cn X) W (wE T (.bi f ia))) :=
  pe_imp (pe_callB hc hg hm hv (pa_cons ha pa_nil hs) hn hdb hs) fun s H Q h => bi_read (fun Q' q => q) h
theorem de_biT {f : Bi} {a : Expr} {ia : IE} {nm : Str} {id : String} {p pos : Pos} (hc : CallR X (.type id) (lb1 X.K fun x => biD f [x])) (hg : Gl X nm) (hm : X.mg nm = none) (hv : bootBuiltins nm = some (.type id)) (hn : nm ≠ "__name__") (hdb : (nm == ("__debug__" : Str)) = false)
    (ha : PE X a (lift (cn X) W (wE T ia))) (hs : starEach [a] X.env = [(false, eval a X.env)]) : PE X (.Call (.Name nm p) [a] [] pos) (lift (cn X) W (wE T (.bi f ia))) :=
  pe_imp (pe_callTy hc hg hm hv (pa_cons ha pa_nil hs) hn hdb hs) fun s H Q h => bi_read (fun Q' q => q) h
/-! ### isinstance -/
def D.tyN : D → String
  | .non => "NoneType"
  | .bl _ => "bool"
  | .int _ => "int"
  | .str _ => "str"
  | .list _ => "list"
  | .tup _ => "tuple"
  | .dict _ => "dict"
  | .box => "list"
def Ty.nm : Ty → String
  | .int => "int"
  | .bool => "bool"
  | .str => "str"
  | .list => "list"
  | .tuple => "tuple"
  | .dict => "dict"
theorem ty_rp {K : PySem.W.Frag} {b : Option Addr} {G H : Hp} {v : V} {d : D} (sm : Same G H) (h : Rp K b G v d) (nb : d.isBox = false) : TyX K H v (.type d.tyN) := by
  cases h with
  | non => exact .base .non
  | bl x => exact .base (.bl x)
  | int i => exact .base (.int i)
  | str x z o => exact .base (.str x)
  | list h z g => exact .base (.lst (sm _ _ h))
  | tup h z g =>
    rcases h with (h | ⟨o, h⟩) | ⟨o, its, n, h1, h2, _⟩
    · exact .base (.tup (sm _ _ h))
    · exact .fTuple (sm _ _ h)
    · exact .kTuple h1 h2
  | dict h z g => exact .base (.dK (sm _ _ h))
  | box h => cases nb
theorem kitB_ty (d : D) (t : Ty) (nb : d.isBox = false) : kitB d.tyN t.nm = some (d.isTy t) := by
  cases d <;> cases t <;> first | (cases nb; done) | (simp only [D.tyN, Ty.nm, D.isTy]; decide +kernel)
theorem kitAny_ty {K : PySem.W.Frag} (d : D) (nb : d.isBox = false) : ∀ ts : List Ty, PySem.W.kitAny K (.type d.tyN) (ts.map fun t => Value.type t.nm) = some (ts.any fun t => d.isTy t)
  | [] => rfl
  | t :: ts => by
    rw [List.map_cons, List.any_cons]
    refine kitAny_cons (b := d.isTy t) (kit_ty (kitB_ty d t nb)) (fun e => ?_) (fun e => ?_)
    · rw [e, kitAny_ty d nb ts]
      rfl
    · rw [e]
      rfl
def tyOf (x : Str) : Option Ty :=
  if x = "int" then some .int else if x = "bool" then some .bool else if x = "str" then some .str else if x = "list" then some .list else if x = "tuple" then some .tuple else if x = "dict" then some .dict else none
theorem tyOf_eq {x : Str} {t : Ty} (h : tyOf x = some t) : x = (t.nm : Str) := by
  unfold tyOf at h
  split at h
  · cases h; assumption
  split at h
  · cases h; assumption
  split at h
  · cases h; assumption
  split at h
  · cases h; assumption
  split at h
  · cases h; assumption
  split at h
  · cases h; assumption
  cases h
theorem boot_ty (t : Ty) : bootBuiltins (t.nm : Str) = some (.type t.nm) := by
  cases t <;> (simp only [Ty.nm]; decide +kernel)
/-- the class's name as a value -/
theorem pe_ty {x : Str} {t : Ty} {pos : Pos} (e : tyOf x = some t) (hg : Gl X x) (hm : X.mg x = none) : PE X (.Name x pos) (tC (.ty t.nm)) := by
  have ex := tyOf_eq e
  subst ex
  refine pe_bltn hg hm (boot_ty t) rfl ?_ ?_
  · cases t <;> (simp only [Ty.nm]; decide +kernel)
  · cases t <;> (simp only [Ty.nm]; decide +kernel)
def tysE : List Expr → Option (List Ty)
  | [] => some []
  | .Name x _ :: r => match tyOf x, tysE r with
    | some t, some ts => some (t :: ts)
    | _, _ => none
  | _ :: _ => none
theorem pa_tys : ∀ {es : List Expr} {ts : List Ty}, tysE es = some ts → (∀ x p, Expr.Name x p ∈ es → Gl X x ∧ X.mg x = none) → PA X es (fun _ H Q => Q (ts.map fun t => V.ty t.nm) H)
  | [], ts, e, _ => by
    cases e
    exact pa_nil
  | .Name x p :: r, ts, e, h => by
    rw [tysE] at e
    split at e
    · rename_i t ts' e1 e2
      cases e
      have h1 := h x p List.mem_cons_self
      refine pa_imp (pa_cons (pe_ty e1 h1.1 h1.2) (pa_tys e2 fun y q hy => h y q (List.mem_cons_of_mem _ hy))) fun s H Q q => q
    · cases e
theorem isi_read {d : D} {v : V} {b : Option Addr} {G H : Hp} {ts : List Ty} {Q : VK} {tp : Addr} (sm : Same G H) (h : Rp X.K b G v d) (nb : d.isBox = false) (hp : H tp = some (.tup (ts.map fun t => V.ty t.nm))) (q : Q (.bl (ts.any fun t => d.isTy t)) H) : rIsiT X.K [v, .ref tp] H Q := by
  refine ⟨v, tp, _, _, ts.map fun t => Value.type t.nm, _, rfl, hp, ?_, ty_rp sm h nb, kitAny_ty d nb ts, q⟩
  clear hp q
  induction ts with
  | nil => exact .nil
  | cons t ts ih => exact .cons (.ty _) ih
theorem de_isi1 {a : Expr} {ia : IE} {x : Str} {t : Ty} {p p2 pos : Pos} (hg : Gl X "isinstance") (hm : X.mg "isinstance" = none) (e : tyOf x = some t) (hg1 : Gl X x) (hm1 : X.mg x = none) (ha : PE X a (lift (cn X) W (wE T ia))) (hs : ∀ es, starEach (a :: es) X.env = (false, eval a X.env) :: starEach es X.env) :
    PE X (.Call (.Name "isinstance" p) [a, .Name x p2] [] pos) (lift (cn X) W (wE T (.isi ia [t]))) :=
  pe_imp (pe_callB call_isi hg hm boot_isinstance (pa_cons ha (pa_cons (pe_ty e hg1 hm1) pa_nil) (hs _)) (by decide +kernel) (by decide +kernel) (hs _)) fun s H Q ⟨b, G0, H0, G, n, r, Qd, Ex, h, t', x, k⟩ => by
    rw [wE] at t'
    refine lift_bind h x t' fun v G1 H1 n1 d h1 x1 s1 r1 q1 => ?_
    have e3 : ([t].any fun t => d.isTy t) = d.isTy t := by simp
    exact ⟨v, _, _, _, _, rfl, .ty _, ty_rp h1.ok.sub r1 q1.1, kit_ty (kitB_ty d t q1.1), k _ G1 H1 n1 _ s1 (.bl _) (by have := q1.2; rw [e3] at this; exact this)⟩
theorem de_isiN {a : Expr} {ia : IE} {es : List Expr} {ts : List Ty} {kk : Nat} {p p2 pos : Pos} (hg : Gl X "isinstance") (hm : X.mg "isinstance" = none) (e : tysE es = some ts) (hgs : ∀ x p, Expr.Name x p ∈ es → Gl X x ∧ X.mg x = none) (hl : ts.length ≤ sizeLine) (ha : PE X a (lift (cn X) W (wE T ia))) (hs : ∀ es, starEach (a :: es) X.env = (false, eval a X.env) :: starEach es X.env) :
    PE X (.Call (.Name "isinstance" p) [a, .Tuple es kk p2] [] pos) (lift (cn X) W (wE T (.isi ia ts))) :=
  pe_imp (pe_callB call_isiT hg hm boot_isinstance (pa_cons ha (pa_cons (pe_tup (pa_tys e hgs)) pa_nil) (hs _)) (by decide +kernel) (by decide +kernel) (hs _)) fun s H Q ⟨b, G0, H0, G, n, r, Qd, Ex, h, t', x, k⟩ => by
    rw [wE] at t'
    refine lift_bind h x t' fun v G1 H1 n1 d h1 x1 s1 r1 q1 => ⟨by rw [List.length_map]; exact hl, fun tp np => ?_⟩
    have st : Stp b G1 H1 G1 (upd H1 tp (.tup (ts.map fun t => V.ty t.nm))) n1 := Stp.own h1.ok np
    exact isi_read st.gh r1 q1.1 upd_same (k _ G1 _ n1 _ (s1.trans st) (.bl _) q1.2)
/-! ### calls of defs -/
def spOf (c : Cn) (fs : FS) : Sp := fun vs H Q E => ∃ b G n ds Qd Ex, Ok b G H n ∧ Rps c.K b G vs ds ∧ fs ds n Qd Ex ∧ (∀ cls d G' H' n' x, Stp b G H G' H' n' → Rx c b G' H' cls d x → Ex x n' → E cls d H') ∧
  ∀ v G' H' n' d, Stp b G H G' H' n' → Rp c.K b G' v d → Qd d n' → Q v H'
/-- what is known of a def that is called -/
structure FnD (X : Cx) (k : Nat) (f : Str) (fs : FS) : Prop where
  ex : ∃ (a : Addr) (fd : FuncData) (ps : List Str), X.mg f = some (.ref a) ∧ PySem.W.keepIn X.K (.ref a) = true ∧ Binds X.K fd ps [] ∧ FnOk X.prog X.w X.K X.mg X.base (L2.CX X.prog X.w) k a fd ps (spOf (cn X) fs)
theorem de_call {k : Nat} {f : Str} {e : Expr} {es : List Expr} {ia : IAs} {p pos : Pos} (tk : Takes X W) (hf : ∀ fs, T.fs f = some fs → FnD X k f fs) (hr : Room k X.A) (hg : Gl X f) (hdb : (f == ("__debug__" : Str)) = false) (ha : PA X (e :: es) (liftA (cn X) W (wA T ia)))
    (he : starEach (e :: es) X.env = (false, eval e X.env) :: starEach es X.env) (hpl : (backTo pos (starEach es X.env)).any (·.1) = false) : PE X (.Call (.Name f p) (e :: es) [] pos) (lift (cn X) W (wE T (.call f ia))) := by
  cases q : T.fs f with
  | none => exact ⟨fun pins s a H Q I ⟨b, G0, H0, G, n, r, Qd, Ex, h, t, x, k⟩ => by
      rw [wE, q] at t
      exact t.elim⟩
  | some fs =>
    obtain ⟨a, fd, ps, h1, h2, h3, h4⟩ := (hf fs q).ex
    refine pe_imp (pe_callS h4 hr hg h1 h2 h3 (fun a => passAt tk a) ha hdb he hpl) fun s H Q ⟨b, G0, H0, G, n, r, Qd, Ex, h, t, x, k⟩ => ?_
    rw [wE, q, ofO_some] at t
    refine liftA_bind h x t fun v G1 H1 n1 d h1 x1 s1 r1 q1 => ?_
    exact ⟨b, G1, n1, d, Qd, Ex, h1.ok, r1, q1, fun cls d G' H' n' xx st rx ex => x1 cls d G' H' n' xx st rx ex, fun v G' H' n' d st rr qq => k v G' H' n' d (s1.trans st) rr qq⟩
/-! ### join -/
theorem strs_rps {K : PySem.W.Frag} {b : Option Addr} {G : Hp} : ∀ {xs : List V} {ds : List D} {ys : List Str}, Rps K b G xs ds → strsD ds = some ys → xs = ys.map V.str ∧ ∀ y ∈ ys, PyData.strOk y = true
  | _, [], bs, h, e => by
    cases h
    cases e
    exact ⟨rfl, fun y hy => by cases hy⟩
  | _, d :: ds, bs, h, e => by
    cases h with
    | cons h g =>
      cases d with
      | str c =>
        rw [strsD] at e
        cases q : strsD ds with
        | none => rw [q] at e; cases e
        | some cs =>
          rw [q] at e
          cases e
          obtain ⟨e1, e2⟩ := strs_rps g q
          obtain ⟨e3, e4, e5⟩ := rp_str_inv h
          refine ⟨by rw [e1, e3]; rfl, fun y hy => ?_⟩
          rcases List.mem_cons.mp hy with z | z
          · rw [z]; exact e5
          · exact e2 y z
      | _ => cases e
theorem join_len (z : Str) : ∀ ys : List Str, (Str.join z ys).length ≤ (ys.map (·.length)).sum + ys.length * z.length
  | [] => Nat.zero_le _
  | [x] => by
    show x.length ≤ _
    simp
  | x :: y :: r => by
    show (x ++ z ++ Str.join z (y :: r)).length ≤ _
    rw [len_app, len_app]
    have := join_len z (y :: r)
    rw [List.map_cons, List.sum_cons, List.length_cons, Nat.succ_mul]
    omega
theorem join_ok {z : Str} (hz : PyData.strOk z = true) : ∀ {ys : List Str}, (∀ y ∈ ys, PyData.strOk y = true) → PyData.strOk (Str.join z ys) = true
  | [], _ => by unfold PyData.strOk; show (#[] : Array Nat).all _ = true; simp
  | [x], h => h x List.mem_cons_self
  | x :: y :: r, h => by
    show PyData.strOk (x ++ z ++ Str.join z (y :: r)) = true
    exact strOk_app (strOk_app (h x List.mem_cons_self) hz) (join_ok hz fun w hw => h w (List.mem_cons_of_mem _ hw))
theorem de_join {z : Str} {j : Nat} {a : Expr} {ia : IE} {p0 apos pos : Pos} (hz : z.length ≤ sizeLine) (ho : PyData.strOk z = true) (ha : PE X a (lift (cn X) W (wE T ia))) (hs : starEach [a] X.env = [(false, eval a X.env)]) (hline : (apos.endLine == pos.line) = true) :
    PE X (.Call (.Attribute (.Constant (.str z) j p0) "join" apos) [a] [] pos) (lift (cn X) W (wE T (.join z ia))) :=
  pe_imp (pe_join (X := X) (pe_str (x := z) (j := j) (pos := p0)) ha hs rfl hline) fun s H Q ⟨b, G0, H0, G, n, r, Qd, Ex, h, t, x, k⟩ => by
    rw [wE] at t
    refine ⟨⟨z, rfl⟩, lift_bind h x t fun v G1 H1 n1 d h1 x1 s1 r1 q1 => ?_⟩
    obtain ⟨y, ey, q3⟩ := ofO_iff q1
    cases d with
    | list ds =>
      obtain ⟨p, xs, rfl, hl, zz, g⟩ := rp_list_inv r1
      unfold joinD at ey
      dsimp only at ey
      cases q : strsD ds with
      | none => rw [q] at ey; cases ey
      | some ys =>
        rw [q] at ey
        dsimp only at ey
        rw [Option.ite_none_right_eq_some] at ey
        obtain ⟨c, ey⟩ := ey
        cases ey
        obtain ⟨e1, e2⟩ := strs_rps g q
        subst e1
        refine ⟨z, p, ys, rfl, rfl, .inl (SqL.of (h1.ok.sub _ _ hl)), c, k _ G1 H1 n1 _ s1 (.str _ ?_ ?_) q3⟩
        · rw [TL.join_eq]
          have := join_len z ys
          rw [sizeLine_eq]
          omega
        · rw [TL.join_eq]
          exact join_ok ho e2
    | _ => cases ey
/-! ### a written dict asked -/
def tKGet (K : PySem.W.Frag) (d : Addr) (ty tx : TE) : TE := fun s H Q => ty s H fun y H2 => tx s H2 fun z H3 => ∃ (k : Str) (r : Option Value) (v : V), y = .str k ∧ PySem.W.nsIn K d k = some r ∧ (∀ u, r = some u → L2.RelV v u) ∧ (r = none → v = z) ∧ Q v H3
theorem pe_kget {o e f : Expr} {ty tx : TE} {apos cpos : Pos} {d : Addr} {es : Array DictEntry} {n : Nat} (D : KDict X.K X.w d es n) (ho : PE X o (fun _ H Q => Q (.ref d) H)) (he : PE X e ty) (hf : PE X f tx) (m : M2 X o "get" apos e f cpos) : PE X (.Call (.Attribute o "get" apos) [e, f] [] cpos) (tKGet X.K d ty tx) := by
  refine ⟨fun pins s a H Q I h => ?_⟩
  refine wpAny_Call_method m.base m.few m.line PySem.F.plainAttrs_dict PySem.F.slot_dict_get PySem.F.type_dict_get (thn (ho.run pins s a H (fun x H1 => x = .ref d ∧ H1 = H) I ⟨rfl, rfl⟩) fun u s1 ⟨x, H1, I1, rx, ex, e1⟩ => ?_)
  subst ex e1
  obtain rfl : u = Value.ref d := rx
  refine ⟨kd_type D I1, fun b q => ?_, ?_⟩
  · cases q
    exact ⟨_, I1.kIn _ _ D.at_, rfl⟩
  rw [m.trees]
  refine Calls.callWith_builtin rfl (Calls.evalArgs_plain (Calls.spliced_cons (thn (he.run pins s1 a H1 _ I1 h) fun iv s2 ⟨y, H2, I2, ry, q2⟩ =>
    Calls.spliced_cons (thn (hf.run pins s2 a H2 _ I2 q2) fun fv s3 ⟨z, H3, I3, rz, k, r, v, ey, hk, hv, hz, q3⟩ => Calls.spliced_nil ?_))))
  subst ey
  obtain ⟨t, rfl⟩ := ry
  refine call_meetsIn PySem.F.slot_dict_get (kd_type D I3) PySem.F.entry_dict_get (PySem.F.args_dict_get_3 _ _ _) (meets_dict_get_default (strKind X.prog X.w) d (PySem.strKind_is X.prog X.w k t) D.low fv) ⟨_, PySem.W.mapOf_K (prog := X.prog) I3.kIn D.at_ D.lit, ?_⟩
  rw [PySem.W.find_K D.at_ hk]
  refine ⟨v, H3, I3.tok _, ?_, q3⟩
  cases r with
  | none =>
    rw [hz rfl]
    exact rz
  | some u => exact hv u rfl
/-- what is known of a written dict with text keys -/
structure GdD (X : Cx) (x : Str) (kv : List (Str × D)) : Prop where
  ex : ∃ (d : Addr) (es : Array DictEntry) (n : Nat), X.mg x = some (.ref d) ∧ KDict X.K X.w d es n ∧ ∀ k, (∃ u v, PySem.W.nsIn X.K d k = some (some u) ∧ L2.RelV v u ∧ ∃ e, kv.lookup k = some e ∧ ∀ b G, Rp X.K b G v e) ∨ (PySem.W.nsIn X.K d k = some none ∧ kv.lookup k = none)
theorem de_gget {x : Str} {a f : Expr} {ia ie : IE} {p0 apos pos : Pos} (hd : ∀ kv, T.gd x = some kv → GdD X x kv) (hg : Gl X x) (hdb : (x == ("__debug__" : Str)) = false) (ha : PE X a (lift (cn X) W (wE T ia))) (hf : PE X f (lift (cn X) W (wE T ie))) (m : M2 X (.Name x p0) "get" apos a f pos) :
    PE X (.Call (.Attribute (.Name x p0) "get" apos) [a, f] [] pos) (lift (cn X) W (wE T (.gget x ia ie))) := by
  cases q : T.gd x with
  | none => exact ⟨fun pins s a H Q I ⟨b, G0, H0, G, n, r, Qd, Ex, h, t, x, k⟩ => by
      rw [wE, q] at t
      exact t.elim⟩
  | some kv =>
    obtain ⟨d, es, n, h1, h2, h3⟩ := (hd kv q).ex
    refine pe_imp (pe_kget h2 (pe_glob hg h1 rfl hdb) ha hf m) fun s H Q ⟨b, G0, H0, G, n, r, Qd, Ex, h, t, x, k⟩ => ?_
    rw [wE, q, ofO_some] at t
    refine lift_bind h x t fun v G1 H1 n1 d h1 x1 s1 r1 q1 => lift_bind h1 x1 q1 fun w G2 H2 n2 e h2 x2 s2 r2 q2 => ?_
    cases d with
    | str z =>
      obtain ⟨e1, e2, e3⟩ := rp_str_inv r1
      rcases h3 z with ⟨u, v', g1, g2, e', g3, g4⟩ | ⟨g1, g3⟩
      · have q2 : Qd ((kv.lookup z).getD e) n2 := q2
        rw [g3] at q2
        exact ⟨z, some u, v', e1, g1, fun u' eu => by cases eu; exact g2, (fun z => nomatch z), k _ G2 H2 n2 _ (s1.trans s2) (g4 b G2) q2⟩
      · have q2 : Qd ((kv.lookup z).getD e) n2 := q2
        rw [g3] at q2
        exact ⟨z, none, w, e1, g1, (fun u' eu => nomatch eu), fun _ => rfl, k _ G2 H2 n2 _ (s1.trans s2) r2 q2⟩
    | _ => exact q2.elim
/-! ### a list of one's own, read -/
theorem ow_list {K : PySem.W.Frag} {b : Option Addr} {G0 H0 G H : Hp} {n : Nat} {s : L2.St} {r : List Ent} (h : Rho K b G0 H0 G H n s r) {i : Nat} {ys : List D} (e : owL r i = some ys) :
    ∃ p xs, s[i]? = some (some (.ref p)) ∧ H p = some (.lst xs) ∧ xs.length ≤ sizeLine ∧ Rps K b G xs ys := by
  unfold owL at e
  split at e
  · rename_i e0
    cases e
    obtain ⟨v, e1, e2⟩ := h.ent i _ e0
    obtain ⟨p, xs, rfl, hl, z, g⟩ := rp_list_inv e2
    exact ⟨p, xs, e1, h.ok.sub _ _ hl, z, g⟩
  · rename_i e0
    cases e
    obtain ⟨p, e1, _, _, _, e5⟩ := h.ent i _ e0
    rcases e5 with ⟨xs, ds, ed, hl, z, g⟩ | ⟨xs, ds, ed, _⟩
    · cases ed
      exact ⟨p, xs, e1, hl, z, g⟩
    · cases ed
  · cases e
def rInO (K : PySem.W.Frag) (neg : Bool) : R2 := fun x y H Q => ∃ b G dx ds xs p, Same G H ∧ Rp K b G x dx ∧ Rps K b G xs ds ∧ inOk dx ds = true ∧ y = .ref p ∧ H p = some (.lst xs) ∧ Q (.bl (if neg then !ds.any fun z => z.eqb dx else ds.any fun z => z.eqb dx)) H
theorem op_inO (hu : X.A.units + 65 < cLine) (neg : Bool) : OpR X (compareOp (if neg then .NotIn else .In)) (rInO X.K neg) := by
  intro pins s a H x y v u Q I rx ry ⟨b, G, dx, ds, xs, p, sm, hx, g, c, ey, hp, q⟩
  subst ey
  cases ry
  exact in_core hu I rx sm hx g c neg (.inl (SqL.of hp)) q
theorem inO_read {neg : Bool} {ia : IE} {i : Nat} {s : L2.St} {H : Hp} {Q : VK} (hq : lift (cn X) W (wE T (.inO neg ia i)) s H Q) : tOp (rInO X.K neg) (lift (cn X) W (wE T ia)) (tVar i) s H Q := by
  obtain ⟨b, G0, H0, G, n, r, Qd, Ex, h, t, x, k⟩ := hq
  rw [wE] at t
  refine lift_bind h x t fun v G1 H1 n1 d h1 x1 s1 r1 q1 => ?_
  obtain ⟨ys, e, q⟩ := ofO_iff q1
  obtain ⟨p, xs, e1, hp, z, g⟩ := ow_list h1 e
  exact ⟨.ref p, e1, b, G1, d, ys, xs, p, h1.ok.sub, r1, g, q.1, rfl, hp, k _ G1 H1 n1 _ s1 (.bl _) q.2⟩
theorem de_in {a : Expr} {ia : IE} {i : Nat} {x : Str} {p pos : Pos} (hu : X.A.units + 65 < cLine) (ha : PE X a (lift (cn X) W (wE T ia))) (hN : X.N[i]? = some x) (hv : Vis X.env.scope x) (hd : (x == ("__debug__" : Str)) = false) (hcd : (x == ("__classdict__" : Str)) = false) :
    PE X (.Compare a [.In] [.Name x p] pos) (lift (cn X) W (wE T (.inO false ia i))) := pe_imp (pe_cmpR (op_inO (X := X) hu false) ha (pe_var hN hv hd hcd) rfl) fun s H Q h => inO_read h
theorem de_notin {a : Expr} {ia : IE} {i : Nat} {x : Str} {p pos : Pos} (hu : X.A.units + 65 < cLine) (ha : PE X a (lift (cn X) W (wE T ia))) (hN : X.N[i]? = some x) (hv : Vis X.env.scope x) (hd : (x == ("__debug__" : Str)) = false) (hcd : (x == ("__classdict__" : Str)) = false) :
    PE X (.Compare a [.NotIn] [.Name x p] pos) (lift (cn X) W (wE T (.inO true ia i))) := pe_imp (pe_cmpR (op_inO (X := X) hu true) ha (pe_var hN hv hd hcd) rfl) fun s H Q h => inO_read h
theorem inO_readT {neg : Bool} {ia : IE} {i : Nat} {s : L2.St} {H : Hp} {Q : Bool → Hp → Prop} (hq : lT X W (wE T (.inO neg ia i)) s H Q) : tTest (tOp (rInO X.K neg) (lift (cn X) W (wE T ia)) (tVar i)) s H Q := by
  obtain ⟨b, G0, H0, G, n, r, Qd, Ex, h, t, x, k⟩ := hq
  rw [wE] at t
  refine lift_bind h x t fun v G1 H1 n1 d h1 x1 s1 r1 q1 => ?_
  obtain ⟨ys, e, q⟩ := ofO_iff q1
  obtain ⟨p, xs, e1, hp, z, g⟩ := ow_list h1 e
  exact ⟨.ref p, e1, b, G1, d, ys, xs, p, h1.ok.sub, r1, g, q.1, rfl, hp, _, rfl, k G1 H1 n1 _ s1 q.2⟩
theorem de_lenO {i : Nat} {x : Str} {p p2 pos : Pos} (hg : Gl X "len") (hm : X.mg "len" = none) (hN : X.N[i]? = some x) (hv : Vis X.env.scope x) (hd : (x == ("__debug__" : Str)) = false) (hcd : (x == ("__classdict__" : Str)) = false) :
    PE X (.Call (.Name "len" p) [.Name x p2] [] pos) (lift (cn X) W (wE T (.lenO i))) := pe_imp (pe_callB call_len hg hm boot_len (pa_cons (pe_var hN hv hd hcd) pa_nil) (by decide +kernel) (by decide +kernel)) fun s H Q ⟨b, G0, H0, G, n, r, Qd, Ex, h, t, x, k⟩ => by
  rw [wE] at t
  obtain ⟨ys, e, q⟩ := ofO_iff t
  obtain ⟨p, xs, e1, hp, z, g⟩ := ow_list h e
  rw [← g.length] at q
  exact ⟨.ref p, e1, .ref p, xs.length, rfl, .inl ⟨_, SqL.of hp, rfl⟩, k _ G H n _ (Stp.refl h.ok) (.int _) q⟩
theorem dt_in {a : Expr} {ia : IE} {i : Nat} {x : Str} {p pos : Pos} (hu : X.A.units + 65 < cLine) (ha : PE X a (lift (cn X) W (wE T ia))) (hN : X.N[i]? = some x) (hv : Vis X.env.scope x) (hd : (x == ("__debug__" : Str)) = false) (hcd : (x == ("__classdict__" : Str)) = false) :
    PT X (.Compare a [.In] [.Name x p] pos) (lT X W (wE T (.inO false ia i))) := pt_imp (pt_cmpR (op_inO (X := X) hu false) ha (pe_var hN hv hd hcd) rfl) fun s H Q h => inO_readT h
theorem dt_notin {a : Expr} {ia : IE} {i : Nat} {x : Str} {p pos : Pos} (hu : X.A.units + 65 < cLine) (ha : PE X a (lift (cn X) W (wE T ia))) (hN : X.N[i]? = some x) (hv : Vis X.env.scope x) (hd : (x == ("__debug__" : Str)) = false) (hcd : (x == ("__classdict__" : Str)) = false) :
    PT X (.Compare a [.NotIn] [.Name x p] pos) (lT X W (wE T (.inO true ia i))) := pt_imp (pt_cmpR (op_inO (X := X) hu true) ha (pe_var hN hv hd hcd) rfl) fun s H Q h => inO_readT h
end
end Dl

set_option Elab.async false
set_option linter.all false
set_option maxRecDepth 100000
set_option maxHeartbeats 4000000
/-! How many unlike keys a tuple has: len(set(..)). -/
namespace Dl
open PySem PySem.Spec PyProof.Rows L2
section
variable {K : Type} [DecidableEq K]
theorem more1_mem (l : List K) (x k : K) : k ∈ more1 l x ↔ k ∈ l ∨ k = x := by
  unfold more1
  split
  · rename_i h
    constructor
    · exact .inl
    · rintro (z | rfl)
      · exact z
      · exact h
  · simp
theorem more1_len (l : List K) (x : K) : (more1 l x).length = if x ∈ l then l.length else l.length + 1 := by
  unfold more1
  split <;> simp
theorem unlike_next {xs : List K} {i : Nat} {x : K} (h : xs[i]? = some x) : unlike (xs.take (i + 1)) = more1 (unlike (xs.take i)) x := by
  unfold unlike
  rw [List.take_add_one, h]
  simp [List.foldl_append]
theorem unlike_len (xs : List K) : (unlike xs).length ≤ xs.length := by
  have key : ∀ (xs l : List K), (xs.foldl more1 l).length ≤ l.length + xs.length := by
    intro xs
    induction xs with
    | nil => intro l; exact Nat.le_refl _
    | cons x xs ih =>
      intro l
      have h1 := ih (more1 l x)
      have h2 := more1_len l x
      rw [List.foldl_cons, List.length_cons]
      split at h2 <;> omega
  have := key xs []
  simpa [unlike] using this
end
section
variable {P : Program} {w : World} {A : Around} {K : Type} [DecidableEq K] {knd : KeyKind P w K} {I : Addr} {fp wr : List Addr} {G : Array GenState → Array GenState → Prop} {n : Nat} {Pv : Nat → Value → Prop} {St : Nat → Shared → Prop} {R : Result → Shared → Prop}
/-- the set at S holds just what stands in l -/
def Holds (knd : KeyKind P w K) (h : Heap) (S : Addr) (l : List K) : Prop := h.SetOf knd S (fun k => decide (k ∈ l)) l.length
theorem Holds.on {h h' : Heap} {S : Addr} {l : List K} (x : Holds knd h S l) (k : ∀ o, h.get? S = some o → h'.get? S = some o) : Holds knd h' S l := by
  obtain ⟨o, es, ep, t, ho, r⟩ := x
  exact ⟨o, es, ep, t, k o ho, r⟩
/-- one turn's key goes in -/
theorem put_in {l : List K} {S : Addr} {k : K} {v : Value} {s : Shared} {A : Around} {Q : Bool → Shared → Prop} {E : Value → Shared → Prop} (hk : knd.is k v = true) (hv : v.scannable = true) (x : Holds knd s.heap S l) (room : l.length + 1 < scanBound)
    (q : ∀ h' b, Heap.SameBut S s.heap h' → Holds knd h' S (more1 l k) → Q b { s with heap := h', toks := s.toks + 1 }) : wpAny (model P w) A (setAdd S v) Q E s := by
  unfold setAdd
  refine wpAny_holding (wpAny_bind (knd.pyHash hk (wpAny_setAddHashed_of (s := { s with toks := s.toks + 1 }) hk hv x room fun h' same y => q h' _ same ?_)))
  unfold Holds
  rw [more1_len]
  have e : (fun k' => decide (k' ∈ more1 l k)) = fun k' => decide (k' ∈ l) || decide (k' = k) := by
    funext k'
    rw [Bool.eq_iff_iff]
    simp [more1_mem]
  rw [e]
  have e2 : (if k ∈ l then l.length else l.length + 1) = if decide (k ∈ l) = true then l.length else l.length + 1 := by simp
  rw [e2]
  exact y
theorem fill_loop (W : WalksS P w A.in1 I fp wr G n Pv St) (S : Addr) (hS : S ∉ fp) (ks : List K) (hn : ks.length = n) (room : n + 1 < scanBound) (hv : ∀ i v, Pv i v → ∃ k, ks[i]? = some k ∧ knd.is k v = true ∧ v.scannable = true) (i : Nat) (s : Shared) (hi : i ≤ n) (st : St i s) (x : Holds knd s.heap S (unlike (ks.take i)))
    (q : ∀ s', Moved (S :: wr) G s s' → Holds knd s'.heap S (unlike ks) → R (.ok (.ret .none)) s') : codeAny (model P w) A (.builtin "set.update.loop" ⟨[.ref S, .ref I], []⟩) R s := by
  have nw : S ∉ wr := fun h => hS (W.sub _ h)
  have up : ∀ b ∈ wr, b ∈ S :: wr := fun b h => List.mem_cons_of_mem _ h
  have main : ∀ (m i : Nat) (s : Shared), i + m = n → St i s → Holds knd s.heap S (unlike (ks.take i)) → (∀ s', Moved (S :: wr) G s s' → Holds knd s'.heap S (unlike ks) → R (.ok (.ret .none)) s') → codeAny (model P w) A (.builtin "set.update.loop" ⟨[.ref S, .ref I], []⟩) R s := by
    intro m
    induction m with
    | zero =>
      intro i s e st x q
      obtain rfl : i = n := by omega
      rw [List.take_of_length_le (by omega)] at x
      refine codeAny_builtin F.entry_set_update_loop ?_
      rw [Around.under_plainId F.plain_set_update_loop _]
      refine wpAny_bind (W.done s _ _ st fun s' mv => wpAny_pure (q s' (mv.mono up) (x.on fun o e => mv.heap S o nw e)))
    | succ m ih =>
      intro i s e st x q
      refine codeAny_builtin F.entry_set_update_loop ?_
      rw [Around.under_plainId F.plain_set_update_loop _]
      refine wpAny_bind (W.item i s _ _ (by omega) st fun v s1 pv st1 mv => ?_)
      obtain ⟨k, hk, his, hsc⟩ := hv i v pv
      have x1 := x.on (h' := s1.heap) fun o e => mv.heap S o nw e
      have l1 := unlike_len (ks.take i)
      rw [List.length_take] at l1
      refine wpAny_bind (wpAny_holding (put_in his hsc x1 (by omega) fun h' b same x2 => ?_))
      rw [← unlike_next hk] at x2
      refine wpAny_pure ⟨plainId_quiet F.plain_set_update_loop _, ih (i + 1) _ (by omega) (W.frame _ s1 _ _ st1 (Nat.le_succ _) fun b hb o e => ?_) x2 fun s2 mv2 x3 => q s2 (Moved.trans W.gtrans ((mv.mono up).then_heap (Nat.le_succ _) fun b o hb e => ?_) mv2) x3⟩
      · rw [same.2 b fun z : b = S => hS (z ▸ hb)]
        exact e
      · rw [same.2 b fun z : b = S => hb (z ▸ List.mem_cons_self)]
        exact e
  exact main (n - i) i s (by omega) st x q
end

abbrev newSet (led : Bool) : Obj := { cls := .type "set", dict := none, data := .set #[] 0 (.fresh 0 0 led) }
section
variable {P : Program} {w : World} {A : Around} {K : Type} [DecidableEq K] {knd : KeyKind P w K} {E : Value → Shared → Prop} {s : Shared}
/-- set.__init__ over a tuple -/
theorem init_tup {l S : Addr} {items : Array Value} {ks : List K} {led : Bool} {R : Result → Shared → Prop} (hh : A.handled = none) (hl : s.heap.IsTuple l items) (hks : ks.length = items.size) (room : items.size + 1 < scanBound)
    (hv : ∀ (i : Nat) v, items[i]? = some v → ∃ k, ks[i]? = some k ∧ knd.is k v = true ∧ v.scannable = true) (hS : s.heap.get? S = some (newSet led)) (hne : l ≠ S)
    (q : ∀ (h' : Heap) (tk : Nat), Holds knd h' S (unlike ks) → (∀ b o, b ≠ S → s.heap.get? b = some o → h'.get? b = some o) → R (.ok (.ret .none)) { s with heap := h', toks := tk }) :
    codeAny (model P w) A (.call (.builtin "set.__init__") ⟨[.ref S, .ref l], []⟩) R s := by
  have hl0 := hl
  obtain ⟨⟨cls, od, dt, osl⟩, hol, hc, nl, hd⟩ := hl
  simp only at hc hd
  subst hc hd
  refine codeAny_call_builtin PySem.F.called_set.init.plain PySem.F.entry_set_init (check_set_init_1 ⟨_, hS, rfl⟩ ?_)
  have k1 := PySem.F.sub_tuple_set
  have k2 := PySem.F.sub_tuple_frozenset
  have k3 : (Value.type "tuple" == Value.type "dict") = false := by decide
  unfold Builtin.«set.__init__» noKeywords Builtin.Frozenset.updateFrom
  generalize hPI : pyIter = PI
  wp_walk
  subst hPI
  refine wpAny_pyIter_tuple hl0 ?_
  have nS : S ≠ s.heap.objs.size := Nat.ne_of_lt (Heap.lt_size hS)
  have nl' : l ≠ s.heap.objs.size := Nat.ne_of_lt (Heap.lt_size hol)
  have hh2 : A.in1.in1.handled = none := by simp [hh]
  refine wpAny_bind (wpAny_runValue ?_)
  refine fill_loop (knd := knd) (Walks.tuple hh2 _ l nl' items).toS S (by simp [nS, Ne.symm hne]) ks hks room hv 0 _ (Nat.zero_le _) ?_ ?_ ?_
  · exact ⟨⟨_, Heap.get?_push_size _ rfl, rfl, rfl⟩, hl0.push _⟩
  · exact PyProof.Rows.SetOf_congr ((PyProof.Rows.setObjOf_fresh (knd := knd) led).setOf (Heap.get?_push_of_some _ hS) (by unfold scanBound; omega)) (fun _ => by simp [unlike]) rfl
  · intro s' mv x
    obtain ⟨h', g', d', tk', os'⟩ := s'
    obtain rfl : g' = s.gens := mv.gens
    obtain rfl : d' = s.drawn := mv.drawn
    obtain rfl : os' = s.os := mv.os
    refine wpAny_pure (wpAny_pure (q h' tk' x fun b o nb e => mv.heap b o ?_ (Heap.get?_push_of_some _ e)))
    have := Nat.ne_of_lt (Heap.lt_size e)
    simp [nb, this]
/-- set(t) -/
theorem set_tup {l : Addr} {items : Array Value} {ks : List K} {Q : Value → Shared → Prop} (hh : A.handled = none) (hl : s.heap.IsTuple l items) (hks : ks.length = items.size) (room : items.size + 1 < scanBound)
    (hv : ∀ (i : Nat) v, items[i]? = some v → ∃ k, ks[i]? = some k ∧ knd.is k v = true ∧ v.scannable = true)
    (q : ∀ (h' : Heap) (tk : Nat), Holds knd h' s.heap.objs.size (unlike ks) → (∀ b o, s.heap.get? b = some o → h'.get? b = some o) → Q (.ref s.heap.objs.size) { s with heap := h', toks := tk }) :
    wpAny (model P w) A (call (.type "set") [.ref l]) Q E s := by
  obtain ⟨c, tl, hmro⟩ := PySem.F.called_set.mro
  have g1 := PySem.F.called_set.made
  have g2 := PySem.F.called_set.sub
  have g3 := PySem.F.called_set.notType
  have g4 := PySem.F.called_set.canCreate
  have g5 := PySem.F.typeCall_set_1 (.ref l)
  have g6 := PySem.F.called_set.init.lookup
  have g7 := PySem.F.called_set.init.bind (.ref s.heap.objs.size)
  refine wpAny_call (codeAny_of_tree (wpAny_pure ⟨Code.quiet_builtin _ (by decide +kernel), codeAny_builtin PySem.F.entry_type_call ?_⟩))
  rw [Around.under_plain (weight_type_call_type "set" [.ref l] []) rfl]
  repeat (any_goals (first | assumption | wp_step))
  refine codeAny_mono (code_set_new_1 (.ref l) (E := E) (Q₁ := fun obj s1 => ∃ led, obj = .ref s.heap.objs.size ∧ s1 = { s with heap := s.heap.push (newSet led) }) fun led => ⟨led, rfl, rfl⟩) fun r s1 hr => ?_
  match r, hr with
  | .error e, hr => exact hr
  | .ok (.ret obj), hr =>
    obtain ⟨led, rfl, rfl⟩ := hr
    have hS : (s.heap.push (newSet led)).get? s.heap.objs.size = some (newSet led) := Heap.get?_push_size _ rfl
    have hT : Shared.TypeIs { s with heap := s.heap.push (newSet led) } (.ref s.heap.objs.size) "set" := ⟨_, hS, rfl⟩
    repeat (any_goals (first | assumption | wp_step))
    obtain ⟨o, ho, _⟩ := id hl
    refine codeAny_mono (init_tup (knd := knd) (ks := ks) (R := wants (fun r s2 => r = .none ∧ ∃ h' tk, s2 = { s with heap := h', toks := tk } ∧ Holds knd h' s.heap.objs.size (unlike ks) ∧ ∀ b o, s.heap.get? b = some o → h'.get? b = some o) E) (by simp [hh]) (hl.push _) hks room hv hS (Nat.ne_of_lt (Heap.lt_size ho)) fun h' tk x k => ⟨rfl, h', tk, rfl, x, fun b o e => k b o (Nat.ne_of_lt (Heap.lt_size e)) (Heap.get?_push_of_some _ e)⟩) fun r s2 hr => ?_
    match r, hr with
    | .error e, hr => exact hr
    | .ok (.ret u), hr =>
      obtain ⟨rfl, h', tk, rfl, x, k⟩ := hr
      repeat (any_goals (first | assumption | wp_step))
      exact q h' tk x k
end
end Dl

set_option Elab.async false
set_option linter.all false
set_option maxRecDepth 100000
set_option maxHeartbeats 4000000
/-! C.m(..), m a static method of the class C. -/
namespace L2
open PySem PySem.Spec PyProof.Rows PySem.W
structure Stat (K : Frag) (C : Addr) (m : Str) (f : Addr) : Prop where
  ga : specialIn K (.ref C) "__getattribute__" = some (some (.builtin "type.__getattribute__"))
  rd : readsIn K C (.type "type") = true
  fc : ∃ (p : Addr) (rest : List Value), findCls K (.ref C) (.type "type") m = some (.get (.builtin "staticmethod.__get__") (.ref p) .none (.ref C)) ∧ recIn K p "staticmethod" = some (.ref f :: rest)
  hv : handedIn (.ref f) = true
  kp : keepIn K (.ref f) = true
section
variable {X : Cx} {CX : CXT} {k : Nat} {C f : Addr} {fd : FuncData} {ps : List Str} {sp : Sp} {E : XK} {x m : Str} {e : Expr} {es : List Expr} {kws : List Keyword} {t tk : TA} {ds : List Value} {dvs : List V} {p1 p2 pos : Pos}
theorem get_stat {pl : Sem Bool} {A : Around} {Ex : Value → Shared → Prop} {s : Shared} {Q : Value × List Value → Shared → Prop} (S : Stat X.K C m f) (kin : X.K.In s.heap) (h : Q (.ref f, []) { s with toks := s.toks + 1 }) :
    wpAny (model X.prog X.w) A (getMethod (.ref C) m pl) Q Ex s := by
  obtain ⟨p, rest, h1, h2⟩ := S.fc
  exact method_cls kin S.ga (cls_bind kin S.rd h1 (wpAny_call (sm_get (s := { s with toks := s.toks + 1 }) kin h2 (handed_on S.hv h))))
theorem pe_stat {pl : Sem Bool} (S : Stat X.K C m f) (F : FnOk X.prog X.w X.K X.mg X.base CX k f fd ps sp) (hr : Room k X.A) (hg : Gl X x) (hm : X.mg x = some (.ref C)) (hb : Binds X.K fd ps ds) (hd : Vals dvs ds) (hx : Passes CX X E) (ha : PA X (e :: es) t)
    (hc : eval (.Call (.Attribute (.Name x p1) m p2) (e :: es) [] pos) X.env = (do
      let ov ← eval (.Name x p1) X.env
      standAt p2.atName
      let (f, first) ← holding [ov] (getMethod ov m pl)
      callWith pos f first (backTo pos (starEach (e :: es) X.env)) (backToKw pos (keywordEach [] X.env))) := by rfl)
    (hdb : (x == ("__debug__" : Str)) = false := by decide) (he : starEach (e :: es) X.env = (false, eval e X.env) :: starEach es X.env := by rfl) (hpl : (backTo pos (starEach es X.env)).any (·.1) = false := by rfl) :
    PE X (.Call (.Attribute (.Name x p1) m p2) (e :: es) [] pos) (tCall sp dvs E t) := by
  refine ⟨fun pins s σ H Q I h => ?_⟩
  refine methodCall_KW (ld_glob I hg hm ?_ hdb) hc
  refine get_stat S I.kIn ?_
  show wpAny _ _ (callWith pos (Value.ref f) [] (backTo pos (starEach (e :: es) X.env)) []) _ _ _
  refine callWith_K (h₀ := X.base) I.ok.mod.kin S.kp (thn (ha.run pos pins _ σ H _ (I.tok _) h) fun us s1 ⟨vs, H1, I1, r, q⟩ => ⟨I1.kIn, ?_⟩) he hpl
  exact run_fn F hr hb hd hx I1 r q
theorem pe_statK {pl : Sem Bool} {ks : List Str} {g : List Value → List Value → List Value} {gV : List V → List V → List V} (S : Stat X.K C m f) (F : FnOk X.prog X.w X.K X.mg X.base CX k f fd ps sp) (hr : Room k X.A) (hg : Gl X x) (hm : X.mg x = some (.ref C)) (hb : KBn X.K fd ps 0 ks g gV) (hx : Passes CX X E) (hkw : PK X kws tk)
    (hc : eval (.Call (.Attribute (.Name x p1) m p2) [] kws pos) X.env = (do
      let ov ← eval (.Name x p1) X.env
      standAt p2.atName
      let (f, first) ← holding [ov] (getMethod ov m pl)
      callWith pos f first (backTo pos (starEach [] X.env)) (backToKw pos (keywordEach kws X.env))) := by rfl)
    (hall : (backToKw pos (keywordEach kws X.env)).all (·.1.isSome) = true := by rfl) (hks : (backToKw pos (keywordEach kws X.env)).filterMap (·.1) = ks := by rfl) (hdb : (x == ("__debug__" : Str)) = false := by decide)
    (hpl : ((backTo pos (starEach [] X.env)).any (·.1) || (backToKw pos (keywordEach kws X.env)).any (·.1.isNone)) = false := by rfl) :
    PE X (.Call (.Attribute (.Name x p1) m p2) [] kws pos) (tCallN 0 ks.length sp gV E tNil tk) := by
  refine ⟨fun pins s σ H Q I h => ?_⟩
  refine methodCall_KW (ld_glob I hg hm ?_ hdb) hc
  refine get_stat S I.kIn ?_
  refine callWith_KW0 (h₀ := X.base) I.ok.mod.kin S.kp hall (thn (hkw.run pos pins _ σ H _ (I.tok _) h) fun ws s2 ⟨zs, H2, I2, rz, l1, l2, q2⟩ => ⟨I2.kIn, ?_⟩) hpl
  rw [hks]
  exact run_fnN (us := []) (vs := []) F hr hb hx I2 .nil rz l1 l2 q2
end
end L2

set_option Elab.async false
set_option linter.all false
set_option maxRecDepth 100000
set_option maxHeartbeats 4000000
/-! x[::-1] of a tuple; {}, {k: v}; len(set(t)); C.m(..). -/
namespace Dl
open PySem PySem.Spec PyProof.Rows L2
section
variable {prog : Program} {w : World} {A : Around} {E : Value → Shared → Prop} {s : Shared}
theorem back_places (n : Nat) : Builtin.Slice.slicePlaces ((n : Int) - 1) (-1) (-1) = n := by
  unfold Builtin.Slice.slicePlaces
  rw [if_neg (by decide)]
  split
  · rw [show (- -1 : Int) = 1 from rfl, Int.ediv_one]
    omega
  · omega
theorem back_pick (xs : Array Value) : ((List.range xs.size).filterMap fun (k : Nat) => xs[(((xs.size : Nat) : Int) - 1 + (k : Int) * -1).toNat]?).toArray = xs.toList.reverse.toArray := by
  have e : (List.range xs.size).filterMap (fun (k : Nat) => xs[(((xs.size : Nat) : Int) - 1 + (k : Int) * -1).toNat]?) = ((List.range xs.size).map fun k => xs.size - 1 - k).filterMap (xs[·]?) := by
    rw [List.filterMap_map]
    have e : (fun (k : Nat) => xs[(((xs.size : Nat) : Int) - 1 + (k : Int) * -1).toNat]?) = (xs[·]?) ∘ fun k => xs.size - 1 - k := by
      funext k
      show xs[_]? = xs[xs.size - 1 - k]?
      congr 1
      omega
    rw [e]
  rw [e, PySem.W.krv_range, List.filterMap_reverse, PySem.W.krv_all]
theorem get_back {t sl : Addr} {items : Array Value} {vs : Value} {Q : Value → Shared → Prop} (ht : IsTup s.heap t items) (hs : s.heap.IsSliceOf sl .none .none vs) (ps : IsPart vs (some (-1)))
    (h : Q (.ref s.heap.objs.size) { s with heap := s.heap.push { cls := .type "tuple", data := .seq items.toList.reverse.toArray } }) (hz : items.size ≤ sizeLine) : wpAny (model prog w) A (getItem (.ref t) (.ref sl)) Q E s := by
  obtain ⟨os, hos, hcs, hds⟩ := id hs
  have hb : sizeOk (.seq items.toList.reverse.toArray) := by
    show items.toList.reverse.toArray.size ≤ sizeLine
    simpa using hz
  unfold getItem
  try with_reducible refine wpAny_holding ?_
  first | refine wpAny_bind (wpAny_pure ?_) | skip
  refine wpAny_bind (wpAny_sequenceKey ht.typeIs (by decide) (wpAny_bind (wpAny_callSpecial?_slot (name := Str.ofString "__getitem__") ht.typeIs PyProof.Rows.slot_tuple_getitem
    (wpAny_call_entry PyProof.Rows.slot_tuple_getitem ht.typeIs PyProof.Rows.entry_tuple_getitem ?_ (PyProof.Rows.args_tuple_getitem _ _)))))
  refine wpAny_bind (m := Builtin.Tuple.tupleItemsOf (.ref t)) (PyProof.Rows.tupleItemsOf_ ht (wpAny_bind (wpAny_typeOf ⟨os, hos, hcs⟩ ?_)))
  rw [if_pos (by decide)]
  refine wpAny_bind ?_
  unfold Builtin.Slice.sliceApplied Builtin.Slice.sliceFields
  refine wpAny_bind (wpAny_bind (wpAny_field hos hds (x := .none) rfl (wpAny_bind (wpAny_field hos hds (x := .none) rfl (wpAny_bind (wpAny_field hos hds (x := vs) rfl (wpAny_pure ?_)))))))
  refine wpAny_bind (HT.slicePart_ ps ?_)
  show wpAny _ _ (if ((-1 : Int) == 0) = true then _ else _) _ _ s
  rw [if_neg (by decide)]
  refine wpAny_bind (HT.slicePart_ .none (wpAny_bind (HT.slicePart_ .none (wpAny_bind (wpAny_pure (wpAny_pure ?_))))))
  show wpAny _ _ (if ((((items.size : Nat) : Int) - 1 == 0 && (-1 : Int) == 1 && Builtin.Slice.slicePlaces (((items.size : Nat) : Int) - 1) (-1) (-1) == items.size) = true) then _ else _) _ _ s
  rw [if_neg (by simp)]
  have bp := back_places items.size
  show wpAny _ _ (Builtin.Tuple.tupleExact ((List.range (Builtin.Slice.slicePlaces (((items.size : Nat) : Int) - 1) (-1) (-1))).filterMap fun (k : Nat) => items[(((items.size : Nat) : Int) - 1 + (k : Int) * -1).toNat]?).toArray >>= _) _ _ s
  rw [bp]
  show wpAny _ _ (Builtin.Tuple.tupleExact ((List.range items.size).filterMap fun (k : Nat) => items[(((items.size : Nat) : Int) - 1 + (k : Int) * -1).toNat]?).toArray >>= _) _ _ s
  rw [back_pick]
  first
    | exact wpAny_bind (m := Builtin.Tuple.tupleExact _) (wpAny_newObj_type (wpAny_pure ⟨_, rfl, wpAny_pure h⟩) hb)
    | exact wpAny_bind (m := Builtin.Tuple.tupleExact _) (wpAny_newObj_type (wpAny_bind (wpAny_pure (wpAny_pure ⟨_, rfl, wpAny_pure h⟩))) hb)
end
section
variable {X : Cx}
def tBack (K : PySem.W.Frag) (te : TE) : TE := fun a H Q => te a H fun x H1 => ∃ q xs, x = .ref q ∧ ((SqL K H1 q xs ∧ ∀ p, H1 p = none → Q (.ref p) (upd H1 p (.lst xs.reverse))) ∨ (SqT K H1 q xs ∧ ∀ p, H1 p = none → Q (.ref p) (upd H1 p (.tup xs.reverse))))
theorem pe_back {e : Expr} {te : TE} {k : Nat} {p1 p2 p3 pos : Pos} (he : PE X e te) : PE X (.Subscript e (.Slice none none (some (.UnaryOp .USub (.Constant (.int 1) k p1) p2)) p3) pos) (tBack X.K te) := by
  have hst : PO X (some (.UnaryOp .USub (.Constant (.int 1) k p1) p2)) (tPart (tUn (rU fun i => .int (-i)) (tC (.int 1)))) := po_some (pe_un un_neg pe_int)
  refine ⟨fun pins s a H Q I h => Subscript_ (thn (he.run pins s a H _ I h) fun v s1 ⟨x, H1, I1, r1, q, xs, ex, h1⟩ => ?_)⟩
  subst ex
  cases r1
  refine wpAny_Slice (thn (po_none.run pins s1 a H1 (fun o H2 => o = none ∧ H2 = H1) I1 ⟨rfl, rfl⟩) fun vl s2 ⟨l, H2, I2, pl, el, e2⟩ => ?_)
  cases el
  cases e2
  refine thn (po_none.run pins s2 a H1 (fun o H2 => o = none ∧ H2 = H1) I2 ⟨rfl, rfl⟩) fun vu s3 ⟨u, H3, I3, pu, eu, e3⟩ => ?_
  cases eu
  cases e3
  refine thn (hst.run pins s3 a H1 (fun o H2 => o = some (-1) ∧ H2 = H1) I3 ⟨1, rfl, -1, rfl, rfl, rfl⟩) fun vs s4 ⟨o, H4, I4, ps, eo, e4⟩ => ?_
  cases eo
  cases e4
  cases pl
  cases pu
  have I5 : Inv X pins a H1 { s4 with heap := s4.heap.push { cls := .type "slice", data := .fields #[.none, .none, vs] } } := I4.kept (t' := s4.toks) fun b ob q => Heap.get?_push_of_some _ q
  show wpAny (model X.prog X.w) X.A (subscriptTail e (.Slice none none (some (.UnaryOp .USub (.Constant (.int 1) k p1) p2)) p3) (.ref q) (.ref s4.heap.objs.size)) (EP X pins a Q) X.xe { s4 with heap := s4.heap.push { cls := .type "slice", data := .fields #[.none, .none, vs] } }
  rcases h1 with ⟨hx, qq⟩ | ⟨hx, qq⟩
  · obtain ⟨its, r, ht, hz⟩ := I5.list hx
    have hl := r.length
    refine tail_any (ops := [.ref q, .ref s4.heap.objs.size]) ht.isList.typeIs (PySem.slot_list_getitem.lookup) (wpAny_getItem_list_slice ht.isList (Heap.IsSliceOf.new _ .none .none vs) .none .none ps (by decide) ?_ (by rw [List.size_toArray]; omega)) (by with_unfolding_all rfl)
    rw [PySem.W.krv_pick]
    exact ⟨.ref _, _, I5.laid (t' := s4.toks) (o := .lst xs.reverse) (fun b ob q => Heap.get?_push_of_some _ q) (Nat.le_refl _) ⟨by rw [List.length_reverse]; exact hz, _, 0, r.reverse, Heap.get?_push_size _ rfl⟩, rfl, qq _ (I5.hok.fresh (Nat.le_refl _))⟩
  · obtain ⟨its, r, ht, hz⟩ := I5.tuple hx
    have hl := r.length
    refine tail_any (ops := [.ref q, .ref s4.heap.objs.size]) ht.typeIs (PyProof.Rows.slot_tuple_getitem.lookup) (get_back ht (Heap.IsSliceOf.new _ .none .none vs) ps ?_ (by rw [List.size_toArray]; omega)) (by with_unfolding_all rfl)
    exact ⟨.ref _, _, I5.laid (t' := s4.toks) (o := .tup xs.reverse) (fun b ob q => Heap.get?_push_of_some _ q) (Nat.le_refl _) ⟨by rw [List.length_reverse]; exact hz, _, r.reverse, ⟨_, Heap.get?_push_size _ rfl, rfl, 0, rfl⟩⟩, rfl, qq _ (I5.hok.fresh (Nat.le_refl _))⟩
end
end Dl

set_option Elab.async false
set_option linter.all false
set_option maxRecDepth 100000
set_option maxHeartbeats 4000000
/-! x[::-1], dict displays, len(set(t)), C.m(..), over data. -/
namespace Dl
open PySem PySem.Spec PyProof.Rows L2
section
variable {X : Cx} {W : WD} {T : Tab}
theorem Rps.reverse {K : PySem.W.Frag} {b : Option Addr} {G : Hp} : ∀ {xs : List V} {ds : List D}, Rps K b G xs ds → Rps K b G xs.reverse ds.reverse
  | _, _, .nil => .nil
  | _, _, .cons h g => by
    rw [List.reverse_cons, List.reverse_cons]
    exact (Rps.reverse g).append (.cons h .nil)
theorem de_rev {a : Expr} {ia : IE} {k : Nat} {p1 p2 p3 pos : Pos} (ha : PE X a (lift (cn X) W (wE T ia))) : PE X (.Subscript a (.Slice none none (some (.UnaryOp .USub (.Constant (.int 1) k p1) p2)) p3) pos) (lift (cn X) W (wE T (.rev ia))) :=
  pe_imp (pe_back ha) fun s H Q ⟨b, G0, H0, G, n, r, Qd, Ex, h, t, x, k⟩ => by
    rw [wE] at t
    refine lift_bind h x t fun v G1 H1 n1 d h1 x1 s1 r1 q1 => ?_
    cases d with
    | list ds =>
      obtain ⟨a, xs, rfl, hl, zz, g⟩ := rp_list_inv r1
      refine ⟨a, xs, rfl, .inl ⟨SqL.of (h1.ok.sub _ _ hl), fun p np => ?_⟩⟩
      obtain ⟨s2, r2⟩ := rp_new_list h1.ok np g.reverse (by rw [List.length_reverse]; exact zz)
      exact k _ _ _ n1 _ (s1.trans s2) r2 q1
    | tup ds =>
      obtain ⟨a, xs, rfl, hl, zz, g⟩ := rp_tup_inv r1
      refine ⟨a, xs, rfl, .inr ⟨sqt_same h1.ok.sub hl, fun p np => ?_⟩⟩
      obtain ⟨s2, r2⟩ := rp_new_tup h1.ok np g.reverse (by rw [List.length_reverse]; exact zz)
      exact k _ _ _ n1 _ (s1.trans s2) r2 q1
    | _ => exact q1.elim
/-! ### len(set(t)) -/
def tLenT (K : PySem.W.Frag) (ta : TE) : TE := fun s H Q => ta s H fun x H1 => ∃ l, ∃ xs : List Str, x = .ref l ∧ SqT K H1 l (xs.map V.str) ∧ xs.length ≤ 1000 ∧ Q (.int (unlike xs).length) H1
theorem pe_lenT {a : Expr} {ta : TE} {p p2 q pos : Pos} (hc : X.calm = true) (hg : Gl X "len") (hm : X.mg "len" = none) (hg2 : Gl X "set") (hm2 : X.mg "set" = none) (ha : PE X a ta)
    (na : starEach [a] X.env = (false, eval a X.env) :: starEach [] X.env) : PE X (.Call (.Name "len" p) [.Call (.Name "set" p2) [a] [] q] [] pos) (tLenT X.K ta) := by
  refine ⟨fun pins s u H Q I h => Call_ (ld_blt I hg hm boot_len (PyProof.Rows.callWith_builtin1 (PyProof.Rows.args_cons (Call_ (ld_blt I hg2 hm2 boot_set ?_)) rfl) rfl rfl))⟩
  refine PyProof.Rows.callWith_type1 (PyProof.Rows.args_cons (thn (ha.run pins s u H _ I h) fun v s1 ⟨x, H1, I1, r1, l, xs, ex, hq, hz, q1⟩ => PyProof.Rows.args_nil ?_) na) na rfl
  subst ex
  cases r1
  obtain ⟨its, r, pl, _⟩ := I1.tuple hq
  have hl := r.length
  rw [List.length_map] at hl
  refine set_tup (knd := PySem.strKind X.prog X.w) (ks := xs) (I1.ok.hd hc) pl (by rw [List.size_toArray]; exact hl) (by rw [List.size_toArray, ← hl]; unfold scanBound; omega) (fun i v hv => ?_) fun h' tk y kp => PyProof.Rows.args_nil ?_
  · have hi : i < its.length := by
      have := (Array.getElem?_eq_some_iff.mp hv).1
      simpa using this
    have hx : xs[i]? = some (xs[i]'(by omega)) := List.getElem?_eq_getElem _
    obtain ⟨v', hv', rv⟩ := r.get (i := i) (x := .str (xs[i]'(by omega))) (by rw [List.getElem?_map, hx]; rfl)
    have hvv : its[i]? = some v := by simpa using hv
    rw [hvv] at hv'
    cases hv'
    obtain ⟨t, rfl⟩ := rv
    exact ⟨_, hx, strKind_is _ _ _ _, rfl⟩
  · have I2 : Inv X pins u H1 { s1 with heap := h', toks := tk } := I1.kept fun b o e => kp b o e
    obtain ⟨o, es, ep, t, ho, hex, hd, _, _, hb, hf, hn⟩ := y
    exact call_len_set ho hex hd hf (by unfold scanBound at hb; omega) ⟨.int (unlike xs).length, H1, I2.tok _, ⟨_, by rw [hn]⟩, q1⟩
theorem de_lenset {a : Expr} {ia : IE} {p p2 q pos : Pos} (hc : X.calm = true) (hg : Gl X "len") (hm : X.mg "len" = none) (hg2 : Gl X "set") (hm2 : X.mg "set" = none) (ha : PE X a (lift (cn X) W (wE T ia)))
    (na : starEach [a] X.env = (false, eval a X.env) :: starEach [] X.env) : PE X (.Call (.Name "len" p) [.Call (.Name "set" p2) [a] [] q] [] pos) (lift (cn X) W (wE T (.lenset ia))) :=
  pe_imp (pe_lenT hc hg hm hg2 hm2 ha na) fun s H Q ⟨b, G0, H0, G, n, r, Qd, Ex, h, t, x, k⟩ => by
    rw [wE] at t
    refine lift_bind h x t fun v G1 H1 n1 d h1 x1 s1 r1 q1 => ?_
    cases d with
    | tup ds =>
      obtain ⟨a, xs, rfl, hl, zz, g⟩ := rp_tup_inv r1
      obtain ⟨ys, ey, l1, q3⟩ := ofO_iff q1
      obtain ⟨rfl, _⟩ := strs_rps g ey
      exact ⟨a, ys, rfl, sqt_same h1.ok.sub hl, l1, k _ G1 H1 n1 _ s1 (.int _) q3⟩
    | _ => exact q1.elim
/-! ### f() -/
theorem de_call0 {k : Nat} {f : Str} {p pos : Pos} (tk : Takes X W) (hf : ∀ fs, T.fs f = some fs → FnD X k f fs) (hr : Room k X.A) (hg : Gl X f) (hdb : (f == ("__debug__" : Str)) = false) : PE X (.Call (.Name f p) [] [] pos) (lift (cn X) W (wE T (.call f .nil))) := by
  refine ⟨fun pins s a H Q I ⟨b, G0, H0, G, n, r, Qd, Ex, h, t, x, k⟩ => ?_⟩
  rw [wE] at t
  obtain ⟨fs, q, t⟩ := ofO_iff t
  rw [wA] at t
  obtain ⟨fa, fd, ps, h1, h2, h3, h4⟩ := (hf fs q).ex
  refine wpAny_Call_Name_kw (ld_glob I hg h1 (PySem.W.callWith_K0 I.kIn h2 (run_fnS (E := WE W) h4 hr h3 (passAt tk a) I .nil ?_)) hdb)
  exact ⟨b, G, n, [], Qd, Ex, h.ok, .nil, t, fun cls d G' H' n' xx st rx ex => x cls d G' H' n' xx st rx ex, fun v G' H' n' d st rr qq => k v G' H' n' d st rr qq⟩
/-! ### keywords -/
theorem pk_imp {kws : List Keyword} {t t' : TA} (h : PK X kws t) (i : ∀ s H Q, t' s H Q → t s H Q) : PK X kws t' := ⟨fun pos pins s a H Q I q => h.run pos pins s a H Q I (i _ _ _ q)⟩
theorem dk_nil : PK X [] (liftA (cn X) W (wA T .nil)) := pk_imp pk_nil fun s H Q ⟨b, G0, H0, G, n, r, Qd, Ex, h, t, x, k⟩ => by
  rw [wA] at t
  exact k [] G H n [] (Stp.refl h.ok) .nil t
theorem dk_cons {e : Expr} {kws : List Keyword} {nm : Option Str} {kpos : Pos} {ie : IE} {ir : IAs} (he : PE X e (lift (cn X) W (wE T ie))) (hr : PK X kws (liftA (cn X) W (wA T ir))) : PK X (⟨nm, e, kpos⟩ :: kws) (liftA (cn X) W (wA T (.cons ie ir))) :=
  pk_imp (pk_cons he hr) fun s H Q ⟨b, G0, H0, G, n, r, Qd, Ex, h, t, x, k⟩ => by
    rw [wA] at t
    refine lift_bind h x t fun v G1 H1 n1 d h1 x1 s1 r1 q1 => liftA_bind h1 x1 q1 fun w G2 H2 n2 e h2 x2 s2 r2 q2 => ?_
    exact k _ G2 H2 n2 _ (s1.trans s2) (.cons (r1.mono s2.gg) r2) q2
/-! ### C.m(..) -/
/-- what is known of a static method -/
structure SmD (X : Cx) (k : Nat) (C m : Str) (ps : List Str) (fs : FS) : Prop where
  ex : ∃ (Ca f : Addr) (fd : FuncData), X.mg C = some (.ref Ca) ∧ Stat X.K Ca m f ∧ Binds X.K fd ps [] ∧ KBn X.K fd ps 0 ps (fun _ ws => ws) (fun _ zs => zs) ∧ FnOk X.prog X.w X.K X.mg X.base (L2.CX X.prog X.w) k f fd ps (spOf (cn X) fs)
theorem passes_no : Passes (L2.CX X.prog X.w) X (fun _ _ _ => False) := fun _ _ _ _ _ _ _ ⟨_, _, _, _, _, _, _, _, _, _, _, _, z⟩ => z.elim
theorem sm_end {c : Cn} {b : Option Addr} {G H G1 H1 : Hp} {n1 : Nat} {vs : List V} {ds : List D} {fs : FS} {Q : VK} {Qd : D → Nat → Prop} (o : Ok b G1 H1 n1) (s1 : Stp b G H G1 H1 n1) (r : Rps c.K b G1 vs ds) (f : fs ds n1 Qd noX) (k : ∀ v G' H' n' d, Stp b G H G' H' n' → Rp c.K b G' v d → Qd d n' → Q v H') : spOf c fs vs H1 Q (fun _ _ _ => False) :=
  ⟨b, G1, n1, ds, Qd, noX, o, r, f, fun _ _ _ _ _ _ _ _ z => z, fun v G' H' n' d st rr qq => k v G' H' n' d (s1.trans st) rr qq⟩
theorem meth_eq {C m : Str} {p1 p2 pos : Pos} {args : List Expr} {kws : List Keyword} {env : Env} (hf : methodCallForm (args.length + kws.length) (backTo pos (starEach args env)) (backToKw pos (keywordEach kws env)) = true) (hl : (p2.endLine == pos.line) = true) :
    eval (.Call (.Attribute (.Name C p1) m p2) args kws pos) env = (do
      let ov ← eval (.Name C p1) env
      standAt p2.atName
      let (f, first) ← holding [ov] (getMethod ov m (do return (← importBound (.Name C p1) env).getD true))
      callWith pos f first (backTo pos (starEach args env)) (backToKw pos (keywordEach kws env))) := by
  rw [eval.eq_def]
  dsimp only
  show (do
    let ov ← eval (.Name C p1) env
    standAt p2.atName
    methodCall (.Name C p1) m p2 pos env ov (args.length + kws.length) (backTo pos (starEach args env)) (backToKw pos (keywordEach kws env))) = _
  unfold methodCall calleeOf methodCallPos
  rw [hf, hl]
  rfl
theorem de_stat {lv : Nat} {C m : Str} {e : Expr} {es : List Expr} {ia : IAs} {p1 p2 pos : Pos} (hf : ∀ ps fs, T.sm C m = some (ps, fs) → SmD X lv C m ps fs) (hr : Room lv X.A) (hg : Gl X C) (hdb : (C == ("__debug__" : Str)) = false) (ha : PA X (e :: es) (liftA (cn X) W (wA T ia)))
    (he : starEach (e :: es) X.env = (false, eval e X.env) :: starEach es X.env) (hpl : (backTo pos (starEach es X.env)).any (·.1) = false) (hform : methodCallForm ((e :: es).length + 0) (backTo pos (starEach (e :: es) X.env)) [] = true) (hl : (p2.endLine == pos.line) = true) : PE X (.Call (.Attribute (.Name C p1) m p2) (e :: es) [] pos) (lift (cn X) W (wE T (.stat C m ia))) := by
  cases q : T.sm C m with
  | none => exact ⟨fun pins s a H Q I ⟨b, G0, H0, G, n, r, Qd, Ex, h, t, x, k⟩ => by
      rw [wE, q] at t
      exact t.elim⟩
  | some ps =>
    obtain ⟨ps, fs⟩ := ps
    obtain ⟨Ca, f, fd, h1, h2, h3, h4, h5⟩ := (hf ps fs q).ex
    refine pe_imp (pe_stat h2 h5 hr hg h1 h3 (dvs := []) .nil passes_no ha (meth_eq hform hl) hdb he hpl) fun s H Q ⟨b, G0, H0, G, n, r, Qd, Ex, h, t, x, k⟩ => ?_
    rw [wE, q, ofO_some] at t
    refine liftA_bind h x t fun v G1 H1 n1 d h1 x1 s1 r1 q1 => ?_
    rw [List.append_nil]
    exact sm_end h1.ok s1 r1 q1 k
theorem de_statk {lv : Nat} {C m k1 k2 : Str} {e1 e2 : Expr} {ia : IAs} {p1 p2 pos q1 q2 : Pos} (hf : ∀ ps fs, T.sm C m = some (ps, fs) → SmD X lv C m ps fs) (hr : Room lv X.A) (hg : Gl X C) (hdb : (C == ("__debug__" : Str)) = false) (ha : PK X [⟨some k1, e1, q1⟩, ⟨some k2, e2, q2⟩] (liftA (cn X) W (wA T ia))) (hl : (p2.endLine == pos.line) = true) : PE X (.Call (.Attribute (.Name C p1) m p2) [] [⟨some k1, e1, q1⟩, ⟨some k2, e2, q2⟩] pos) (lift (cn X) W (wE T (.statk C m [k1, k2] ia))) := by
  cases q : T.sm C m with
  | none => exact ⟨fun pins s a H Q I ⟨b, G0, H0, G, n, r, Qd, Ex, h, t, x, k⟩ => by
      rw [wE, q] at t
      exact t.elim⟩
  | some ps =>
    obtain ⟨ps, fs⟩ := ps
    by_cases eps : ps = [k1, k2]
    · subst eps
      obtain ⟨Ca, f, fd, h1, h2, h3, h4, h5⟩ := (hf _ fs q).ex
      refine pe_imp (pe_statK h2 h5 hr hg h1 h4 passes_no ha (meth_eq rfl hl) rfl rfl hdb rfl) fun s H Q ⟨b, G0, H0, G, n, r, Qd, Ex, h, t, x, k⟩ => ?_
      rw [wE, q, ofO_some] at t
      refine liftA_bind h x t.2 fun v G1 H1 n1 d h1 x1 s1 r1 q1 => ⟨rfl, ?_, sm_end h1.ok s1 r1 q1 k⟩
      rw [r1.length]
      exact h5.len v H1 Q (fun _ _ _ => False) (sm_end h1.ok s1 r1 q1 k) ▸ r1.length.symm
    · exact ⟨fun pins s a H Q I ⟨b, G0, H0, G, n, r, Qd, Ex, h, t, x, k⟩ => by
        rw [wE, q, ofO_some] at t
        exact (eps t.1).elim⟩
end
end Dl

set_option Elab.async false
set_option linter.all false
set_option maxRecDepth 100000
set_option maxHeartbeats 4000000
/-! Dict displays with written keys. -/
namespace Dl
open PySem PySem.Spec PyProof.Rows L2
/-- a new object that stood empty while its parts were made -/
theorem Stp.seal {b : Option Addr} {G H G2 H2 : Hp} {n n2 : Nat} {p : Addr} {o o2 : HO} (h : Ok b G H n) (np : H p = none) (s : Stp b G (upd H p o) G2 H2 n2) : Stp b G H (upd G2 p o2) (upd H2 p o2) n2 := by
  have gp : G p = none := h.sub.free np
  have hb : ∀ q, b = some q → q ≠ p := fun q e z => by
    subst z
    exact (h.box _ e).2.some np
  refine ⟨fun a u e => ?_, same_upd2 s.gh, fun a u na e => ?_, fun a u e => ?_, fun q e => ?_⟩
  · have na : a ≠ p := fun z => by subst z; rw [gp] at e; cases e
    rw [upd_ne na]
    exact s.gg a u e
  · have na2 : a ≠ p := fun z => by subst z; rw [np] at e; cases e
    rw [upd_ne na2]
    exact s.kp a u na (by rw [upd_ne na2]; exact e)
  · by_cases z : a = p
    · rw [z]; exact .inr np
    · rw [upd_ne z] at e
      rcases s.nw a u e with q | q
      · exact .inl q
      · rw [upd_ne z] at q
        exact .inr q
  · obtain ⟨x, y, z, e1, r⟩ := s.bx q e
    exact ⟨x, y, z, by rw [upd_ne (hb q e)]; exact e1, r⟩
def keyE : Expr → Option Key
  | .Constant (.int i) _ _ => some (.inl i)
  | .Constant (.str z) _ _ => some (.inr z)
  | _ => none
def keysE : List (Option Expr) → Option (List Key)
  | [] => some []
  | some e :: r => match keyE e, keysE r with
    | some k, some ks => some (k :: ks)
    | _, _ => none
  | none :: _ => none
section
variable {X : Cx} {W : WD} {T : Tab}
theorem pe_key {e : Expr} {k : Key} (h : keyE e = some k) : PE X e (tC (kV k)) := by
  unfold keyE at h
  split at h
  · cases h; exact pe_int
  · cases h; exact pe_str
  · cases h
def Prs (X : Cx) (W : WD) (T : Tab) (keys : List (Option Expr)) (values : List Expr) (ks : List Key) (ia : IAs) : Prop := ∀ pos, ∃ trs, PPs X pos keys values trs ∧ ∀ s H (Q : List (V × V) → Hp → Prop), liftA (cn X) W (wA T ia) s H (fun xs H1 => Q ((ks.map kV).zip xs) H1) → tPairs trs s H Q
theorem prs_bad : ∀ {keys : List (Option Expr)} {values : List Expr} {ks : List Key}, keysE keys = some ks → values.length = ks.length → Prs X W T keys values ks (.cons .bad .nil) := by
  intro keys values ks h hl pos
  have key : ∀ (keys : List (Option Expr)) (values : List Expr) (ks : List Key), keysE keys = some ks → values.length = ks.length → ∃ trs, PPs X pos keys values trs := by
    intro keys
    induction keys with
    | nil =>
      intro values ks h hl
      cases h
      cases values with
      | nil => exact ⟨[], pps_nil⟩
      | cons _ _ => cases hl
    | cons o r ih =>
      intro values ks h hl
      cases o with
      | none => cases h
      | some e =>
        rw [keysE] at h
        split at h
        · rename_i k ks' h1 h2
          cases h
          cases values with
          | nil => cases hl
          | cons v vs =>
            obtain ⟨trs, q⟩ := ih vs ks' h2 (by simpa using hl)
            exact ⟨_, pps_cons (pe_key h1) (⟨fun pins s a H Q I h => h.elim⟩ : PE X v fun _ _ _ => False) q⟩
        · cases h
  obtain ⟨trs, q⟩ := key keys values ks h hl
  refine ⟨trs, q, fun s H Q ⟨b, G0, H0, G, n, r, Qd, Ex, h, t, x, k⟩ => ?_⟩
  rw [wA, wE] at t
  exact t.elim
theorem prs_nil {ks : List Key} (h : keysE [] = some ks) : Prs X W T [] [] ks .nil := fun pos => ⟨[], pps_nil, fun s H Q ⟨b, G0, H0, G, n, r, Qd, Ex, h2, t, x, k⟩ => by
  rw [wA] at t
  have q := k [] G H n [] (Stp.refl h2.ok) .nil t
  have q : Q ((List.map kV ks).zip []) H := q
  rw [List.zip_nil_right] at q
  exact q⟩
theorem prs_cons {e v : Expr} {keys : List (Option Expr)} {values : List Expr} {k0 : Key} {ks : List Key} {iv : IE} {ir : IAs} (hk : keyE e = some k0) (hv : PE X v (lift (cn X) W (wE T iv))) (hr : Prs X W T keys values ks ir) : Prs X W T (some e :: keys) (v :: values) (k0 :: ks) (.cons iv ir) := fun pos => by
  obtain ⟨trs, q, z⟩ := hr pos
  refine ⟨_, pps_cons (pe_key hk) hv q, fun s H Q ⟨b, G0, H0, G, n, r, Qd, Ex, h, t, x, k⟩ => ?_⟩
  rw [wA] at t
  show lift (cn X) W (wE T iv) s H fun y H2 => tPairs trs s H2 fun ps H3 => Q ((kV k0, y) :: ps) H3
  refine lift_bind h x t fun v G1 H1 n1 d h1 x1 s1 r1 q1 => ?_
  refine z s H1 (fun ps H3 => Q ((kV k0, v) :: ps) H3) ⟨b, G0, H0, G1, n1, r, _, Ex, h1, q1, x1, fun vs G' H' n' ds st rr qq => ?_⟩
  exact k (v :: vs) G' H' n' (d :: ds) (s1.trans st) (.cons (r1.mono st.gg) rr) qq
theorem merge_new {kvs more : List (Key × V)} (h : ((kvs ++ more).map (·.1)).Nodup) : mergeK kvs more = kvs ++ more := by
  induction more generalizing kvs with
  | nil => rw [List.append_nil]; rfl
  | cons p r ih =>
    have e : putK kvs p.1 p.2 = kvs ++ [p] := by
      unfold putK
      rw [if_neg]
      intro z
      rw [List.any_eq_true] at z
      obtain ⟨q, hq, e⟩ := z
      rw [decide_eq_true_eq] at e
      rw [List.map_append, List.map_cons, List.nodup_append] at h
      exact h.2.2 q.1 (List.mem_map.mpr ⟨q, hq, rfl⟩) p.1 (List.mem_cons_self ..) e
    show mergeK (putK kvs p.1 p.2) r = _
    rw [e, ih (by simpa using h)]
    simp
theorem rkv_zip {K : PySem.W.Frag} {b : Option Addr} {G : Hp} : ∀ {ks : List Key} {xs : List V} {ds : List D}, Rps K b G xs ds → Rkv K b G (ks.zip xs) (ks.zip ds)
  | [], _, _, _ => .nil
  | k :: ks, _, _, .nil => .nil
  | k :: ks, _, _, .cons h g => .cons h (rkv_zip g)
theorem zip_kV (ks : List Key) (xs : List V) : (ks.map kV).zip xs = (ks.zip xs).map fun kv => (kV kv.1, kv.2) := by
  induction ks generalizing xs with
  | nil => rfl
  | cons k ks ih => cases xs with
    | nil => rfl
    | cons x xs => simp [ih]
theorem de_dis0 {pos : Pos} : PE X (.Dict [] [] pos) (lift (cn X) W (wE T (.dis [] .nil))) := pe_imp pe_dnewK fun s H Q ⟨b, G0, H0, G, n, r, Qd, Ex, h, t, x, k⟩ => by
  rw [wE, wA] at t
  intro p np
  exact k _ _ _ n _ (Stp.new h.ok np) (.dict (upd_same ..) (Nat.zero_le _) .nil) t.2.2.2
theorem de_dis {keys : List (Option Expr)} {values : List Expr} {ks : List Key} {ia : IAs} {pos : Pos} (hk : keysE keys = some ks) (hl : values.length = ks.length) (h15 : ks.length ≤ 15) (h0 : keys ≠ []) (hp : Prs X W T keys values ks ia) : PE X (.Dict keys values pos) (lift (cn X) W (wE T (.dis ks ia))) := by
  have key : ∀ (keys : List (Option Expr)) (ks : List Key), keysE keys = some ks → keys.length = ks.length ∧ keys.all (·.isSome) = true := by
    intro keys
    induction keys with
    | nil => intro ks h; cases h; exact ⟨rfl, rfl⟩
    | cons o r ih =>
      intro ks h
      cases o with
      | none => cases h
      | some e =>
        rw [keysE] at h
        split at h
        · rename_i k ks' h1 h2
          cases h
          obtain ⟨z1, z2⟩ := ih ks' h2
          exact ⟨by simp [z1], by simpa using z2⟩
        · cases h
  obtain ⟨k1, k2⟩ := key keys ks hk
  cases keys with
  | nil =>
    cases hk
    cases values with
    | cons _ _ => cases hl
    | nil =>
      exact absurd rfl h0
  | cons o r =>
    obtain ⟨trs, q, z⟩ := hp pos
    refine pe_imp (pe_disp q k2 (by rw [k1, hl]) (by simp) (by rw [k1]; exact h15)) fun s H Q ⟨b, G0, H0, G, n, r, Qd, Ex, h, t, x, k⟩ => ?_
    rw [wE] at t
    intro p np
    have s0 : Stp b G H G (upd H p (.dK [])) n := Stp.own h.ok np
    refine z s _ _ ⟨b, G0, H0, G, n, r, _, Ex, h.step s0, t, x.step s0, fun vs G' H' n' ds st rr qq => ?_⟩
    obtain ⟨l1, nd, l3, qq⟩ := qq
    have nb : some p ≠ b := fun e => (h.ok.box p e.symm).2.some np
    have hz : (ks.zip vs).length ≤ 15 := by rw [List.length_zip]; omega
    have e : mergeK [] (ks.zip vs) = ks.zip vs := by
      rw [merge_new]
      · rfl
      · rw [List.nil_append, List.map_fst_zip (by rw [rr.length]; omega)]
        exact nd
    refine ⟨st.kp p _ nb (upd_same ..), ks.zip vs, zip_kV ks vs, hz, ?_⟩
    rw [e]
    refine k _ _ _ n' _ (Stp.seal h.ok np st) (.dict (upd_same ..) (by rw [sizeLine_eq]; omega) (rkv_zip (rr.mono ?_))) qq
    intro a u ea
    have na : a ≠ p := fun e => by
      subst e
      rcases st.nw a u ea with z | z
      · rw [h.ok.sub.free np] at z; cases z
      · rw [upd_same] at z; cases z
    rw [upd_ne na]
    exact ea
end
end Dl

set_option Elab.async false
set_option linter.all false
set_option maxRecDepth 100000
set_option maxHeartbeats 4000000
/-! What is walked; comprehensions. -/
namespace Dl
open PySem PySem.Spec PyProof.Rows L2
/-! ### walks -/
structure Wk (K : PySem.W.Frag) (b : Option Addr) (J : It) (G : Hp) (ds : List D) : Prop where
  go : ∀ i G1 H1, Same G G1 → Same G1 H1 → i < ds.length → J.go i H1
  stop : ∀ i G1 H1, Same G G1 → Same G1 H1 → ds.length ≤ i → J.stop i H1
  yld : ∀ i n G1 H1 x H2, Same G G1 → Ok b G1 H1 n → J.yld i H1 x H2 → i < ds.length → ∃ d G2, ds[i]? = some d ∧ Stp b G1 H1 G2 H2 n ∧ Rp K b G2 x d
  small : ds.length ≤ sizeLine
abbrev WI := List Ent → Nat → (List D → Nat → Prop) → QX → Prop
def liftI (c : Cn) (W : WD) (te : WI) : TI := fun s H R => ∃ b G0 H0 G n r Qd Ex, Rho c.K b G0 H0 G H n s r ∧ te r n Qd Ex ∧ XOk c W b G H s Ex ∧ ∀ J G' H' n' ds, Stp b G H G' H' n' → Wk c.K b J G' ds → Qd ds n' → R J H'
theorem pi_imp {X : Cx} {tg e : Expr} {t t' : TI} (h : PI X tg e t) (i : ∀ s H Q, t' s H Q → t s H Q) : PI X tg e t' := ⟨fun pins s a H Q I q => h.run pins s a H Q I (i _ _ _ q)⟩
section
variable {K : PySem.W.Frag} {b : Option Addr} {G : Hp}
theorem Rps.lt {xs : List V} {ds : List D} (g : Rps K b G xs ds) {i : Nat} (h : i < ds.length) : ∃ x, xs[i]? = some x := ⟨xs[i]'(by rw [g.length]; exact h), List.getElem?_eq_getElem _⟩
theorem wk_list {a : Addr} {xs : List V} {ds : List D} (h : G a = some (.lst xs)) (z : xs.length ≤ sizeLine) (g : Rps K b G xs ds) : Wk K b (Itl K a) G ds where
  go := fun i G1 H1 s1 s2 hi => by
    obtain ⟨x, e⟩ := g.lt hi
    exact ⟨xs, x, SqL.of (s2 _ _ (s1 _ _ h)), e⟩
  stop := fun i G1 H1 s1 s2 hi => ⟨xs, SqL.of (s2 _ _ (s1 _ _ h)), by rw [g.length]; exact hi⟩
  yld := fun i n G1 H1 x H2 s1 ok y hi => by
    obtain ⟨e, y⟩ := y
    subst e
    obtain ⟨d, e1, e2⟩ := g.get (y xs (SqL.of (ok.sub _ _ (s1 _ _ h))))
    exact ⟨d, G1, e1, Stp.refl ok, e2.mono s1⟩
  small := by rw [← g.length]; exact z
theorem wk_tup {a : Addr} {xs : List V} {ds : List D} (h : SqT K G a xs) (z : xs.length ≤ sizeLine) (g : Rps K b G xs ds) : Wk K b (Itt K a) G ds where
  go := fun i G1 H1 s1 s2 hi => by
    obtain ⟨x, e⟩ := g.lt hi
    exact ⟨xs, x, sqt_same s2 (sqt_same s1 h), e⟩
  stop := fun i G1 H1 s1 s2 hi => ⟨xs, sqt_same s2 (sqt_same s1 h), by rw [g.length]; exact hi⟩
  yld := fun i n G1 H1 x H2 s1 ok y hi => by
    obtain ⟨e, y⟩ := y
    subst e
    obtain ⟨d, e1, e2⟩ := g.get (y xs (sqt_same ok.sub (sqt_same s1 h)))
    exact ⟨d, G1, e1, Stp.refl ok, e2.mono s1⟩
  small := by rw [← g.length]; exact z
theorem wk_str {z : Str} (hz : z.length ≤ sizeLine) (ho : PyData.strOk z = true) : Wk K b (Its z) G (signs z) where
  go := fun i G1 H1 s1 s2 hi => by
    show i < z.cps.size
    unfold signs at hi
    simpa using hi
  stop := fun i G1 H1 s1 s2 hi => by
    show z.cps.size ≤ i
    unfold signs at hi
    simpa using hi
  yld := fun i n G1 H1 x H2 s1 ok y hi => by
    obtain ⟨e, c, e1, e2⟩ := y
    subst e e2
    refine ⟨.str ⟨#[c]⟩, G1, ?_, Stp.refl ok, .str _ (by show 1 ≤ sizeLine; rw [sizeLine_eq]; decide) (strOk_one ho ?_)⟩
    · unfold signs
      rw [List.getElem?_map, Array.getElem?_toList, e1]
      rfl
    · exact List.mem_of_getElem? (show z.cps.toList[i]? = some c by rw [Array.getElem?_toList]; exact e1)
  small := by
    unfold signs
    rw [List.length_map, Array.length_toList]
    exact hz
theorem iotaI_length (lo : Int) (k : Nat) : (iotaI lo k).length = k := by
  induction k generalizing lo with
  | zero => rfl
  | succ k ih => rw [iotaI, List.length_cons, ih]
theorem iotaI_get (lo : Int) (k i : Nat) (h : i < k) : (iotaI lo k)[i]? = some (.int (lo + i)) := by
  induction k generalizing lo i with
  | zero => omega
  | succ k ih =>
    rw [iotaI]
    cases i with
    | zero => simp
    | succ i =>
      rw [List.getElem?_cons_succ, ih _ _ (by omega)]
      simp
      omega
theorem wk_rng {lo : Int} {k : Nat} (hk : k ≤ sizeLine) : Wk K b (Itr lo k) G (iotaI lo k) where
  go := fun i G1 H1 s1 s2 hi => by rw [iotaI_length] at hi; exact hi
  stop := fun i G1 H1 s1 s2 hi => by rw [iotaI_length] at hi; exact hi
  yld := fun i n G1 H1 x H2 s1 ok y hi => by
    obtain ⟨e, y⟩ := y
    subst e y
    rw [iotaI_length] at hi
    exact ⟨_, G1, iotaI_get lo k i hi, Stp.refl ok, .int _⟩
  small := by rw [iotaI_length]; exact hk
theorem enumD_length (i : Int) (ds : List D) : (enumD i ds).length = ds.length := by
  induction ds generalizing i with
  | nil => rfl
  | cons d ds ih => rw [enumD, List.length_cons, List.length_cons, ih]
theorem enumD_get (lo : Int) : ∀ (ds : List D) (i : Nat) (d : D), ds[i]? = some d → (enumD lo ds)[i]? = some (.tup [.int (lo + i), d])
  | [], i, d, e => by simp at e
  | x :: xs, 0, d, e => by
    simp at e
    subst e
    rw [enumD]
    simp
  | x :: xs, i + 1, d, e => by
    rw [enumD, List.getElem?_cons_succ, enumD_get (lo + 1) xs i d (by simpa using e)]
    simp
    omega
theorem wk_enum {a : Addr} {xs : List V} {ds : List D} (h : G a = some (.lst xs)) (z : xs.length ≤ sizeLine) (g : Rps K b G xs ds) : Wk K b (Ite K a) G (enumD 0 ds) where
  go := fun i G1 H1 s1 s2 hi => by
    rw [enumD_length] at hi
    obtain ⟨x, e⟩ := g.lt hi
    exact ⟨xs, x, SqL.of (s2 _ _ (s1 _ _ h)), e⟩
  stop := fun i G1 H1 s1 s2 hi => ⟨xs, SqL.of (s2 _ _ (s1 _ _ h)), by rw [enumD_length] at hi; rw [g.length]; exact hi⟩
  yld := fun i n G1 H1 x H2 s1 ok y hi => by
    obtain ⟨p, w, ex, np, e2, y⟩ := y
    subst ex e2
    obtain ⟨d, e1, e2⟩ := g.get (y xs (SqL.of (ok.sub _ _ (s1 _ _ h))))
    obtain ⟨s2, r2⟩ := rp_new_tup (K := K) ok np (.cons (.int (i : Nat)) (.cons (e2.mono s1) .nil)) (by show 2 ≤ sizeLine; rw [sizeLine_eq]; decide)
    refine ⟨_, _, ?_, s2, r2⟩
    rw [enumD_get 0 ds i d e1]
    simp
  small := by rw [enumD_length, ← g.length]; exact z
theorem zipD_get : ∀ (xs ys : List D) (i : Nat) (x y : D), xs[i]? = some x → ys[i]? = some y → (zipD xs ys)[i]? = some (.tup [x, y])
  | [], _, i, x, y, e, _ => by simp at e
  | _ :: _, [], i, x, y, _, e => by simp at e
  | a :: xs, c :: ys, 0, x, y, e1, e2 => by
    simp at e1 e2
    subst e1 e2
    rfl
  | a :: xs, c :: ys, i + 1, x, y, e1, e2 => by
    rw [zipD, List.getElem?_cons_succ]
    exact zipD_get xs ys i x y (by simpa using e1) (by simpa using e2)
theorem zipD_length : ∀ (xs ys : List D), (zipD xs ys).length = min xs.length ys.length
  | [], _ => by rw [zipD]; simp; intros; simp_all
  | _ :: _, [] => by rw [zipD]; simp; intros; simp_all
  | a :: xs, c :: ys => by
    rw [zipD, List.length_cons, zipD_length xs ys, List.length_cons, List.length_cons]
    omega
theorem wk_zipL {a c : Addr} {xs ys : List V} {ds es : List D} (h : G a = some (.lst xs)) (z : xs.length ≤ sizeLine) (g : Rps K b G xs ds) (h' : G c = some (.lst ys)) (g' : Rps K b G ys es) : Wk K b (Itz K a c) G (zipD ds es) where
  go := fun i G1 H1 s1 s2 hi => by
    rw [zipD_length] at hi
    obtain ⟨x, e⟩ := g.lt (show i < ds.length by omega)
    obtain ⟨y, e'⟩ := g'.lt (show i < es.length by omega)
    exact ⟨xs, ys, x, y, SqL.of (s2 _ _ (s1 _ _ h)), SqL.of (s2 _ _ (s1 _ _ h')), e, e'⟩
  stop := fun i G1 H1 s1 s2 hi => ⟨xs, ys, SqL.of (s2 _ _ (s1 _ _ h)), SqL.of (s2 _ _ (s1 _ _ h')), by rw [zipD_length] at hi; rw [g.length, g'.length]; omega⟩
  yld := fun i n G1 H1 x H2 s1 ok y hi => by
    obtain ⟨p, w, w', ex, np, e2, y, y'⟩ := y
    subst ex e2
    obtain ⟨d, e1, e2⟩ := g.get (y xs (SqL.of (ok.sub _ _ (s1 _ _ h))))
    obtain ⟨d', e1', e2'⟩ := g'.get (y' ys (SqL.of (ok.sub _ _ (s1 _ _ h'))))
    obtain ⟨s2, r2⟩ := rp_new_tup (K := K) ok np (.cons (e2.mono s1) (.cons (e2'.mono s1) .nil)) (by show 2 ≤ sizeLine; rw [sizeLine_eq]; decide)
    exact ⟨_, _, zipD_get _ _ _ _ _ e1 e1', s2, r2⟩
  small := by rw [zipD_length, ← g.length]; omega
theorem wk_zipT {a c : Addr} {xs ys : List V} {ds es : List D} (h : SqT K G a xs) (z : xs.length ≤ sizeLine) (g : Rps K b G xs ds) (h' : SqT K G c ys) (g' : Rps K b G ys es) : Wk K b (RZ.ItzT K a c) G (zipD ds es) where
  go := fun i G1 H1 s1 s2 hi => by
    rw [zipD_length] at hi
    obtain ⟨x, e⟩ := g.lt (show i < ds.length by omega)
    obtain ⟨y, e'⟩ := g'.lt (show i < es.length by omega)
    exact ⟨xs, ys, x, y, sqt_same s2 (sqt_same s1 h), sqt_same s2 (sqt_same s1 h'), e, e'⟩
  stop := fun i G1 H1 s1 s2 hi => ⟨xs, ys, sqt_same s2 (sqt_same s1 h), sqt_same s2 (sqt_same s1 h'), by rw [zipD_length] at hi; rw [g.length, g'.length]; omega⟩
  yld := fun i n G1 H1 x H2 s1 ok y hi => by
    obtain ⟨p, w, w', ex, np, e2, y, y'⟩ := y
    subst ex e2
    obtain ⟨d, e1, e2⟩ := g.get (y xs (sqt_same ok.sub (sqt_same s1 h)))
    obtain ⟨d', e1', e2'⟩ := g'.get (y' ys (sqt_same ok.sub (sqt_same s1 h')))
    obtain ⟨s2, r2⟩ := rp_new_tup (K := K) ok np (.cons (e2.mono s1) (.cons (e2'.mono s1) .nil)) (by show 2 ≤ sizeLine; rw [sizeLine_eq]; decide)
    exact ⟨_, _, zipD_get _ _ _ _ _ e1 e1', s2, r2⟩
  small := by rw [zipD_length, ← g.length]; omega
end
section
variable {X : Cx} {W : WD} {T : Tab} {tg : Expr}
theorem pi_any {e : Expr} {te : TE} (he : PE X e te) : PI X tg e (fun s H R => te s H fun x H1 => (∃ a xs, x = .ref a ∧ SqL X.K H1 a xs ∧ R (Itl X.K a) H1) ∨ (∃ a xs, x = .ref a ∧ SqT X.K H1 a xs ∧ R (Itt X.K a) H1) ∨ ∃ z, x = .str z ∧ R (Its z) H1) := by
  refine ⟨fun pins s a0 H R I h => thn (he.run pins s a0 H _ I h) fun v s1 ⟨x, H1, I1, r1, q1⟩ => ?_⟩
  rcases q1 with ⟨a, xs, rfl, hq, q⟩ | ⟨a, xs, rfl, hq, q⟩ | ⟨z, rfl, q⟩
  · obtain ⟨_, _, p, _⟩ := I1.list hq
    cases r1
    exact wpAny_pyIter_list p.isList (pi_one (tk := s1.toks) I1 _ (turn_list a _) ⟨_, Heap.get?_push_size _ rfl, rfl, rfl⟩ q)
  · obtain ⟨_, _, p, _⟩ := I1.tuple hq
    cases r1
    exact wpAny_pyIter_tuple p (pi_one (tk := s1.toks) I1 _ (turn_tuple a _) ⟨_, Heap.get?_push_size _ rfl, rfl, rfl⟩ q)
  · obtain ⟨t, rfl⟩ := r1
    by_cases ha : z.cps.all (· < 128) = true
    · refine wpAny_pyIter_ascii ha (pi_one I1 _ (turn_str _ z t _ (.inl rfl)) ?_ q)
      exact ⟨_, Heap.get?_push_size _ rfl, rfl, rfl⟩
    · refine wpAny_pyIter_wide (by simpa using ha) (pi_one I1 _ (turn_str _ z t _ (.inr rfl)) ?_ q)
      exact ⟨_, Heap.get?_push_size _ rfl, rfl, rfl⟩
theorem di_ex {e : Expr} {ie : IE} (he : PE X e (lift (cn X) W (wE T ie))) : PI X tg e (liftI (cn X) W (wI T (.ex ie))) :=
  pi_imp (pi_any he) fun s H Q ⟨b, G0, H0, G, n, r, Qd, Ex, h, t, x, k⟩ => by
    rw [wI] at t
    refine lift_bind h x t fun v G1 H1 n1 d h1 x1 s1 r1 q1 => ?_
    obtain ⟨ds, e, q⟩ := ofO_iff q1
    cases d with
    | list ys =>
      cases e
      obtain ⟨a, xs, rfl, hl, z, g⟩ := rp_list_inv r1
      exact .inl ⟨a, xs, rfl, SqL.of (h1.ok.sub _ _ hl), k _ G1 H1 n1 _ s1 (wk_list hl z g) q⟩
    | tup ys =>
      cases e
      obtain ⟨a, xs, rfl, hl, z, g⟩ := rp_tup_inv r1
      exact .inr (.inl ⟨a, xs, rfl, sqt_same h1.ok.sub hl, k _ G1 H1 n1 _ s1 (wk_tup hl z g) q⟩)
    | str y =>
      cases e
      obtain ⟨ev, zy, oy⟩ := rp_str_inv r1
      exact .inr (.inr ⟨y, ev, k _ G1 H1 n1 _ s1 (wk_str zy oy) q⟩)
    | _ => cases e
theorem di_rng1 {e : Expr} {ie : IE} {p pos : Pos} (hg : Gl X "range") (hm : X.mg "range" = none) (he : PE X e (lift (cn X) W (wE T ie))) (hs : starEach [e] X.env = [(false, eval e X.env)]) : PI X tg (.Call (.Name "range" p) [e] [] pos) (liftI (cn X) W (wI T (.rng1 ie))) :=
  pi_imp (pi_range1 hg hm (pa_cons he pa_nil hs) hs) fun s H Q ⟨b, G0, H0, G, n, r, Qd, Ex, h, t, x, k⟩ => by
    rw [wI] at t
    refine lift_bind h x t fun v G1 H1 n1 d h1 x1 s1 r1 q1 => ?_
    cases d with
    | int j =>
      obtain ⟨c1, c2, q⟩ := q1
      have ev := rp_int_inv r1
      subst ev
      exact ⟨j, rfl, c2, by omega, k _ G1 H1 n1 _ s1 (wk_rng (by rw [sizeLine_eq]; omega)) q⟩
    | _ => exact q1.elim
theorem di_rng2 {e f : Expr} {ie iff : IE} {p pos : Pos} (hg : Gl X "range") (hm : X.mg "range" = none) (he : PE X e (lift (cn X) W (wE T ie))) (hf : PE X f (lift (cn X) W (wE T iff))) (hs : starEach [e, f] X.env = [(false, eval e X.env), (false, eval f X.env)]) (hs2 : starEach [f] X.env = [(false, eval f X.env)]) :
    PI X tg (.Call (.Name "range" p) [e, f] [] pos) (liftI (cn X) W (wI T (.rng2 ie iff))) :=
  pi_imp (pi_range2 hg hm (pa_cons he (pa_cons hf pa_nil hs2) (by rw [hs, hs2])) hs hs2) fun s H Q ⟨b, G0, H0, G, n, r, Qd, Ex, h, t, x, k⟩ => by
    rw [wI] at t
    refine lift_bind h x t fun v G1 H1 n1 d h1 x1 s1 r1 q1 => lift_bind h1 x1 q1 fun w G2 H2 n2 e h2 x2 s2 r2 q2 => ?_
    cases d with
    | int i =>
      cases e with
      | int j =>
        obtain ⟨c1, c2, c3, c4, c5, q⟩ := q2
        have ev := rp_int_inv r1
        have ew := rp_int_inv r2
        subst ev ew
        exact ⟨i, j, rfl, ⟨c2, c3, c4, c5⟩, k _ G2 H2 n2 _ (s1.trans s2) (wk_rng (by rw [sizeLine_eq]; omega)) q⟩
      | _ => exact q2.elim
    | _ => cases e <;> exact q2.elim
theorem di_enum {e : Expr} {ie : IE} {p pos tpos : Pos} {elts : List Expr} {kk : Nat} (hg : Gl X "enumerate") (hm : X.mg "enumerate" = none) (he : PE X e (lift (cn X) W (wE T ie))) (hs : starEach [e] X.env = [(false, eval e X.env)]) : PI X (.Tuple elts kk tpos) (.Call (.Name "enumerate" p) [e] [] pos) (liftI (cn X) W (wI T (.enum ie))) :=
  pi_imp (pi_enum hg hm (pa_cons he pa_nil hs) hs) fun s H Q ⟨b, G0, H0, G, n, r, Qd, Ex, h, t, x, k⟩ => by
    rw [wI] at t
    refine lift_bind h x t fun v G1 H1 n1 d h1 x1 s1 r1 q1 => ?_
    cases d with
    | list ys =>
      obtain ⟨a, xs, rfl, hl, z, g⟩ := rp_list_inv r1
      exact ⟨a, xs, rfl, SqL.of (h1.ok.sub _ _ hl), k _ G1 H1 n1 _ s1 (wk_enum hl z g) q1⟩
    | _ => exact q1.elim
theorem di_zip {e f : Expr} {ie iff : IE} {p pos tpos : Pos} {elts : List Expr} {kk : Nat} (hg : Gl X "zip") (hm : X.mg "zip" = none) (he : PE X e (lift (cn X) W (wE T ie))) (hf : PE X f (lift (cn X) W (wE T iff))) (hs : starEach [e, f] X.env = (false, eval e X.env) :: starEach [f] X.env) (hs2 : starEach [f] X.env = [(false, eval f X.env)]) :
    PI X (.Tuple elts kk tpos) (.Call (.Name "zip" p) [e, f] [] pos) (liftI (cn X) W (wI T (.zip ie iff))) :=
  pi_imp (RZ.pi_zipA hg hm (pa_cons he (pa_cons hf pa_nil hs2) hs) hs (by rw [hs2]; rfl)) fun s H Q ⟨b, G0, H0, G, n, r, Qd, Ex, h, t, x, k⟩ => by
    rw [wI] at t
    refine lift_bind h x t fun v G1 H1 n1 d h1 x1 s1 r1 q1 => lift_bind h1 x1 q1 fun w G2 H2 n2 e h2 x2 s2 r2 q2 => ?_
    have r1 := r1.mono s2.gg
    cases d with
    | list i =>
      cases e with
      | list j =>
        obtain ⟨a, xs, rfl, hl, z, g⟩ := rp_list_inv r1
        obtain ⟨a', xs', rfl, hl', z', g'⟩ := rp_list_inv r2
        exact ⟨a, a', xs, xs', rfl, .inl ⟨SqL.of (h2.ok.sub _ _ hl), SqL.of (h2.ok.sub _ _ hl'), k _ G2 H2 n2 _ (s1.trans s2) (wk_zipL hl z g hl' g') q2⟩⟩
      | _ => exact q2.elim
    | tup i =>
      cases e with
      | tup j =>
        obtain ⟨a, xs, rfl, hl, z, g⟩ := rp_tup_inv r1
        obtain ⟨a', xs', rfl, hl', z', g'⟩ := rp_tup_inv r2
        exact ⟨a, a', xs, xs', rfl, .inr ⟨sqt_same h2.ok.sub hl, sqt_same h2.ok.sub hl', k _ G2 H2 n2 _ (s1.trans s2) (wk_zipT hl z g hl' g') q2⟩⟩
      | _ => exact q2.elim
    | _ => cases e <;> exact q2.elim
end
end Dl

set_option Elab.async false
set_option linter.all false
set_option maxRecDepth 100000
set_option maxHeartbeats 4000000
/-! Targets; comprehensions. -/
namespace Dl
open PySem PySem.Spec PyProof.Rows L2
def Tg.slots : Tg → List Nat
  | .one i => [i]
  | .many l => l
def gMany : List Nat → TGs
  | [] => gNil
  | i :: is => gCons (gName i) (gMany is)
def gOf (K : PySem.W.Frag) : Tg → TG
  | .one i => gName i
  | .many l => gTup K l.length (gMany l)
/-- some slots stored -/
def setL (s : L2.St) : List Nat → List V → L2.St
  | [], _ => s
  | _ :: _, [] => s
  | i :: is, v :: vs => setL (s.set i (some v)) is vs
section
variable {K : PySem.W.Frag} {b : Option Addr} {G0 H0 G H : Hp} {n : Nat}
theorem many_bind {Q : L2.St → Hp → Prop} : ∀ {l : List Nat} {vs : List V} {ds : List D} {s : L2.St} {r r' : List Ent}, Rho K b G0 H0 G H n s r → Rps K b G vs ds → setMany r l ds = some r' → (∀ s', Rho K b G0 H0 G H n s' r' → s' = setL s l vs → Q s' H) → gMany l vs s H Q
  | [], vs, ds, s, r, r', h, g, e, k => by
    cases ds with
    | nil =>
      cases g
      rw [setMany] at e
      cases e
      exact ⟨rfl, k s h rfl⟩
    | cons d ds => simp [setMany] at e
  | i :: is, vs, ds, s, r, r', h, g, e, k => by
    cases ds with
    | nil => simp [setMany] at e
    | cons d ds =>
      cases g with
      | cons hv g =>
        rw [setMany] at e
        exact ⟨_, _, rfl, many_bind (h.setSh hv) g e fun s' h' e' => k s' h' (by rw [e']; rfl)⟩
theorem setMany_len : ∀ {l : List Nat} {ds : List D} {r r' : List Ent}, setMany r l ds = some r' → ds.length = l.length
  | [], [], r, r', e => rfl
  | [], d :: ds, r, r', e => by simp [setMany] at e
  | i :: is, [], r, r', e => by simp [setMany] at e
  | i :: is, d :: ds, r, r', e => by
    rw [setMany] at e
    rw [List.length_cons, List.length_cons, setMany_len e]
theorem g_bind {t : Tg} {v : V} {d : D} {s : L2.St} {r r' : List Ent} {Q : L2.St → Hp → Prop} (h : Rho K b G0 H0 G H n s r) (hv : Rp K b G v d) (e : bindT t r d = some r') (k : ∀ s', Rho K b G0 H0 G H n s' r' → (∃ vs, s' = setL s t.slots vs) → Q s' H) : gOf K t v s H Q := by
  cases t with
  | one i =>
    cases e
    exact k _ (h.setSh hv) ⟨[v], rfl⟩
  | many l =>
    cases d with
    | tup ds =>
      obtain ⟨a, xs, rfl, hl, z, g⟩ := rp_tup_inv hv
      have e : setMany r l ds = some r' := e
      exact ⟨a, xs, rfl, sqt_same h.ok.sub hl, by rw [g.length, setMany_len e], many_bind h g e fun s' h' e' => k s' h' ⟨xs, e'⟩⟩
    | _ => cases e
end
/-! ### wiping -/
theorem wipe_set_in {i : Nat} {x : Option V} : ∀ {vs : List Nat} {s : L2.St}, i ∈ vs → wipe (s.set i x) vs = wipe s vs
  | v :: vs, s, h => by
    show (wipe (s.set i x) vs).set v none = (wipe s vs).set v none
    by_cases hi : i ∈ vs
    · rw [wipe_set_in hi]
    · have hv : i = v := by
        rcases List.mem_cons.mp h with z | z
        · exact z
        · exact absurd z hi
      subst hv
      have key : ∀ {ws : List Nat} {s : L2.St}, i ∉ ws → wipe (s.set i x) ws = (wipe s ws).set i x := by
        intro ws
        induction ws with
        | nil => intro s _; rfl
        | cons w ws ih =>
          intro s hn
          have h1 : i ≠ w := fun z => hn (by rw [z]; exact List.mem_cons_self)
          show (wipe (s.set i x) ws).set w none = ((wipe s ws).set w none).set i x
          rw [ih (fun z => hn (List.mem_cons_of_mem _ z)), List.set_comm _ _ h1]
      rw [key hi, List.set_set]
theorem wipe_setL {vs : List Nat} : ∀ {l : List Nat} {ws : List V} {s : L2.St}, (∀ i ∈ l, i ∈ vs) → wipe (setL s l ws) vs = wipe s vs
  | [], _, s, _ => rfl
  | _ :: _, [], s, _ => rfl
  | i :: is, w :: ws, s, h => by
    show wipe (setL (s.set i (some w)) is ws) vs = _
    rw [wipe_setL fun j hj => h j (List.mem_cons_of_mem _ hj), wipe_set_in (h i List.mem_cons_self)]
theorem wipe_wipe : ∀ {vs us : List Nat} {s : L2.St}, (∀ i ∈ us, i ∈ vs) → wipe (wipe s us) vs = wipe s vs
  | vs, [], s, _ => rfl
  | vs, u :: us, s, h => by
    show wipe ((wipe s us).set u none) vs = _
    rw [wipe_set_in (h u List.mem_cons_self), wipe_wipe fun i hi => h i (List.mem_cons_of_mem _ hi)]
def wipeR (r : List Ent) : List Nat → List Ent
  | [] => r
  | v :: vs => (wipeR r vs).set v .no
section
variable {K : PySem.W.Frag} {b : Option Addr} {G0 H0 G H : Hp} {n : Nat}
theorem Rho.wipeL {s : L2.St} {r : List Ent} (h : Rho K b G0 H0 G H n s r) : ∀ vs, Rho K b G0 H0 G H n (L2.wipe s vs) (wipeR r vs)
  | [] => h
  | v :: vs => (Rho.wipeL h vs).wipe1
theorem wipeR_set {i : Nat} {e : Ent} : ∀ {vs : List Nat} {r : List Ent}, i ∉ vs → (wipeR r vs).set i e = wipeR (r.set i e) vs
  | [], r, _ => rfl
  | v :: vs, r, h => by
    show ((wipeR r vs).set v .no).set i e = (wipeR (r.set i e) vs).set v .no
    rw [List.set_comm _ _ (fun z => h (by rw [z]; exact List.mem_cons_self)), wipeR_set fun z => h (List.mem_cons_of_mem _ z)]
theorem setMany_wipe : ∀ {l : List Nat} {ds : List D} {r r' : List Ent}, l.Nodup → setMany r l ds = some r' → setMany (wipeR r l) l ds = some r'
  | [], [], r, r', _, e => e
  | [], d :: ds, r, r', _, e => by simp [setMany] at e
  | i :: is, [], r, r', _, e => by simp [setMany] at e
  | i :: is, d :: ds, r, r', nd, e => by
    obtain ⟨h1, h2⟩ := List.nodup_cons.mp nd
    rw [setMany] at e ⊢
    show setMany (((wipeR r is).set i .no).set i (.sh d)) is ds = some r'
    rw [List.set_set, wipeR_set h1]
    exact setMany_wipe h2 e
theorem bind_wipe {t : Tg} {d : D} {r r' : List Ent} (nd : t.slots.Nodup) (e : bindT t r d = some r') : bindT t (wipeR r t.slots) d = some r' := by
  cases t with
  | one i =>
    cases e
    show some (((r.set i .no)).set i (.sh d)) = _
    rw [List.set_set]
  | many l =>
    cases d with
    | tup ds => exact setMany_wipe nd e
    | _ => cases e
end
/-! ### what is new and one's own -/
def liftF (c : Cn) (W : WD) (te : TD) : TE := fun s H Q => ∃ b G0 H0 G n r Qd Ex, Rho c.K b G0 H0 G H n s r ∧ te r n Qd Ex ∧ XOk c W b G H s Ex ∧
  ∀ p xs ds G' H' n', Stp b G H G' H' n' → H p = none → G' p = none → H' p = some (.lst xs) → xs.length ≤ sizeLine → Rps c.K b G' xs ds → Qd (.list ds) n' → Q (.ref p) H'
theorem stp_share {b : Option Addr} {G H G' H' : Hp} {n' : Nat} (s : Stp b G H G' H' n') {p : Addr} {o : HO} (h1 : H p = none) (h2 : G' p = none) (h3 : H' p = some o) : Stp b G H (upd G' p o) H' n' := by
  refine ⟨s.gg.trans (same_upd h2), fun a u e => ?_, s.kp, fun a u e => ?_, s.bx⟩
  · by_cases z : a = p
    · subst z
      rw [upd_same] at e
      cases e
      exact h3
    · rw [upd_ne z] at e
      exact s.gh a u e
  · by_cases z : a = p
    · subst z
      exact .inr h1
    · rw [upd_ne z] at e
      exact s.nw a u e
theorem lift_of_F {c : Cn} {W : WD} {te : TD} {s : L2.St} {H : Hp} {Q : VK} (h : lift c W te s H Q) : liftF c W te s H Q := by
  obtain ⟨b, G0, H0, G, n, r, Qd, Ex, h, t, x, k⟩ := h
  refine ⟨b, G0, H0, G, n, r, Qd, Ex, h, t, x, fun p xs ds G' H' n' st h1 h2 h3 z g q => ?_⟩
  exact k _ _ H' n' _ (stp_share st h1 h2 h3) (.list upd_same z (g.mono (same_upd h2))) q
theorem de_of_F {X : Cx} {W : WD} {e : Expr} {te : TD} (h : PE X e (liftF (cn X) W te)) : PE X e (lift (cn X) W te) := pe_imp h fun _ _ _ q => lift_of_F q
abbrev WF : WD := fun _ _ _ _ => False
theorem xok_F {c : Cn} {b : Option Addr} {G H : Hp} {s : L2.St} : XOk c WF b G H s noX := fun _ _ _ _ _ _ _ _ z => z.elim
section
variable {X : Cx} {W : WD} {T : Tab}
/-- the heap changed at one's own place alone -/
theorem stp_at {b : Option Addr} {G H G' H' : Hp} {n' : Nat} (s : Stp b G H G' H' n') {p : Addr} {o : HO} (h1 : H p = none) (h2 : G' p = none) (hb : some p ≠ b) : Stp b G H G' (upd H' p o) n' := by
  refine ⟨s.gg, fun a u e => ?_, fun a u nb e => ?_, s.nw, fun q e => ?_⟩
  · rw [upd_ne (ne_of_none e h2)]
    exact s.gh a u e
  · rw [upd_ne (ne_of_none e h1)]
    exact s.kp a u nb e
  · obtain ⟨x, y, z, e1, e2⟩ := s.bx q e
    have nq : q ≠ p := fun z => hb (by rw [← z]; exact e.symm)
    exact ⟨x, y, z, by rw [upd_ne nq]; exact e1, e2⟩
theorem comp_read {is : ISr} {t : Tg} {ic ie : IE} {s : L2.St} {H : Hp} {Q : VK} (nd : t.slots.Nodup) (hq : liftF (cn X) W (wE T (.comp is t ic ie)) s H Q) :
    tLc (liftI (cn X) W (wI T is)) (gOf X.K t) (liftT (cn X) WF (fun r n Q E => wE T ic r n (tru Q) E)) (lift (cn X) WF (wE T ie)) t.slots s H Q := by
  obtain ⟨b, G0, H0, G, n, r, Qd, Ex, h, t0, x, k⟩ := hq
  rw [wE] at t0
  refine ⟨b, G0, H0, G, n, r, _, Ex, h, t0, x, fun J G1 H1 n1 ds s1 wk q1 p np => ?_⟩
  have h1 := h.step s1
  have hb : some p ≠ b := fun z => by
    obtain ⟨_, bx⟩ := h1.ok.box p z.symm
    exact bx.some np
  have gp : G1 p = none := h1.ok.sub.free np
  -- the state of the turns
  refine ⟨fun i m Hc => m = ds.length - i ∧ i ≤ ds.length ∧ ∃ Gc nc acc vacc, Stp b G1 H1 Gc Hc nc ∧ Gc p = none ∧ Hc p = some (.lst vacc) ∧ vacc.length ≤ i ∧ Rps X.K b Gc vacc acc ∧
    compL (fun d m k => ofO (bindT t r d) fun r' => wE T ic r' m (tru fun z m1 => if z = true then wE T ie r' m1 (fun y m2 => k (some y) m2) noX else k none m1) noX) (ds.drop i) acc nc fun xs n2 => Qd (.list xs) n2, ?_, ?_⟩
  · exact ⟨_, rfl, Nat.zero_le _, G1, n1, [], [], Stp.own h1.ok np, gp, upd_same, Nat.zero_le _, .nil, by rw [List.drop_zero]; exact q1⟩
  · rintro i m Hc ⟨rfl, hi, Gc, nc, acc, vacc, sc, gc, hc, hv, g, q⟩
    have okc : Ok b Gc Hc nc := h1.ok.step sc
    by_cases hlt : i < ds.length
    · refine .inr ⟨wk.go i Gc Hc sc.gg sc.gh hlt, fun H' => i + 1 ≤ ds.length ∧ ∃ Gc nc acc vacc, Stp b G1 H1 Gc H' nc ∧ Gc p = none ∧ H' p = some (.lst vacc) ∧ vacc.length ≤ i + 1 ∧ Rps X.K b Gc vacc acc ∧
        compL (fun d m k => ofO (bindT t r d) fun r' => wE T ic r' m (tru fun z m1 => if z = true then wE T ie r' m1 (fun y m2 => k (some y) m2) noX else k none m1) noX) (ds.drop (i + 1)) acc nc fun xs n2 => Qd (.list xs) n2,
        fun H' w => ⟨ds.length - (i + 1), by omega, rfl, w⟩, fun v H' y => ?_⟩
      obtain ⟨d, G2, ed, s2, rv⟩ := wk.yld i nc Gc Hc v H' sc.gg okc y hlt
      have s12 := sc.trans s2
      have h2 := h1.step s12
      have edr : ds.drop i = d :: ds.drop (i + 1) := by
        rw [List.drop_eq_getElem_cons hlt]
        congr 1
        have e2 : ds[i]? = some ds[i] := List.getElem?_eq_getElem hlt
        rw [ed] at e2
        exact (Option.some.inj e2).symm
      rw [edr, compL] at q
      obtain ⟨r', er, q⟩ := ofO_iff q
      have keep : ∀ {G3 H3 : Hp} {n3 : Nat}, Stp b Gc Hc G3 H3 n3 → H3 p = some (.lst vacc) ∧ G3 p = none := fun {G3 H3 n3} s3 => ⟨s3.kp _ _ hb hc, by
        cases qq : G3 p with
        | none => rfl
        | some o =>
          rcases s3.nw p o qq with z | z
          · rw [gc] at z; cases z
          · rw [hc] at z; cases z⟩
      refine g_bind (h2.wipeL t.slots) rv (bind_wipe nd er) fun s' h' ⟨ws, es⟩ => ⟨?_, ?_⟩
      · rw [es, wipe_setL fun i hi => hi, wipe_wipe fun i hi => hi]
      refine ⟨b, G0, H0, G2, nc, r', _, noX, h', q, xok_F, fun G3 H3 n3 z s3 q3 => ?_⟩
      have h3 := h'.step s3
      cases z with
      | false =>
        rw [if_neg (by decide)] at q3
        refine iteF ?_
        have s23 := s2.trans s3
        obtain ⟨k1, k2⟩ := keep s23
        exact ⟨hlt, G3, n3, acc, vacc, sc.trans s23, k2, k1, by omega, g.mono s23.gg, q3⟩
      | true =>
        rw [if_pos rfl] at q3
        refine iteT ?_
        refine lift_bind h3 xok_F q3 fun v4 G4 H4 n4 d4 h4 x4 s4 r4 q4 => ?_
        have s24 := (s2.trans s3).trans s4
        obtain ⟨k1, k2⟩ := keep s24
        refine ⟨vacc, k1, by have := wk.small; omega, hlt, G4, n4, acc ++ [d4], vacc ++ [v4], stp_at (sc.trans s24) np k2 hb, k2, upd_same, by rw [List.length_append]; simp; omega, (g.mono s24.gg).append (.cons r4 .nil), q4⟩
    · have ei : i = ds.length := by omega
      subst ei
      rw [List.drop_length, compL] at q
      refine .inl ⟨wk.stop _ Gc Hc sc.gg sc.gh (Nat.le_refl _), ?_⟩
      have hp : H p = none := by
        cases qq : H p with
        | none => rfl
        | some o => rw [s1.kp p o hb qq] at np; cases np
      exact k p vacc acc Gc Hc nc (s1.trans sc) hp gc hc (by have := wk.small; omega) g q
end
end Dl

set_option Elab.async false
set_option linter.all false
set_option maxRecDepth 100000
set_option maxHeartbeats 4000000
/-! Statements. -/
namespace Dl
open PySem PySem.Spec PyProof.Rows L2
mutual
inductive IS where
  | bad
  | pass
  | brk
  | cont
  | ret (e : IE)
  | retN
  | ex (e : IE)
  | set (i : Nat) (e : IE)
  | setF (i : Nat) (e : IE)
  | unp (l : List Nat) (e : IE)
  | par (l : List Nat) (a : IAs)
  | ife (c : IE) (a e : ISs)
  | forr (s : ISr) (t : Tg) (a : ISs)
  | whl (c : IE) (a : ISs)
  | app (i : Nat) (e : IE)
  | frz (l : List Nat)
inductive ISs where
  | nil
  | cons (s : IS) (r : ISs)
end
structure EndD where
  nx : List Ent → Nat → Prop
  rt : D → Nat → Prop
  bk : List Ent → Nat → Prop
  ct : List Ent → Nat → Prop
  ex : Exn → List Ent → Nat → Prop
def freeze (r : List Ent) : List Nat → List Ent
  | [] => r
  | i :: is => freeze (match r[i]? with
    | some (.ow d) => r.set i (.sh d)
    | _ => r) is
def forL (f : D → List Ent → Nat → (List Ent → Nat → Prop) → Prop) : List D → List Ent → Nat → (List Ent → Nat → Prop) → Prop
  | [], r, n, Q => Q r n
  | d :: ds, r, n, Q => f d r n fun r' n' => forL f ds r' n' Q
def owD (r : List Ent) (i : Nat) : Option (List D) := match r[i]? with
  | some (.ow (.list ys)) => some ys
  | _ => none
def EndD.exAt (E : EndD) (r : List Ent) : QX := fun x n => E.ex x r n
mutual
def wS (T : Tab) : IS → List Ent → Nat → EndD → Prop
  | .bad, _, _, _ => False
  | .pass, r, n, E => E.nx r n
  | .brk, r, n, E => E.bk r n
  | .cont, r, n, E => E.ct r n
  | .ret e, r, n, E => wE T e r n E.rt (E.exAt r)
  | .retN, _, n, E => E.rt .non n
  | .ex e, r, n, E => wE T e r n (fun _ n1 => E.nx r n1) (E.exAt r)
  | .set i e, r, n, E => wE T e r n (fun d n1 => E.nx (r.set i (.sh d)) n1) (E.exAt r)
  | .setF i e, r, n, E => wE T e r n (fun d n1 => E.nx (r.set i (.ow d)) n1) (E.exAt r)
  | .unp l e, r, n, E => wE T e r n (fun d n1 => match d with
    | .tup ds => ofO (setMany r l ds) fun r' => E.nx r' n1
    | _ => False) (E.exAt r)
  | .par l a, r, n, E => wA T a r n (fun ds n1 => ofO (setMany r l ds) fun r' => E.nx r' n1) (E.exAt r)
  | .ife c a e, r, n, E => wE T c r n (tru fun z n1 => if z = true then wB T a r n1 E else wB T e r n1 E) (E.exAt r)
  | .forr s t a, r, n, E => wI T s r n (fun ds n1 => forL (fun d r n k => ofO (bindT t r d) fun r' => wB T a r' n ⟨k, E.rt, E.nx, k, E.ex⟩) ds r n1 E.nx) (E.exAt r)
  | .whl c a, r, n, E => ∃ V : Nat → List Ent → Nat → Prop, (∃ m, V m r n) ∧ ∀ m r n, V m r n → wE T c r n (tru fun z n1 => if z = true then wB T a r n1 ⟨fun r' n' => ∃ m', m' < m ∧ V m' r' n', E.rt, E.nx, fun r' n' => ∃ m', m' < m ∧ V m' r' n', E.ex⟩ else E.nx r n1) (E.exAt r)
  | .app i e, r, n, E => ofO (owD r i) fun ys => wE T e r n (fun d n1 => ys.length < sizeLine ∧ E.nx (r.set i (.ow (.list (ys ++ [d])))) n1) (E.exAt r)
  | .frz l, r, n, E => E.nx (freeze r l) n
def wB (T : Tab) : ISs → List Ent → Nat → EndD → Prop
  | .nil, r, n, E => E.nx r n
  | .cons s rest, r, n, E => wS T s r n ⟨fun r' n' => wB T rest r' n' E, E.rt, E.bk, E.ct, E.ex⟩
end
abbrev WS := List Ent → Nat → EndD → Prop
structure EOk (c : Cn) (W : WD) (b : Option Addr) (G0 H0 : Hp) (E : EndD) (N : Ends) : Prop where
  nx : ∀ s G H n r, Rho c.K b G0 H0 G H n s r → E.nx r n → N.nx s H
  rt : ∀ v G H n d, Stp b G0 H0 G H n → Rp c.K b G v d → E.rt d n → N.rt v H
  bk : ∀ s G H n r, Rho c.K b G0 H0 G H n s r → E.bk r n → N.bk s H
  ct : ∀ s G H n r, Rho c.K b G0 H0 G H n s r → E.ct r n → N.ct s H
  ex : ∀ cls d s G H n r x, Rho c.K b G0 H0 G H n s r → Rx c b G H cls d x → E.ex x r n → W cls d s H
def liftS (c : Cn) (W : WD) (te : WS) : TS := fun N s H => ∃ b G0 H0 G n r E, Rho c.K b G0 H0 G H n s r ∧ te r n E ∧ EOk c W b G0 H0 E N
theorem ps_imp {X : Cx} {e : Stmt} {t t' : TS} (h : PS X e t) (i : ∀ D s H, t' D s H → t D s H) : PS X e t' := ⟨fun pins s a H D I q => h.run pins s a H D I (i _ _ _ q)⟩
theorem pss_imp {X : Cx} {e : List Stmt} {t t' : TS} (h : PSs X e t) (i : ∀ D s H, t' D s H → t D s H) : PSs X e t' := ⟨fun pins s a H D I q => h.run pins s a H D I (i _ _ _ q)⟩
theorem EOk.xok {c : Cn} {W : WD} {b : Option Addr} {G0 H0 G H : Hp} {n : Nat} {s : L2.St} {r : List Ent} {E : EndD} {N : Ends} (k : EOk c W b G0 H0 E N) (h : Rho c.K b G0 H0 G H n s r) : XOk c W b G H s (E.exAt r) :=
  fun cls d G' H' n' x st rx ex => k.ex cls d s G' H' n' r x (h.step st) rx ex
section
variable {X : Cx} {W : WD} {T : Tab}
theorem ds_bad {st : Stmt} : PS X st (liftS (cn X) W (wS T .bad)) := ⟨fun pins s a H D I ⟨b, G0, H0, G, n, r, E, h, t, k⟩ => by
  rw [wS] at t
  exact t.elim⟩
theorem ds_pass {pos : Pos} : PS X (.Pass pos) (liftS (cn X) W (wS T .pass)) := ps_imp ps_pass fun N s H ⟨b, G0, H0, G, n, r, E, h, t, k⟩ => by
  rw [wS] at t
  exact k.nx s G H n r h t
theorem ds_brk {pos : Pos} : PS X (.Break pos) (liftS (cn X) W (wS T .brk)) := ps_imp ps_break fun N s H ⟨b, G0, H0, G, n, r, E, h, t, k⟩ => by
  rw [wS] at t
  exact k.bk s G H n r h t
theorem ds_cont {pos : Pos} : PS X (.Continue pos) (liftS (cn X) W (wS T .cont)) := ps_imp ps_continue fun N s H ⟨b, G0, H0, G, n, r, E, h, t, k⟩ => by
  rw [wS] at t
  exact k.ct s G H n r h t
theorem ds_ret {e : Expr} {ie : IE} {pos : Pos} (he : PE X e (lift (cn X) W (wE T ie))) : PS X (.Return (some e) pos) (liftS (cn X) W (wS T (.ret ie))) := ps_imp (ps_ret he) fun N s H ⟨b, G0, H0, G, n, r, E, h, t, k⟩ => by
  rw [wS] at t
  exact lift_bind h (k.xok h) t fun v G1 H1 n1 d h1 x1 s1 r1 q1 => k.rt v G1 H1 n1 d h1.st r1 q1
theorem ds_retN {pos : Pos} : PS X (.Return none pos) (liftS (cn X) W (wS T .retN)) := ps_imp ps_retN fun N s H ⟨b, G0, H0, G, n, r, E, h, t, k⟩ => by
  rw [wS] at t
  exact k.rt .non G H n .non h.st .non t
theorem ds_ex {e : Expr} {ie : IE} {pos : Pos} (he : PE X e (lift (cn X) W (wE T ie))) (hs : swapsWith e none pos.line X.env = pure false) : PS X (.Expr e pos) (liftS (cn X) W (wS T (.ex ie))) := ps_imp (ps_expr he hs) fun N s H ⟨b, G0, H0, G, n, r, E, h, t, k⟩ => by
  rw [wS] at t
  exact lift_bind h (k.xok h) t fun v G1 H1 n1 d h1 x1 s1 r1 q1 => k.nx s G1 H1 n1 r h1 q1
theorem set_read {te : TE} {i : Nat} {ie : IE} {N : Ends} {s : L2.St} {H : Hp} (ht : ∀ Q, lift (cn X) W (wE T ie) s H Q → te s H Q) (h : liftS (cn X) W (wS T (.set i ie)) N s H) : tAsg te (gName i) N s H := by
  obtain ⟨b, G0, H0, G, n, r, E, h, t, k⟩ := h
  rw [wS] at t
  exact ht _ (lift_bind h (k.xok h) t fun v G1 H1 n1 d h1 x1 s1 r1 q1 => k.nx _ G1 H1 n1 _ (h1.setSh r1) q1)
theorem ds_set {i : Nat} {x : Str} {e : Expr} {ie : IE} {p pos : Pos} (hN : X.N.Nodup) (hi : X.N[i]? = some x) (hx : Loc X.env.scope x) (he : PE X e (lift (cn X) W (wE T ie))) (hs : swapsWith e (some (.Name x p)) pos.line X.env = pure false) (hf : X.fn x = true ∨ X.env.scope.names.lookup x = some .local) :
    PS X (.Assign [.Name x p] e pos) (liftS (cn X) W (wS T (.set i ie))) := ps_imp (ps_set hN hi hx he hs hf) fun N s H h => set_read (fun Q q => q) h
/-- a name gets a thing of one's own -/
theorem Rho.setOw {K : PySem.W.Frag} {b : Option Addr} {G0 H0 G H : Hp} {n : Nat} {s : L2.St} {r : List Ent} (h : Rho K b G0 H0 G H n s r) {i : Nat} {p : Addr} {xs : List V} {ds : List D} (h1 : G p = none) (h2 : H0 p = none) (h3 : some p ≠ b) (h4 : H p = some (.lst xs)) (h5 : xs.length ≤ sizeLine) (h6 : Rps K b G xs ds)
    (h7 : ∀ j d, j ≠ i → r[j]? = some (.ow d) → s[j]? ≠ some (some (.ref p))) : Rho K b G0 H0 G H n (s.set i (some (.ref p))) (r.set i (.ow (.list ds))) := by
  refine ⟨h.ok, h.st, by rw [List.length_set, List.length_set]; exact h.len, fun j x q => ?_, fun j k q d1 d2 q1 q2 q3 q4 => ?_⟩
  · by_cases hj : i = j
    · subst hj
      have hl : i < r.length := by
        have := (List.getElem?_eq_some_iff.mp q).1
        simpa using this
      rw [List.getElem?_set_self hl] at q
      cases q
      rw [List.getElem?_set_self (by rw [← h.len]; exact hl)]
      exact ⟨p, rfl, h1, h2, h3, .inl ⟨xs, ds, rfl, h4, h5, h6⟩⟩
    · rw [List.getElem?_set_ne hj] at q
      rw [List.getElem?_set_ne hj]
      exact h.ent j x q
  · by_cases e1 : i = j
    · by_cases e2 : i = k
      · rw [← e1, ← e2]
      · subst e1
        have hl : i < s.length := by
          have := (List.getElem?_eq_some_iff.mp q3).1
          simpa using this
        rw [List.getElem?_set_self hl] at q3
        rw [List.getElem?_set_ne e2] at q2 q4
        have eq : q = p := by cases q3; rfl
        subst eq
        exact absurd q4 (h7 k d2 (Ne.symm e2) q2)
    · by_cases e2 : i = k
      · subst e2
        have hl : i < s.length := by
          have := (List.getElem?_eq_some_iff.mp q4).1
          simpa using this
        rw [List.getElem?_set_self hl] at q4
        rw [List.getElem?_set_ne e1] at q1 q3
        have eq : q = p := by cases q4; rfl
        subst eq
        exact absurd q3 (h7 j d1 (Ne.symm e1) q1)
      · rw [List.getElem?_set_ne e1] at q1 q3
        rw [List.getElem?_set_ne e2] at q2 q4
        exact h.dj j k q d1 d2 q1 q2 q3 q4
/-- an own place is written -/
theorem ow_there {K : PySem.W.Frag} {b : Option Addr} {G0 H0 G H : Hp} {n : Nat} {s : L2.St} {r : List Ent} (h : Rho K b G0 H0 G H n s r) {j : Nat} {d : D} {p : Addr} (e : r[j]? = some (.ow d)) (e2 : s[j]? = some (some (.ref p))) : H p ≠ none := by
  obtain ⟨q, e1, _, _, _, e5⟩ := h.ent j _ e
  rw [e2] at e1
  have eq : p = q := by cases e1; rfl
  subst eq
  rcases e5 with ⟨xs, ds, _, z, _⟩ | ⟨xs, ds, _, z, _⟩ <;> (rw [z]; intro y; cases y)
theorem setF_read {te : TE} {i : Nat} {ie : IE} {N : Ends} {s : L2.St} {H : Hp} (ht : ∀ Q, liftF (cn X) W (wE T ie) s H Q → te s H Q) (h : liftS (cn X) W (wS T (.setF i ie)) N s H) : tAsg te (gName i) N s H := by
  obtain ⟨b, G0, H0, G, n, r, E, h, t, k⟩ := h
  rw [wS] at t
  refine ht _ ⟨b, G0, H0, G, n, r, _, _, h, t, k.xok h, fun p xs ds G1 H1 n1 st c1 c2 c3 c4 g q => ?_⟩
  have h1 := h.step st
  have hb : some p ≠ b := fun z => (h.ok.box p z.symm).2.some c1
  have c0 : H0 p = none := by
    cases qq : H0 p with
    | none => rfl
    | some o => rw [h.st.kp p o hb qq] at c1; cases c1
  exact k.nx _ G1 H1 n1 _ (h1.setOw c2 c0 hb c3 c4 g fun j d _ e1 e2 => ow_there h e1 e2 c1) q
theorem ds_setF {i : Nat} {x : Str} {e : Expr} {ie : IE} {p pos : Pos} (hN : X.N.Nodup) (hi : X.N[i]? = some x) (hx : Loc X.env.scope x) (he : PE X e (liftF (cn X) W (wE T ie))) (hs : swapsWith e (some (.Name x p)) pos.line X.env = pure false) (hf : X.fn x = true ∨ X.env.scope.names.lookup x = some .local) :
    PS X (.Assign [.Name x p] e pos) (liftS (cn X) W (wS T (.setF i ie))) := ps_imp (ps_set hN hi hx he hs hf) fun N s H h => setF_read (fun Q q => q) h
theorem ds_unp {tg e : Expr} {l : List Nat} {ie : IE} {pos : Pos} (he : PE X e (lift (cn X) W (wE T ie))) (hg : PG X tg (gOf X.K (.many l))) (hs : swapsWithSole [tg] e pos.line X.env = pure false) (hw : swappedStores [tg] e X.env = pure none) (h1 : (assignEach [tg] X.env).map (·.2) = [assign tg X.env]) :
    PS X (.Assign [tg] e pos) (liftS (cn X) W (wS T (.unp l ie))) := ps_imp (ps_asg he hg hs hw h1) fun N s H ⟨b, G0, H0, G, n, r, E, h, t, k⟩ => by
  rw [wS] at t
  refine lift_bind h (k.xok h) t fun v G1 H1 n1 d h1 x1 s1 r1 q1 => ?_
  cases d with
  | tup ds =>
    obtain ⟨r', er, q⟩ := ofO_iff q1
    exact g_bind (t := .many l) h1 r1 er fun s' h' _ => k.nx s' G1 H1 n1 r' h' q
  | _ => exact q1.elim
theorem ds_parT {tg : Expr} {es : List Expr} {l : List Nat} {ia : IAs} {kk : Nat} {p2 pos : Pos} (ha : PA X es (liftA (cn X) W (wA T ia))) (hg : PG X tg (gOf X.K (.many l))) (hs : swapsWithSole [tg] (.Tuple es kk p2) pos.line X.env = pure false) (hw : swappedStores [tg] (.Tuple es kk p2) X.env = pure none) (h1 : (assignEach [tg] X.env).map (·.2) = [assign tg X.env]) (hl : l.length ≤ sizeLine) :
    PS X (.Assign [tg] (.Tuple es kk p2) pos) (liftS (cn X) W (wS T (.par l ia))) := ps_imp (ps_asg (pe_tup ha) hg hs hw h1) fun N s H ⟨b, G0, H0, G, n, r, E, h, t, k⟩ => by
  rw [wS] at t
  refine liftA_bind h (k.xok h) t fun v G1 H1 n1 d h1 x1 s1 r1 q1 => ?_
  obtain ⟨r', er, q⟩ := ofO_iff q1
  have hz : v.length ≤ sizeLine := by rw [r1.length, setMany_len er]; exact hl
  refine ⟨hz, fun p np => ?_⟩
  obtain ⟨s2, r2⟩ := rp_new_tup h1.ok np r1 hz
  exact g_bind (t := .many l) (h1.step s2) r2 (show bindT (.many l) r (.tup d) = some r' from er) fun s' h' _ => k.nx s' _ _ n1 r' h' q
theorem ds_par2 {i j : Nat} {x y : Str} {a c : Expr} {ia : IAs} {px py pt pos : Pos} {kt k2 : Nat} {pt2 : Pos} (hc : X.calm = true) (hN : X.N.Nodup) (hi : X.N[i]? = some x) (hj : X.N[j]? = some y) (hij : i ≠ j)
    (hx : X.env.scope.names.lookup x = some .local) (hy : X.env.scope.names.lookup y = some .local) (ha : PA X [a, c] (liftA (cn X) W (wA T ia)))
    (hw : swappedStores [.Tuple [.Name x px, .Name y py] kt pt] (.Tuple [a, c] k2 pt2) X.env = pure (some [x, y])) (hs : swapsWithSole [.Tuple [.Name x px, .Name y py] kt pt] (.Tuple [a, c] k2 pt2) pos.line X.env = pure false) :
    PS X (.Assign [.Tuple [.Name x px, .Name y py] kt pt] (.Tuple [a, c] k2 pt2) pos) (liftS (cn X) W (wS T (.par [i, j] ia))) := ps_imp (ps_par hc hN hi hj hij hx hy ha hw hs) fun N s H ⟨b, G0, H0, G, n, r, E, h, t, k⟩ => by
  rw [wS] at t
  refine liftA_bind h (k.xok h) t fun v G1 H1 n1 d h1 x1 s1 r1 q1 => ?_
  obtain ⟨r', er, q⟩ := ofO_iff q1
  match d, r1, er with
  | [d1, d2], .cons g1 (.cons g2 .nil), er =>
    have er : (r.set i (.sh d1)).set j (.sh d2) = r' := by
      simpa [setMany] using er
    subst er
    exact ⟨_, _, rfl, k.nx _ G1 H1 n1 _ ((h1.setSh g1).setSh g2) q⟩
theorem ds_par3 {i j l : Nat} {x y z : Str} {a c e : Expr} {ia : IAs} {px py pz pt pos : Pos} {kt k2 : Nat} {pt2 : Pos} (hc : X.calm = true) (hN : X.N.Nodup) (hi : X.N[i]? = some x) (hj : X.N[j]? = some y) (hl : X.N[l]? = some z) (hij : i ≠ j) (hil : i ≠ l) (hjl : j ≠ l)
    (hx : X.env.scope.names.lookup x = some .local) (hy : X.env.scope.names.lookup y = some .local) (hz : X.env.scope.names.lookup z = some .local) (ha : PA X [a, c, e] (liftA (cn X) W (wA T ia)))
    (hw : swappedStores [.Tuple [.Name x px, .Name y py, .Name z pz] kt pt] (.Tuple [a, c, e] k2 pt2) X.env = pure (some [x, y, z])) (hs : swapsWithSole [.Tuple [.Name x px, .Name y py, .Name z pz] kt pt] (.Tuple [a, c, e] k2 pt2) pos.line X.env = pure false) :
    PS X (.Assign [.Tuple [.Name x px, .Name y py, .Name z pz] kt pt] (.Tuple [a, c, e] k2 pt2) pos) (liftS (cn X) W (wS T (.par [i, j, l] ia))) := ps_imp (ps_par3 hc hN hi hj hl hij hil hjl hx hy hz ha hw hs) fun N s H ⟨b, G0, H0, G, n, r, E, h, t, k⟩ => by
  rw [wS] at t
  refine liftA_bind h (k.xok h) t fun v G1 H1 n1 d h1 x1 s1 r1 q1 => ?_
  obtain ⟨r', er, q⟩ := ofO_iff q1
  match d, r1, er with
  | [d1, d2, d3], .cons g1 (.cons g2 (.cons g3 .nil)), er =>
    have er : ((r.set i (.sh d1)).set j (.sh d2)).set l (.sh d3) = r' := by
      simpa [setMany] using er
    subst er
    exact ⟨_, _, _, rfl, k.nx _ G1 H1 n1 _ (((h1.setSh g1).setSh g2).setSh g3) q⟩
theorem ds_ife {c : Expr} {a e : List Stmt} {ic : IE} {ia ie : ISs} {pos : Pos} (hc : PT X c (lT X W (wE T ic))) (ha : PSs X a (liftS (cn X) W (wB T ia))) (he : PSs X e (liftS (cn X) W (wB T ie))) : PS X (.If c a e pos) (liftS (cn X) W (wS T (.ife ic ia ie))) :=
  ps_imp (ps_if hc ha he) fun N s H ⟨b, G0, H0, G, n, r, E, h, t, k⟩ => by
    rw [wS] at t
    refine liftT_bind h (k.xok h) t fun G1 H1 n1 z h1 x1 s1 q1 => ?_
    cases z with
    | true =>
      rw [if_pos rfl] at q1
      exact iteT ⟨b, G0, H0, G1, n1, r, E, h1, q1, k⟩
    | false =>
      rw [if_neg (by decide)] at q1
      exact iteF ⟨b, G0, H0, G1, n1, r, E, h1, q1, k⟩
theorem dss_nil : PSs X [] (liftS (cn X) W (wB T .nil)) := pss_imp pss_nil fun N s H ⟨b, G0, H0, G, n, r, E, h, t, k⟩ => by
  rw [wB] at t
  exact k.nx s G H n r h t
theorem dss_cons {st : Stmt} {rest : List Stmt} {is : IS} {ir : ISs} (h1 : PS X st (liftS (cn X) W (wS T is))) (h2 : PSs X rest (liftS (cn X) W (wB T ir))) : PSs X (st :: rest) (liftS (cn X) W (wB T (.cons is ir))) :=
  pss_imp (pss_cons h1 h2) fun N s H ⟨b, G0, H0, G, n, r, E, h, t, k⟩ => by
    rw [wB] at t
    refine ⟨b, G0, H0, G, n, r, _, h, t, ⟨fun s G H n r h' q => ?_, k.rt, k.bk, k.ct, k.ex⟩⟩
    exact ⟨b, G0, H0, G, n, r, E, h', q, k⟩
/-- nothing but what is known changes -/
theorem Rho.share {K : PySem.W.Frag} {b : Option Addr} {G0 H0 G H : Hp} {n : Nat} {s : L2.St} {r : List Ent} (h : Rho K b G0 H0 G H n s r) {i : Nat} {d : D} (e : r[i]? = some (.ow d)) : ∃ G', Same G G' ∧ Rho K b G0 H0 G' H n s (r.set i (.sh d)) := by
  obtain ⟨p, e1, e2, e3, e4, e5⟩ := h.ent i _ e
  have fin : ∀ (o : HO), H p = some o → Rp K b (upd G p o) (.ref p) d → ∃ G', Same G G' ∧ Rho K b G0 H0 G' H n s (r.set i (.sh d)) := fun o hp rp => by
    have sm : Same G (upd G p o) := same_upd e2
    have sub : Same (upd G p o) H := fun a u q => by
      by_cases z : a = p
      · subst z
        rw [upd_same] at q
        cases q
        exact hp
      · rw [upd_ne z] at q
        exact h.ok.sub a u q
    refine ⟨_, sm, ⟨⟨sub, fun q eq => ⟨?_, (h.ok.box q eq).2⟩⟩, ⟨h.st.gg.trans sm, sub, h.st.kp, fun a u q => ?_, h.st.bx⟩, by rw [List.length_set]; exact h.len, fun j x q => ?_, fun j k q d1 d2 q1 q2 q3 q4 => ?_⟩⟩
    · have nq : q ≠ p := fun z => e4 (by rw [← z]; exact eq.symm)
      rw [upd_ne nq]
      exact (h.ok.box q eq).1
    · by_cases z : a = p
      · subst z
        exact .inr e3
      · rw [upd_ne z] at q
        exact h.st.nw a u q
    · by_cases hj : i = j
      · subst hj
        have hl : i < r.length := by
          have := (List.getElem?_eq_some_iff.mp q).1
          simpa using this
        rw [List.getElem?_set_self hl] at q
        cases q
        exact ⟨.ref p, e1, rp⟩
      · rw [List.getElem?_set_ne hj] at q
        have en := h.ent j x q
        cases x with
        | no => trivial
        | sh d' =>
          obtain ⟨v, f1, f2⟩ := en
          exact ⟨v, f1, f2.mono sm⟩
        | ow d' =>
          obtain ⟨p', f1, f2, f3, f4, f5⟩ := en
          have np : p' ≠ p := fun z => by
            subst z
            exact hj (h.dj i j p' d d' e q e1 f1)
          refine ⟨p', f1, by rw [upd_ne np]; exact f2, f3, f4, ?_⟩
          rcases f5 with ⟨xs, ds, g1, g2, g3, g4⟩ | ⟨xs, ds, g1, g2, g3, g4⟩
          · exact .inl ⟨xs, ds, g1, g2, g3, g4.mono sm⟩
          · exact .inr ⟨xs, ds, g1, g2, g3, g4.mono sm⟩
    · have key : ∀ (m : Nat) (dd : D), (r.set i (.sh d))[m]? = some (.ow dd) → r[m]? = some (.ow dd) := fun m dd q => by
        by_cases hm : i = m
        · subst hm
          have hl : i < r.length := by
            have := (List.getElem?_eq_some_iff.mp q).1
            simpa using this
          rw [List.getElem?_set_self hl] at q
          cases q
        · rw [List.getElem?_set_ne hm] at q
          exact q
      exact h.dj j k q d1 d2 (key j d1 q1) (key k d2 q2) q3 q4
  rcases e5 with ⟨xs, ds, rfl, g2, g3, g4⟩ | ⟨xs, ds, rfl, g2, g3, g4⟩
  · exact fin _ g2 (.list upd_same g3 (g4.mono (same_upd e2)))
  · exact fin _ g2 (.dict upd_same g3 (g4.mono (same_upd e2)))
theorem Rho.freeze {K : PySem.W.Frag} {b : Option Addr} {G0 H0 H : Hp} {n : Nat} {s : L2.St} : ∀ {l : List Nat} {G : Hp} {r : List Ent}, Rho K b G0 H0 G H n s r → ∃ G', Rho K b G0 H0 G' H n s (freeze r l)
  | [], G, r, h => ⟨G, h⟩
  | i :: is, G, r, h => by
    rw [Dl.freeze]
    split
    · obtain ⟨G', _, h'⟩ := h.share (by assumption)
      exact Rho.freeze h'
    · exact Rho.freeze h
theorem dss_frz {l : List Nat} {sts : List Stmt} {ir : ISs} (h2 : PSs X sts (liftS (cn X) W (wB T ir))) : PSs X sts (liftS (cn X) W (wB T (.cons (.frz l) ir))) :=
  pss_imp h2 fun N s H ⟨b, G0, H0, G, n, r, E, h, t, k⟩ => by
    rw [wB, wS] at t
    obtain ⟨G', h'⟩ := h.freeze (l := l)
    exact ⟨b, G0, H0, G', n, _, E, h', t, k⟩
end
end Dl

set_option Elab.async false
set_option linter.all false
set_option maxRecDepth 100000
set_option maxHeartbeats 4000000
/-! Loops; what is appended. -/
namespace Dl
open PySem PySem.Spec PyProof.Rows L2
section
variable {K : PySem.W.Frag} {b : Option Addr} {G0 H0 G H G1 H1 : Hp} {n n1 : Nat} {s s1 : L2.St} {r r1 : List Ent}
theorem Rho.self (h : Rho K b G0 H0 G H n s r) : Rho K b G H0 G H n s r :=
  ⟨h.ok, ⟨Same.refl _, h.st.gh, h.st.kp, fun a o e => .inl e, h.st.bx⟩, h.len, h.ent, h.dj⟩
theorem Rho.rebase (h1 : Rho K b G0 H0 G1 H1 n1 s1 r1) (h : Rho K b G1 H0 G H n s r) : Rho K b G0 H0 G H n s r :=
  ⟨h.ok, ⟨h1.st.gg.trans h.st.gg, h.st.gh, h.st.kp, fun a o e => (h.st.nw a o e).elim (h1.st.nw a o) .inr, h.st.bx⟩, h.len, h.ent, h.dj⟩
theorem Stp.rebase (h1 : Rho K b G0 H0 G1 H1 n1 s1 r1) (h : Stp b G1 H0 G H n) : Stp b G0 H0 G H n :=
  ⟨h1.st.gg.trans h.gg, h.gh, h.kp, fun a o e => (h.nw a o e).elim (h1.st.nw a o) .inr, h.bx⟩
end
section
variable {X : Cx} {W : WD} {T : Tab}
theorem ds_for {tg iter : Expr} {body : List Stmt} {is : ISr} {t : Tg} {ia : ISs} {pos : Pos} (hp : PassesOwn (model X.prog X.w) X.A X.env X.xe) (hc : X.calm = true) (hi : PI X tg iter (liftI (cn X) W (wI T is))) (hg : PG X tg (gOf X.K t)) (hb : PSs X body (liftS (cn X) W (wB T ia)))
    (hs : ∀ x, foldedSetIterable iter X.env x = pure x) : PS X (.For tg iter body [] pos) (liftS (cn X) W (wS T (.forr is t ia))) :=
  ps_imp (ps_for hp hc hi hg hb hs) fun N s H ⟨b, G0, H0, G, n, r, E, h, t0, k⟩ => by
    rw [wS] at t0
    refine ⟨b, G0, H0, G, n, r, _, _, h, t0, k.xok h, fun J G1 H1 n1 ds s1 wk q1 => ?_⟩
    have h1 := h.step s1
    refine ⟨fun i m s' H' => m = ds.length - i ∧ i ≤ ds.length ∧ ∃ G' n' r', Rho X.K b G1 H0 G' H' n' s' r' ∧ forL (fun d r n k => ofO (bindT t r d) fun r' => wB T ia r' n ⟨k, E.rt, E.nx, k, E.ex⟩) (ds.drop i) r' n' E.nx, ?_, ?_⟩
    · exact ⟨_, rfl, Nat.zero_le _, G1, n1, r, h1.self, by rw [List.drop_zero]; exact q1⟩
    · rintro i m s' H' ⟨rfl, hi, G', n', r', h', q⟩
      have sm : Same G1 G' := h'.st.gg
      by_cases hlt : i < ds.length
      · refine .inr ⟨wk.go i G' H' sm h'.ok.sub hlt, fun s2 H2 => i + 1 ≤ ds.length ∧ ∃ G' n' r', Rho X.K b G1 H0 G' H2 n' s2 r' ∧ forL (fun d r n k => ofO (bindT t r d) fun r' => wB T ia r' n ⟨k, E.rt, E.nx, k, E.ex⟩) (ds.drop (i + 1)) r' n' E.nx,
          fun s2 H2 w => ⟨ds.length - (i + 1), by omega, rfl, w⟩, fun v H2 y => ?_⟩
        obtain ⟨d, G2, ed, s2, rv⟩ := wk.yld i n' G' H' v H2 sm h'.ok y hlt
        have h2 := h'.step s2
        have edr : ds.drop i = d :: ds.drop (i + 1) := by
          rw [List.drop_eq_getElem_cons hlt]
          congr 1
          have e2 : ds[i]? = some ds[i] := List.getElem?_eq_getElem hlt
          rw [ed] at e2
          exact (Option.some.inj e2).symm
        rw [edr, forL] at q
        obtain ⟨r2, er, q⟩ := ofO_iff q
        refine g_bind h2 rv er fun s3 h3 _ => ?_
        refine ⟨b, G1, H0, G2, n', r2, _, h3, q, ⟨fun s4 G4 H4 n4 r4 h4 q4 => ⟨hlt, G4, n4, r4, h4, q4⟩, fun v4 G4 H4 n4 d4 st r4 q4 => k.rt v4 G4 H4 n4 d4 (st.rebase h1) r4 q4, fun s4 G4 H4 n4 r4 h4 q4 => k.nx s4 G4 H4 n4 r4 (h1.rebase h4) q4,
          fun s4 G4 H4 n4 r4 h4 q4 => ⟨hlt, G4, n4, r4, h4, q4⟩, fun cls d4 s4 G4 H4 n4 r4 x4 h4 rx q4 => k.ex cls d4 s4 G4 H4 n4 r4 x4 (h1.rebase h4) rx q4⟩⟩
      · have ei : i = ds.length := by omega
        subst ei
        rw [List.drop_length, forL] at q
        exact .inl ⟨wk.stop _ G' H' sm h'.ok.sub (Nat.le_refl _), k.nx s' G' H' n' r' (h1.rebase h') q⟩
theorem ds_whl {c : Expr} {body : List Stmt} {ic : IE} {ia : ISs} {pos : Pos} (hp : PassesOwn (model X.prog X.w) X.A X.env X.xe) (hc : PT X c (lT X W (wE T ic))) (hb : PSs X body (liftS (cn X) W (wB T ia))) : PS X (.While c body [] pos) (liftS (cn X) W (wS T (.whl ic ia))) :=
  ps_imp (ps_while hp hc hb) fun N s H ⟨b, G0, H0, G, n, r, E, h, t0, k⟩ => by
    rw [wS] at t0
    obtain ⟨V, ⟨m0, v0⟩, turn⟩ := t0
    refine ⟨fun m s' H' => ∃ G' n' r', Rho X.K b G0 H0 G' H' n' s' r' ∧ V m r' n', ⟨m0, G, n, r, h, v0⟩, ?_⟩
    rintro m s' H' ⟨G', n', r', h', v⟩
    refine liftT_bind h' (k.xok h') (turn m r' n' v) fun G1 H1 n1 z h1 x1 s1 q1 => ?_
    cases z with
    | true =>
      rw [if_pos rfl] at q1
      refine iteT ⟨fun s2 H2 => ∃ m', m' < m ∧ ∃ G' n' r', Rho X.K b G0 H0 G' H2 n' s2 r' ∧ V m' r' n', fun s2 H2 w => w, ?_⟩
      refine ⟨b, G0, H0, G1, n1, r', _, h1, q1, ⟨fun s4 G4 H4 n4 r4 h4 ⟨m', hm, q4⟩ => ⟨m', hm, G4, n4, r4, h4, q4⟩, k.rt, k.nx, fun s4 G4 H4 n4 r4 h4 ⟨m', hm, q4⟩ => ⟨m', hm, G4, n4, r4, h4, q4⟩, k.ex⟩⟩
    | false =>
      rw [if_neg (by decide)] at q1
      exact iteF (k.nx s' G1 H1 n1 r' h1 q1)
/-- an own list is changed -/
theorem Rho.write {K : PySem.W.Frag} {b : Option Addr} {G0 H0 G H : Hp} {n : Nat} {s : L2.St} {r : List Ent} (h : Rho K b G0 H0 G H n s r) {i : Nat} {p : Addr} {ds es : List D} {ys : List V} (e : r[i]? = some (.ow (.list ds))) (es' : s[i]? = some (some (.ref p))) (hz : ys.length ≤ sizeLine) (g : Rps K b G ys es) :
    Rho K b G0 H0 G (upd H p (.lst ys)) n s (r.set i (.ow (.list es))) := by
  obtain ⟨p', e1, e2, e3, e4, e5⟩ := h.ent i _ e
  rw [es'] at e1
  have ep : p' = p := by cases e1; rfl
  subst ep
  have st : Stp b G H G (upd H p' (.lst ys)) n → False ∨ True := fun _ => .inr trivial
  have sub : Same G (upd H p' (.lst ys)) := fun a o q => by
    rw [upd_ne (ne_of_none q e2)]
    exact h.ok.sub a o q
  have bx : ∀ q, b = some q → BoxAt (upd H p' (.lst ys)) q n := fun q eq => by
    obtain ⟨x, y, z, f1, f2⟩ := (h.ok.box q eq).2
    have nq : q ≠ p' := fun z => e4 (by rw [← z]; exact eq.symm)
    exact ⟨x, y, z, by rw [upd_ne nq]; exact f1, f2⟩
  refine ⟨⟨sub, fun q eq => ⟨(h.ok.box q eq).1, bx q eq⟩⟩, ⟨h.st.gg, sub, fun a o nb q => ?_, h.st.nw, bx⟩, by rw [List.length_set]; exact h.len, fun j x q => ?_, fun j k q d1 d2 q1 q2 q3 q4 => ?_⟩
  · rw [upd_ne (ne_of_none q e3)]
    exact h.st.kp a o nb q
  · by_cases hj : i = j
    · subst hj
      have hl : i < r.length := by
        have := (List.getElem?_eq_some_iff.mp q).1
        simpa using this
      rw [List.getElem?_set_self hl] at q
      cases q
      exact ⟨p', es', e2, e3, e4, .inl ⟨ys, es, rfl, upd_same, hz, g⟩⟩
    · rw [List.getElem?_set_ne hj] at q
      have en := h.ent j x q
      cases x with
      | no => trivial
      | sh d' => exact en
      | ow d' =>
        obtain ⟨p2, f1, f2, f3, f4, f5⟩ := en
        have np : p2 ≠ p' := fun z => by
          subst z
          exact hj (h.dj i j p2 _ d' e q es' f1)
        refine ⟨p2, f1, f2, f3, f4, ?_⟩
        rw [upd_ne np]
        exact f5
  · have key : ∀ (m : Nat) (dd : D), (r.set i (.ow (.list es)))[m]? = some (.ow dd) → ∃ d', r[m]? = some (.ow d') := fun m dd q => by
      by_cases hm : i = m
      · subst hm
        exact ⟨_, e⟩
      · rw [List.getElem?_set_ne hm] at q
        exact ⟨dd, q⟩
    obtain ⟨d1', f1⟩ := key j d1 q1
    obtain ⟨d2', f2⟩ := key k d2 q2
    exact h.dj j k q d1' d2' f1 f2 q3 q4
theorem ds_app {i : Nat} {x : Str} {e : Expr} {ie : IE} {p apos cpos pos : Pos} (hN : X.N[i]? = some x) (hv : Vis X.env.scope x) (hd : (x == ("__debug__" : Str)) = false) (hcd : (x == ("__classdict__" : Str)) = false) (he : PE X e (lift (cn X) W (wE T ie)))
    (hbase : attributeBase (.Name x p) "append" X.env (eval (.Name x p) X.env) = eval (.Name x p) X.env) (hst : starEach [e] X.env = [(false, eval e X.env)]) (hline : (apos.endLine == cpos.line) = true) :
    PS X (.Expr (.Call (.Attribute (.Name x p) "append" apos) [e] [] cpos) pos) (liftS (cn X) W (wS T (.app i ie))) :=
  ps_imp (ps_expr (pe_bm PySem.F.plainAttrs_list PySem.F.slot_list_append PySem.F.type_list_append mt_append (pe_var hN hv hd hcd) (pa_cons he pa_nil hst) hbase (by rw [hst]; rfl) hline hst)) fun N s H ⟨b, G0, H0, G, n, r, E, h, t0, k⟩ => by
    rw [wS] at t0
    obtain ⟨ys, ey, t0⟩ := ofO_iff t0
    have er : r[i]? = some (.ow (.list ys)) := by
      unfold owD at ey
      split at ey
      · cases ey
        assumption
      · cases ey
    obtain ⟨q, e1, e2, e3, e4, e5⟩ := h.ent i _ er
    rcases e5 with ⟨xs, ds, ed, hq, hz, g⟩ | ⟨_, _, ed, _⟩
    · cases ed
      refine ⟨.ref q, e1, .inl ⟨rfl, xs, SqL.of hq⟩, ?_⟩
      refine lift_bind h (k.xok h) t0 fun v G1 H1 n1 d h1 x1 s1 r1 q1 => ?_
      have hq1 : H1 q = some (.lst xs) := s1.kp _ _ e4 hq
      refine ⟨q, xs, v, rfl, rfl, hq1, by rw [g.length]; exact q1.1, ?_⟩
      exact k.nx s G1 _ n1 _ (h1.write er e1 (by rw [List.length_append]; have := q1.1; have := g.length; simp; omega) ((g.mono s1.gg).append (.cons r1 .nil))) q1.2
    · cases ed
end
end Dl

set_option Elab.async false
set_option linter.all false
set_option maxRecDepth 100000
set_option maxHeartbeats 4000000
/-! Expressions that make a new list. -/
namespace Dl
open PySem PySem.Spec PyProof.Rows L2
section
variable {X : Cx} {W : WD} {T : Tab}
theorem old_none {b : Option Addr} {G H G' H' : Hp} {n n' : Nat} (ok : Ok b G H n) (s : Stp b G H G' H' n') {p : Addr} (np : H' p = none) : H p = none := by
  cases q : H p with
  | none => rfl
  | some o =>
    by_cases hb : some p = b
    · exact absurd np (s.bx p hb.symm).some
    · rw [s.kp p o hb q] at np
      cases np
theorem df_lst {es : List Expr} {ia : IAs} {pos : Pos} (ha : PA X es (liftA (cn X) W (wA T ia))) : PE X (.List es pos) (liftF (cn X) W (wE T (.lst ia))) :=
  pe_imp (pe_lst ha) fun s H Q ⟨b, G0, H0, G, n, r, Qd, Ex, h, t, x, k⟩ => by
    rw [wE] at t
    refine liftA_bind h x t fun v G1 H1 n1 d h1 x1 s1 r1 q1 => ⟨by rw [r1.length]; exact q1.1, fun p np => ?_⟩
    exact k p v d G1 _ n1 (s1.trans (Stp.own h1.ok np)) (old_none h.ok s1 np) (h1.ok.sub.free np) upd_same (by rw [r1.length]; exact q1.1) r1 q1.2
theorem df_cat {a c : Expr} {ia ic : IE} {pos : Pos} (ha : PE X a (lift (cn X) W (wE T ia))) (hc : PE X c (lift (cn X) W (wE T ic))) : PE X (.BinOp a .Add c pos) (liftF (cn X) W (wE T (.cat ia ic))) :=
  pe_imp (pe_op op_cat ha hc) fun s H Q ⟨b, G0, H0, G, n, r, Qd, Ex, h, t, x, k⟩ => by
    rw [wE] at t
    refine lift_bind h x t fun v G1 H1 n1 d h1 x1 s1 r1 q1 => lift_bind h1 x1 q1 fun w G2 H2 n2 e h2 x2 s2 r2 q2 => ?_
    have r1 := r1.mono s2.gg
    cases d with
    | list xs =>
      cases e with
      | list ys =>
        obtain ⟨l, vs, rfl, hl, z1, g1⟩ := rp_list_inv r1
        obtain ⟨m, ws, rfl, hm, z2, g2⟩ := rp_list_inv r2
        obtain ⟨c, q⟩ := q2
        rw [← g1.length, ← g2.length] at c
        refine ⟨l, m, vs, ws, rfl, rfl, h2.ok.sub _ _ hl, h2.ok.sub _ _ hm, c, fun p np => ?_⟩
        have st := s1.trans s2
        exact k p _ _ G2 _ n2 (st.trans (Stp.own h2.ok np)) (old_none h.ok st np) (h2.ok.sub.free np) upd_same (by rw [List.length_append]; exact c) (g1.append g2) q
      | _ => exact q2.elim
    | _ => cases e <;> exact q2.elim
theorem df_list {a : Expr} {ia : IE} {p pos : Pos} (hg : Gl X "list") (hm : X.mg "list" = none) (ha : PE X a (lift (cn X) W (wE T ia))) (hs : starEach [a] X.env = [(false, eval a X.env)]) : PE X (.Call (.Name "list" p) [a] [] pos) (liftF (cn X) W (wE T (.bi .list ia))) :=
  pe_imp (pe_callTy call_list_of hg hm boot_list (pa_cons ha pa_nil hs) (by decide +kernel) (by decide +kernel) hs) fun s H Q ⟨b, G0, H0, G, n, r, Qd, Ex, h, t, x, k⟩ => by
    rw [wE] at t
    refine lift_bind h x t fun v G1 H1 n1 d h1 x1 s1 r1 q1 => ?_
    obtain ⟨z, ez, q3⟩ := ofO_iff q1
    cases d with
    | list ds =>
      obtain ⟨l, vs, rfl, hl, z1, g1⟩ := rp_list_inv r1
      cases ez
      exact ⟨l, vs, rfl, .inl (SqL.of (h1.ok.sub _ _ hl)), fun p np => k p _ _ G1 _ n1 (s1.trans (Stp.own h1.ok np)) (old_none h.ok s1 np) (h1.ok.sub.free np) upd_same z1 g1 q3⟩
    | tup ds =>
      obtain ⟨l, vs, rfl, hl, z1, g1⟩ := rp_tup_inv r1
      cases ez
      exact ⟨l, vs, rfl, .inr (sqt_same h1.ok.sub hl), fun p np => k p _ _ G1 _ n1 (s1.trans (Stp.own h1.ok np)) (old_none h.ok s1 np) (h1.ok.sub.free np) upd_same z1 g1 q3⟩
    | _ => cases ez
theorem df_comp {elt tg iter : Expr} {ifs : List Expr} {scope : Scope} {own : List (Str × Nat)} {pos : Pos} {is : ISr} {t : Tg} {ic ie : IE} (hc : X.calm = true) (hN : X.N.Nodup) (nd : t.slots.Nodup) (hi : PI X tg iter (liftI (cn X) W (wI T is))) (ok : BlkOk X.N X.env.scope scope own) (ho : own.map (·.2) = t.slots)
    (hg : ∀ (s : Shared) (H : Hp) (C : Addr) (cl : List (Str × Addr)) (fp : List Addr), PG (X.blk s H scope (compEnvC scope cl C X.env) fp) tg (gOf X.K t))
    (ht : ∀ (s : Shared) (H : Hp) (C : Addr) (cl : List (Str × Addr)) (fp : List Addr), PTs (X.blk s H scope (compEnvC scope cl C X.env) fp) ifs (lT X WF (wE T ic)))
    (he : ∀ (s : Shared) (H : Hp) (C : Addr) (cl : List (Str × Addr)) (fp : List Addr), PE (X.blk s H scope (compEnvC scope cl C X.env) fp) elt (lift (cn X) WF (wE T ie))) (hs : ∀ x, foldedSetIterable iter X.env x = pure x) :
    PE X (.ListComp elt [⟨tg, iter, ifs, 0⟩] scope pos) (liftF (cn X) W (wE T (.comp is t ic ie))) :=
  pe_imp (pe_lc hc hN hi ok hg ht he hs) fun s H Q h => by
    rw [ho]
    exact comp_read nd h
theorem ds_setLc {i : Nat} {y : Str} {py : Pos} {elt tg iter : Expr} {ifs : List Expr} {scope : Scope} {own : List (Str × Nat)} {pos spos : Pos} {is : ISr} {t : Tg} {ic ie : IE} (fr : Bool) (hc : X.calm = true) (hN : X.N.Nodup) (nd : t.slots.Nodup) (hy : X.N[i]? = some y) (hyl : X.env.scope.names.lookup y = some .local)
    (hsw : swapsWith (.ListComp elt [⟨tg, iter, ifs, 0⟩] scope pos) (some (.Name y py)) spos.line X.env = pure true) (hi : PI X tg iter (liftI (cn X) W (wI T is))) (ok : BlkOk X.N X.env.scope scope own) (ho : own.map (·.2) = t.slots)
    (hg : ∀ (s : Shared) (H : Hp) (C : Addr) (cl : List (Str × Addr)) (fp : List Addr), PG (X.blk s H scope (compEnvC scope cl C X.env) fp) tg (gOf X.K t))
    (ht : ∀ (s : Shared) (H : Hp) (C : Addr) (cl : List (Str × Addr)) (fp : List Addr), PTs (X.blk s H scope (compEnvC scope cl C X.env) fp) ifs (lT X WF (wE T ic)))
    (he : ∀ (s : Shared) (H : Hp) (C : Addr) (cl : List (Str × Addr)) (fp : List Addr), PE (X.blk s H scope (compEnvC scope cl C X.env) fp) elt (lift (cn X) WF (wE T ie))) (hs : ∀ x, foldedSetIterable iter X.env x = pure x) :
    PS X (.Assign [.Name y py] (.ListComp elt [⟨tg, iter, ifs, 0⟩] scope pos) spos) (liftS (cn X) W (wS T (if fr then .setF i (.comp is t ic ie) else .set i (.comp is t ic ie)))) :=
  ps_imp (ps_setLc hc hN hy hyl hsw hi ok hg ht he hs) fun N s H h => by
    rw [ho]
    cases fr with
    | false => exact set_read (fun Q q => comp_read nd (lift_of_F q)) h
    | true => exact setF_read (fun Q q => comp_read nd q) h
theorem dts_nil : PTs X [] (lT X W (wE T (.k (.bl true)))) := ⟨fun pins s a H Q I ⟨b, G0, H0, G, n, r, Qd, Ex, h, t, x, k⟩ => pts_nil.run pins s a H Q I (by
  dsimp only at t
  rw [wE] at t
  exact k G H n true (Stp.refl h.ok) t)⟩
end
end Dl

set_option Elab.async false
set_option linter.all false
set_option maxRecDepth 100000
set_option maxHeartbeats 4000000
/-! From the program's text into the small language. -/
namespace Dl
open PySem PySem.Spec PyProof.Rows L2
structure CC where
  N : List Str
  sc : Scope
  mu : List Str
def ixOf : List Str → Str → Option Nat
  | [], _ => none
  | y :: ys, x => if y = x then some 0 else (ixOf ys x).map (· + 1)
theorem ixOf_get : ∀ {l : List Str} {x : Str} {i : Nat}, ixOf l x = some i → l[i]? = some x
  | [], _, _, h => by cases h
  | y :: ys, x, i, h => by
    rw [ixOf] at h
    split at h
    · cases h
      simp_all
    · cases q : ixOf ys x with
      | none => rw [q] at h; cases h
      | some j =>
        rw [q] at h
        cases h
        simpa using ixOf_get q
def visB (sc : Scope) (x : Str) : Bool := match sc.names.lookup x with
  | some .local => true
  | some .cell => true
  | some .free => true
  | _ => false
def locB (sc : Scope) (x : Str) : Bool := match sc.names.lookup x with
  | some .local => true
  | some .cell => true
  | _ => false
def lclB (sc : Scope) (x : Str) : Bool := match sc.names.lookup x with
  | some .local => true
  | _ => false
def glB (sc : Scope) (x : Str) : Bool := match sc.names.lookup x with
  | some .globalImplicit => true
  | _ => false
theorem vis_of {sc : Scope} {x : Str} (h : visB sc x = true) : Vis sc x := by
  unfold visB at h
  split at h
  · exact .inl (by assumption)
  · exact .inr (.inl (by assumption))
  · exact .inr (.inr (by assumption))
  · cases h
theorem loc_of {sc : Scope} {x : Str} (h : locB sc x = true) : Loc sc x := by
  unfold locB at h
  split at h
  · exact .inl (by assumption)
  · exact .inr (by assumption)
  · cases h
theorem lcl_of {sc : Scope} {x : Str} (h : lclB sc x = true) : sc.names.lookup x = some .local := by
  unfold lclB at h
  split at h
  · assumption
  · cases h
theorem gl_of {sc : Scope} {x : Str} (h : glB sc x = true) : sc.names.lookup x = some .globalImplicit := by
  unfold glB at h
  split at h
  · assumption
  · cases h
def nmOk (x : Str) : Bool := !(x == ("__debug__" : Str)) && !(x == ("__classdict__" : Str)) && !(x == ("__name__" : Str))
theorem nm_of {x : Str} (h : nmOk x = true) : (x == ("__debug__" : Str)) = false ∧ (x == ("__classdict__" : Str)) = false ∧ x ≠ ("__name__" : Str) := by
  unfold nmOk at h
  rw [Bool.and_eq_true, Bool.and_eq_true] at h
  obtain ⟨⟨h1, h2⟩, h3⟩ := h
  refine ⟨by simpa using h1, by simpa using h2, fun e => ?_⟩
  rw [e] at h3
  simp at h3
def bltNames : List Str := ["len", "tuple", "list", "all", "any", "int", "abs", "isinstance", "bool", "str", "dict", "range", "enumerate", "zip", "set", "sum", "max", "min", "sorted"]
def isStar : Expr → Bool
  | .Starred .. => true
  | _ => false
def isSet : Expr → Bool
  | .Set .. => true
  | _ => false
theorem star1 {e : Expr} (h : isStar e = false) (es : List Expr) (env : Env) : starEach (e :: es) env = (false, eval e env) :: starEach es env := by
  cases e <;> first | rfl | cases h
theorem starAll {es : List Expr} (h : es.any isStar = false) (env : Env) (pos : Pos) : (backTo pos (starEach es env)).any (·.1) = false := by
  have key : ∀ es : List Expr, es.any isStar = false → (starEach es env).any (·.1) = false := by
    intro es
    induction es with
    | nil => intro _; rfl
    | cons e es ih =>
      intro h
      rw [List.any_cons, Bool.or_eq_false_iff] at h
      rw [star1 h.1, List.any_cons, ih h.2]
      rfl
  have e2 : ∀ l : List (Bool × Sem Value), (backTo pos l).any (·.1) = l.any (·.1) := by
    intro l
    unfold backTo
    simp [List.any_map]
    try rfl
  rw [e2]
  exact key es h
theorem noset_marks {op : CmpOp} {e : Expr} (h : isSet e = false) : behindInMarks op e = false := by
  cases e <;> first | rfl | cases h
theorem noset_fold {e : Expr} (h : isSet e = false) (env : Env) (x : Value) : foldedSetIterable e env x = pure x := by
  cases e <;> first | rfl | cases h
def okIx : Expr → Bool
  | .Slice .. => false
  | .Starred .. => false
  | .Tuple .. => false
  | _ => true
theorem plain_ix {e : Expr} (h : okIx e = true) : PlainIx e := by
  intro o i
  cases e <;> first | rfl | cases h
def isComp : Expr → Bool
  | .ListComp .. => true
  | .SetComp .. => true
  | .DictComp .. => true
  | _ => false
theorem nocomp_sw {e : Expr} (h : isComp e = false) (t : Option Expr) (l : Nat) (env : Env) : swapsWith e t l env = pure false := by
  cases e <;> first | rfl | cases h
/-- what a body stands in -/
structure Gd (c : CC) (T : Tab) (k : Nat) (X : Cx) : Prop where
  N : X.N = c.N
  nd : c.N.Nodup
  sc : X.env.scope = c.sc
  calm : X.calm = true
  room : Room k X.A
  blt : ∀ x ∈ bltNames, X.mg x = none
  gv : ∀ x d, T.gv x = some d → ∃ v u, X.mg x = some u ∧ RelV v u ∧ ∀ b G, Rp X.K b G v d
  gd : ∀ x kv, T.gd x = some kv → GdD X x kv
  fs : ∀ f fs, T.fs f = some fs → FnD X k f fs
  sm : ∀ C m ps fs, T.sm C m = some (ps, fs) → SmD X k C m ps fs
section
variable {c : CC} {T : Tab} {k : Nat} {X : Cx}
theorem Gd.gl (g : Gd c T k X) {x : Str} (h : glB c.sc x = true) : Gl X x := by
  show X.env.scope.names.lookup x = _
  rw [g.sc]
  exact gl_of h
theorem Gd.vis (g : Gd c T k X) {x : Str} (h : visB c.sc x = true) : Vis X.env.scope x := by
  rw [g.sc]
  exact vis_of h
theorem Gd.at (g : Gd c T k X) {x : Str} {i : Nat} (h : ixOf c.N x = some i) : X.N[i]? = some x := by
  rw [g.N]
  exact ixOf_get h
theorem Gd.u65 (g : Gd c T k X) : X.A.units + 65 < cLine := by
  have := g.room.un
  omega
theorem Gd.u64 (g : Gd c T k X) : X.A.units + 64 < cLine := by
  have := g.room.un
  omega
theorem Gd.blk (g : Gd c T k X) (s : Shared) (H : Hp) (C : Addr) (cl : List (Str × Addr)) (fp : List Addr) (scope : Scope) : Gd ⟨c.N, relS scope c.sc, c.mu⟩ T k (X.blk s H scope (compEnvC scope cl C X.env) fp) :=
  ⟨g.N, g.nd, by rw [← g.sc]; rfl, g.calm, g.room, g.blt, g.gv, fun x kv h => ⟨(g.gd x kv h).ex⟩, fun f fs h => ⟨(g.fs f fs h).ex⟩, fun C m ps fs h => ⟨(g.sm C m ps fs h).ex⟩⟩
end
/-! ### names -/
def cName (c : CC) (x : Str) : IE := if visB c.sc x && nmOk x then (match ixOf c.N x with
    | some i => .v i
    | none => .bad) else if glB c.sc x && nmOk x then .g x else .bad
def cConst : Const → IE
  | .none => .k .non
  | .bool b => .k (.bl b)
  | .int i => .k (.int i)
  | .str z => if decide (z.length ≤ 16777216) && PyData.strOk z then .k (.str z) else .bad
  | _ => .bad
def opOf : Operator → Option BOp
  | .Add => some .add
  | .Sub => some .sub
  | .Mult => some .mul
  | .Mod => some .mod
  | .FloorDiv => some .fdiv
  | .Pow => some .pow
  | _ => none
def copOf : CmpOp → COp
  | .Eq => .eq
  | .NotEq => .ne
  | .Lt => .lt
  | .LtE => .le
  | .Gt => .gt
  | .GtE => .ge
  | .Is => .is
  | .IsNot => .isnot
  | .In => .inn
  | .NotIn => .notin
/-- an own list that is read in its place -/
def cOwn (c : CC) (e : Expr) : Option Nat := match e with
  | .Name x _ => if decide (x ∈ c.mu) && visB c.sc x && nmOk x then ixOf c.N x else none
  | _ => none
section
variable {c : CC} {T : Tab} {k : Nat} {X : Cx} {W : WD}
theorem s_name (g : Gd c T k X) (x : Str) (p : Pos) : PE X (.Name x p) (lift (cn X) W (wE T (cName c x))) := by
  unfold cName
  split
  · rename_i h
    rw [Bool.and_eq_true] at h
    split
    · rename_i i hi
      obtain ⟨h1, h2, h3⟩ := nm_of h.2
      exact de_v (g.at hi) (g.vis h.1) h1 h2
    · exact de_bad
  · split
    · rename_i h
      rw [Bool.and_eq_true] at h
      obtain ⟨h1, h2, h3⟩ := nm_of h.2
      exact de_g (g.gl h.1) h1 (g.gv x)
    · exact de_bad
theorem s_const (v : Const) (j : Nat) (p : Pos) : PE X (.Constant v j p) (lift (cn X) W (wE T (cConst v))) := by
  cases v with
  | none => exact de_non
  | bool b => exact de_bl
  | int i => exact de_int
  | str z =>
    rw [cConst]
    split
    · rename_i h
      rw [Bool.and_eq_true, decide_eq_true_eq] at h
      exact de_str (by rw [sizeLine_eq]; exact h.1) h.2
    · exact de_bad
  | _ => exact de_bad
theorem s_op {op : Operator} {o : BOp} (h : opOf op = some o) : OpR X (binaryOp op) (lr2 X.K (binop o)) := by
  cases op <;> first | (cases h; done) | skip
  · cases h; exact dop_add
  · cases h; exact dop_sub
  · cases h; exact dop_mul
  · cases h; exact dop_mod
  · cases h; exact dop_pow
  · cases h; exact dop_fdiv
theorem s_cop (g : Gd c T k X) (op : CmpOp) : OpR X (compareOp op) (lc2 X.K (cmpop (copOf op))) := by
  cases op
  · exact dc_eq g.u64
  · exact dc_ne g.u64
  · exact dc_lt
  · exact dc_le
  · exact dc_gt
  · exact dc_ge
  · exact dc_is
  · exact dc_isnot
  · exact dc_in g.u65
  · exact dc_notin g.u65
theorem own_of (g : Gd c T k X) {e : Expr} {i : Nat} (h : cOwn c e = some i) : ∃ x p, e = .Name x p ∧ X.N[i]? = some x ∧ Vis X.env.scope x ∧ (x == ("__debug__" : Str)) = false ∧ (x == ("__classdict__" : Str)) = false := by
  unfold cOwn at h
  split at h
  · split at h
    · rename_i x p hc
      rw [Bool.and_eq_true, Bool.and_eq_true] at hc
      obtain ⟨h1, h2, h3⟩ := nm_of hc.2
      exact ⟨x, p, rfl, g.at h, g.vis hc.1.2, h1, h2⟩
    · cases h
  · cases h
end
end Dl

set_option Elab.async false
set_option linter.all false
set_option maxRecDepth 100000
set_option maxHeartbeats 4000000
/-! From the program's text into the small language: expressions. -/
namespace Dl
open PySem PySem.Spec PyProof.Rows L2
/-! ### targets -/
def cNames (c : CC) (fn : Str → Bool) : List Expr → Option (List Nat)
  | [] => some []
  | .Name x _ :: r => if locB c.sc x && (fn x || lclB c.sc x) then (match ixOf c.N x, cNames c fn r with
    | some i, some l => some (i :: l)
    | _, _ => none) else none
  | _ :: _ => none
def cTg (c : CC) (fn : Str → Bool) : Expr → Option Tg
  | .Name x _ => if locB c.sc x && (fn x || lclB c.sc x) then (ixOf c.N x).map .one else none
  | .Tuple es _ _ => (cNames c fn es).map .many
  | _ => none
def isTup : Expr → Bool
  | .Tuple .. => true
  | _ => false
def tgNames : Expr → List Str
  | .Name x _ => [x]
  | .Tuple es _ _ => es.filterMap fun
    | .Name x _ => some x
    | _ => none
  | _ => []
section
variable {c : CC} {T : Tab} {k : Nat} {X : Cx} {W : WD}
theorem s_pgn (g : Gd c T k X) {fn : Str → Bool} (hfn : ∀ x, fn x = true → X.fn x = true) {x : Str} {p : Pos} {i : Nat} (h : (locB c.sc x && (fn x || lclB c.sc x)) = true) (hi : ixOf c.N x = some i) : PG X (.Name x p) (gName i) := by
  rw [Bool.and_eq_true, Bool.or_eq_true] at h
  refine pg_name (by rw [g.N]; exact g.nd) (g.at hi) (by rw [g.sc]; exact loc_of h.1) ?_
  rcases h.2 with z | z
  · exact .inl (hfn x z)
  · exact .inr (by rw [g.sc]; exact lcl_of z)
theorem s_pgs (g : Gd c T k X) {fn : Str → Bool} (hfn : ∀ x, fn x = true → X.fn x = true) : ∀ {es : List Expr} {l : List Nat}, cNames c fn es = some l → PGs X es (gMany l) ∧ (assignEach es X.env).length = l.length ∧ (assignEach es X.env).any (·.1) = false
  | [], l, h => by
    cases h
    exact ⟨pgs_nil, rfl, rfl⟩
  | .Name x p :: r, l, h => by
    rw [cNames] at h
    split at h
    · rename_i hc
      split at h
      · rename_i i l' hi hl
        cases h
        obtain ⟨h1, h2, h3⟩ := s_pgs g hfn hl
        refine ⟨pgs_cons (s_pgn g hfn hc hi) h1, ?_, ?_⟩
        · show (assignEach r X.env).length + 1 = l'.length + 1
          rw [h2]
        · show (false || (assignEach r X.env).any (·.1)) = false
          rw [h3]
          rfl
      · cases h
    · cases h
theorem s_tg (g : Gd c T k X) {fn : Str → Bool} (hfn : ∀ x, fn x = true → X.fn x = true) {tg : Expr} {t : Tg} (h : cTg c fn tg = some t) : PG X tg (gOf X.K t) := by
  unfold cTg at h
  split at h
  · split at h
    · rename_i x p hc
      cases q : ixOf c.N x with
      | none => rw [q] at h; cases h
      | some i =>
        rw [q] at h
        cases h
        exact s_pgn g hfn hc q
    · cases h
  · rename_i es kk p
    cases q : cNames c fn es with
    | none => rw [q] at h; cases h
    | some l =>
      rw [q] at h
      cases h
      obtain ⟨h1, h2, h3⟩ := s_pgs g hfn q
      refine pg_tup g.calm h1 h2 ?_
      rw [List.findIdx?_eq_none_iff]
      intro x hx
      rw [List.any_eq_false] at h3
      simpa using h3 x hx
  · cases h
end
def cCmp1 (c : CC) (op : CmpOp) (b : Expr) (ia ib : IE) : IE := match op, cOwn c b with
  | .In, some i => .inO false ia i
  | .NotIn, some i => .inO true ia i
  | _, _ => if isSet b then .bad else .cmp (copOf op) ia ib
/-- a call of a name with positional arguments -/
def biOf (f : Str) : Option Bi :=
  if f = "len" then some .len else if f = "tuple" then some .tuple else if f = "list" then some .list else if f = "all" then some .all else if f = "any" then some .any else if f = "int" then some .int else if f = "abs" then some .abs else none
def cCall (c : CC) (f : Str) (args : List Expr) (ia : IE) (ias : IAs) : IE :=
  if !(glB c.sc f && nmOk f) || args.any isStar then .bad else match args with
  | [] => .call f .nil
  | [a] => match biOf f with
    | some b => (match b, cOwn c a with
      | .len, some i => .lenO i
      | _, _ => .bi b ia)
    | none => .call f ias
  | [_, b] => if f = "isinstance" then (match b with
      | .Name x _ => (match tyOf x with
        | some t => if glB c.sc x then .isi ia [t] else .bad
        | none => .bad)
      | .Tuple es _ _ => (match tysE es with
        | some ts => if decide (ts.length ≤ 100) && (es.all fun
          | .Name x _ => glB c.sc x
          | _ => false) then .isi ia ts else .bad
        | none => .bad)
      | _ => .bad) else .call f ias
  | _ => .call f ias
mutual
def cE : Nat → CC → Expr → IE
  | 0, _, _ => .bad
  | k + 1, c, e => match e with
    | .Name x _ => cName c x
    | .Constant v _ _ => cConst v
    | .BinOp a op b _ => (match opOf op with
      | some o => .bin o (cE k c a) (cE k c b)
      | none => .bad)
    | .UnaryOp .USub a _ => .neg (cE k c a)
    | .UnaryOp .Not a _ => .not (cE k c a)
    | .Compare a [op] [b] _ => cCmp1 c op b (cE k c a) (cE k c b)
    | .Compare a [op, op'] [b, d] _ => if isSet b || isSet d then .bad else .chain (copOf op) (copOf op') (cE k c a) (cE k c b) (cE k c d)
    | .BoolOp .And es _ => .and (cL k c es)
    | .BoolOp .Or es _ => .or (cL k c es)
    | .IfExp t a b _ => .ite (cT k c t) (cE k c a) (cE k c b)
    | .List es _ => .lst (cA k c es)
    | .Tuple es _ _ => .tup (cA k c es)
    | .Dict [] [] _ => .dis [] .nil
    | .Dict keys values _ => (match keysE keys with
      | some ks => if decide (values.length = ks.length) && decide (ks.length ≤ 15) && !keys.isEmpty then .dis ks (cL k c values) else .bad
      | none => .bad)
    | .Subscript a (.Slice none none (some (.UnaryOp .USub (.Constant (.int 1) _ _) _)) _) _ => .rev (cE k c a)
    | .Subscript a (.Slice lo hi none _) _ => .slc (cE k c a) lo.isSome hi.isSome (cO k c lo) (cO k c hi)
    | .Subscript a i _ => if okIx i then .ix (cE k c a) (cE k c i) else .bad
    | .Call (.Name f p1) [.Call (.Name g p2) [a] [] q] [] _ => if decide (f = "len") && decide (g = "set") && glB c.sc f && glB c.sc g && !isStar a then .lenset (cE k c a) else cCall c f [.Call (.Name g p2) [a] [] q] (cH k c [.Call (.Name g p2) [a] [] q]) (cA k c [.Call (.Name g p2) [a] [] q])
    | .Call (.Name f _) args [] _ => cCall c f args (cH k c args) (cA k c args)
    | .Call (.Attribute (.Constant (.str z) _ _) m ap) [a] [] p => if decide (m = "join") && decide (z.length ≤ 16777216) && PyData.strOk z && !isStar a && (ap.endLine == p.line) then .join z (cE k c a) else .bad
    | .Call (.Attribute (.Name x _) m ap) [a, b] [] p => if decide (m = "get") && glB c.sc x && nmOk x && !isStar a && !isStar b && (ap.endLine == p.line) then .gget x (cE k c a) (cE k c b)
      else if glB c.sc x && nmOk x && !isStar a && !isStar b && (ap.endLine == p.line) then .stat x m (cA k c [a, b]) else .bad
    | .Call (.Attribute (.Name x _) m ap) [] [⟨some k1, a, _⟩, ⟨some k2, b, _⟩] p => if glB c.sc x && nmOk x && (ap.endLine == p.line) then .statk x m [k1, k2] (.cons (cE k c a) (.cons (cE k c b) .nil)) else .bad
    | .ListComp elt [⟨tg, iter, ifs, z⟩] scope _ => (match cTg ⟨c.N, relS scope c.sc, c.mu⟩ (fun x => scope.names.lookup x == some .cell) tg with
      | some t => if decide (z = 0) && blkC c.N c.sc scope ((tgNames tg).zip t.slots) && decide (((tgNames tg).zip t.slots).map (·.2) = t.slots) && decide t.slots.Nodup && !isSet iter && decide (ifs.length ≤ 1) then
          .comp (cI k c tg iter) t (cF k ⟨c.N, relS scope c.sc, c.mu⟩ ifs) (cE k ⟨c.N, relS scope c.sc, c.mu⟩ elt) else .bad
      | none => .bad)
    | _ => .bad
def cT : Nat → CC → Expr → IE
  | 0, _, _ => .bad
  | k + 1, c, e => match e with
    | .UnaryOp .Not a _ => .tnot (cT k c a)
    | .BoolOp .And es _ => .tand (cLT k c es)
    | .BoolOp .Or es _ => .tor (cLT k c es)
    | .Compare a [op] [b] _ => cCmp1 c op b (cE k c a) (cE k c b)
    | .Compare a [op, op'] [b, d] _ => if isSet b || isSet d then .bad else .chain (copOf op) (copOf op') (cE k c a) (cE k c b) (cE k c d)
    | .Compare .. => .bad
    | .IfExp .. => .bad
    | .Name x p => cE k c (.Name x p)
    | .Constant v j p => cE k c (.Constant v j p)
    | .Call f a w p => cE k c (.Call f a w p)
    | .Subscript a i p => cE k c (.Subscript a i p)
    | _ => .bad
def cA : Nat → CC → List Expr → IAs
  | 0, _, _ => .cons .bad .nil
  | _ + 1, _, [] => .nil
  | k + 1, c, .Starred e _ :: r => .star (cE k c e) (cA k c r)
  | k + 1, c, e :: r => .cons (cE k c e) (cA k c r)
def cL : Nat → CC → List Expr → IAs
  | 0, _, _ => .cons .bad .nil
  | _ + 1, _, [] => .nil
  | k + 1, c, e :: r => .cons (cE k c e) (cL k c r)
def cLT : Nat → CC → List Expr → IAs
  | 0, _, _ => .cons .bad .nil
  | _ + 1, _, [] => .nil
  | k + 1, c, e :: r => .cons (cT k c e) (cLT k c r)
def cO : Nat → CC → Option Expr → IE
  | 0, _, _ => .bad
  | _ + 1, _, none => .bad
  | k + 1, c, some e => cE k c e
/-- the first argument -/
def cH : Nat → CC → List Expr → IE
  | 0, _, _ => .bad
  | _ + 1, _, [] => .bad
  | k + 1, c, e :: _ => cE k c e
/-- a comprehension's test -/
def cF : Nat → CC → List Expr → IE
  | 0, _, _ => .bad
  | _ + 1, _, [] => .k (.bl true)
  | k + 1, c, e :: _ => cT k c e
/-- what is walked -/
def cI : Nat → CC → Expr → Expr → ISr
  | 0, _, _, _ => .ex .bad
  | k + 1, c, tg, e => match e with
    | .Call (.Name f _) [a] [] _ =>
      if decide (f = "range") && glB c.sc f && !isStar a then .rng1 (cE k c a)
      else if decide (f = "enumerate") && glB c.sc f && !isStar a && isTup tg then .enum (cE k c a)
      else .ex (cE k c e)
    | .Call (.Name f _) [a, b] [] _ =>
      if decide (f = "range") && glB c.sc f && !isStar a && !isStar b then .rng2 (cE k c a) (cE k c b)
      else if decide (f = "zip") && glB c.sc f && !isStar a && !isStar b && isTup tg then .zip (cE k c a) (cE k c b)
      else .ex (cE k c e)
    | e => .ex (cE k c e)
end
end Dl

set_option Elab.async false
set_option linter.all false
set_option maxRecDepth 100000
set_option maxHeartbeats 4000000
/-! The small language tells what the program's text does: expressions. -/
namespace Dl
open PySem PySem.Spec PyProof.Rows L2
section
variable {c : CC} {T : Tab} {k : Nat} {X : Cx} {W : WD}
theorem s_cmp1 (g : Gd c T k X) {op : CmpOp} {a b : Expr} {ia ib : IE} {pos : Pos} (ha : PE X a (lift (cn X) W (wE T ia))) (hb : PE X b (lift (cn X) W (wE T ib))) : PE X (.Compare a [op] [b] pos) (lift (cn X) W (wE T (cCmp1 c op b ia ib))) := by
  unfold cCmp1
  split
  · rename_i i h
    obtain ⟨x, p, rfl, h1, h2, h3, h4⟩ := own_of g h
    exact de_in g.u65 ha h1 h2 h3 h4
  · rename_i i h
    obtain ⟨x, p, rfl, h1, h2, h3, h4⟩ := own_of g h
    exact de_notin g.u65 ha h1 h2 h3 h4
  · split
    · exact de_bad
    · rename_i h
      exact de_cmp (s_cop g _) ha hb (noset_marks (by simpa using h))
theorem st_cmp1 (g : Gd c T k X) {op : CmpOp} {a b : Expr} {ia ib : IE} {pos : Pos} (ha : PE X a (lift (cn X) W (wE T ia))) (hb : PE X b (lift (cn X) W (wE T ib))) : PT X (.Compare a [op] [b] pos) (lT X W (wE T (cCmp1 c op b ia ib))) := by
  unfold cCmp1
  split
  · rename_i i h
    obtain ⟨x, p, rfl, h1, h2, h3, h4⟩ := own_of g h
    exact dt_in g.u65 ha h1 h2 h3 h4
  · rename_i i h
    obtain ⟨x, p, rfl, h1, h2, h3, h4⟩ := own_of g h
    exact dt_notin g.u65 ha h1 h2 h3 h4
  · split
    · exact dt_bad
    · rename_i h
      exact dt_cmp (s_cop g _) ha hb (noset_marks (by simpa using h))
theorem bi_blt {f : Str} {b : Bi} (h : biOf f = some b) : (b = .len ∧ f = "len") ∨ (b = .tuple ∧ f = "tuple") ∨ (b = .list ∧ f = "list") ∨ (b = .all ∧ f = "all") ∨ (b = .any ∧ f = "any") ∨ (b = .int ∧ f = "int") ∨ (b = .abs ∧ f = "abs") := by
  unfold biOf at h
  split at h
  · cases h; exact .inl ⟨rfl, by assumption⟩
  split at h
  · cases h; exact .inr (.inl ⟨rfl, by assumption⟩)
  split at h
  · cases h; exact .inr (.inr (.inl ⟨rfl, by assumption⟩))
  split at h
  · cases h; exact .inr (.inr (.inr (.inl ⟨rfl, by assumption⟩)))
  split at h
  · cases h; exact .inr (.inr (.inr (.inr (.inl ⟨rfl, by assumption⟩))))
  split at h
  · cases h; exact .inr (.inr (.inr (.inr (.inr (.inl ⟨rfl, by assumption⟩)))))
  split at h
  · cases h; exact .inr (.inr (.inr (.inr (.inr (.inr ⟨rfl, by assumption⟩)))))
  cases h
theorem s_bi (g : Gd c T k X) {f : Str} {b : Bi} {a : Expr} {ia : IE} {p pos : Pos} (h : biOf f = some b) (hg : Gl X f) (hs : isStar a = false) (ha : PE X a (lift (cn X) W (wE T ia))) : PE X (.Call (.Name f p) [a] [] pos) (lift (cn X) W (wE T (.bi b ia))) := by
  have hst : starEach [a] X.env = [(false, eval a X.env)] := star1 hs [] X.env
  rcases bi_blt h with ⟨rfl, rfl⟩ | ⟨rfl, rfl⟩ | ⟨rfl, rfl⟩ | ⟨rfl, rfl⟩ | ⟨rfl, rfl⟩ | ⟨rfl, rfl⟩ | ⟨rfl, rfl⟩
  · exact de_biB db_len hg (g.blt _ (by decide +kernel)) boot_len (by decide +kernel) (by decide +kernel) ha hst
  · exact de_biT db_tuple hg (g.blt _ (by decide +kernel)) boot_tuple (by decide +kernel) (by decide +kernel) ha hst
  · exact de_biT db_list hg (g.blt _ (by decide +kernel)) boot_list (by decide +kernel) (by decide +kernel) ha hst
  · exact de_biB (db_all g.calm) hg (g.blt _ (by decide +kernel)) boot_all (by decide +kernel) (by decide +kernel) ha hst
  · exact de_biB (db_any g.calm) hg (g.blt _ (by decide +kernel)) (by decide +kernel) (by decide +kernel) (by decide +kernel) ha hst
  · exact de_biT db_int hg (g.blt _ (by decide +kernel)) boot_int (by decide +kernel) (by decide +kernel) ha hst
  · exact de_biB db_abs hg (g.blt _ (by decide +kernel)) (by decide +kernel) (by decide +kernel) (by decide +kernel) ha hst
theorem tyOf_blt {x : Str} {t : Ty} (h : tyOf x = some t) : x ∈ bltNames := by
  have e := tyOf_eq h
  subst e
  cases t <;> (simp only [Ty.nm]; decide +kernel)
theorem tysE_mem : ∀ {es : List Expr} {ts : List Ty}, tysE es = some ts → ∀ x p, Expr.Name x p ∈ es → x ∈ bltNames
  | [], ts, _, x, p, h => by cases h
  | .Name y q :: r, ts, e, x, p, h => by
    rw [tysE] at e
    split at e
    · rename_i t ts' e1 e2
      rcases List.mem_cons.mp h with z | z
      · cases z
        exact tyOf_blt e1
      · exact tysE_mem e2 x p z
    · cases e
theorem s_call (g : Gd c T k X) (tk : Takes X W) {f : Str} {args : List Expr} {ia : IE} {ias : IAs} {p pos : Pos} (ha : ∀ a r, args = a :: r → PE X a (lift (cn X) W (wE T ia))) (has : PA X args (liftA (cn X) W (wA T ias))) : PE X (.Call (.Name f p) args [] pos) (lift (cn X) W (wE T (cCall c f args ia ias))) := by
  unfold cCall
  split
  · exact de_bad
  rename_i h
  rw [Bool.or_eq_true, not_or] at h
  obtain ⟨h1, h2⟩ := h
  replace h1 : (glB c.sc f && nmOk f) = true := by simpa using h1
  replace h2 : args.any isStar = false := by simpa using h2
  rw [Bool.and_eq_true] at h1
  obtain ⟨n1, n2, n3⟩ := nm_of h1.2
  have hg : Gl X f := g.gl h1.1
  have call : ∀ a r, args = a :: r → PE X (.Call (.Name f p) args [] pos) (lift (cn X) W (wE T (.call f ias))) := fun a r e => by
    subst e
    rw [List.any_cons, Bool.or_eq_false_iff] at h2
    exact de_call tk (g.fs f) g.room hg n1 has (star1 h2.1 _ _) (starAll h2.2 _ _)
  split
  · exact de_call0 tk (g.fs f) g.room hg n1
  · rename_i a
    have hs : isStar a = false := by simpa using h2
    split
    · rename_i b hb
      split
      · rename_i i hi
        obtain ⟨x, q, rfl, o1, o2, o3, o4⟩ := own_of g hi
        have hf : f = "len" := by
          rcases bi_blt hb with ⟨e, z⟩ | ⟨e, z⟩ | ⟨e, z⟩ | ⟨e, z⟩ | ⟨e, z⟩ | ⟨e, z⟩ | ⟨e, z⟩ <;> first | exact z | cases e
        subst hf
        exact de_lenO hg (g.blt _ (by decide +kernel)) o1 o2 o3 o4
      · exact s_bi g hb hg hs (ha a [] rfl)
    · exact call a [] rfl
  · rename_i a b
    have hs : isStar a = false := by
      rw [List.any_cons, Bool.or_eq_false_iff] at h2
      exact h2.1
    split
    · rename_i hf
      subst hf
      have hm : X.mg "isinstance" = none := g.blt _ (by decide +kernel)
      split
      · rename_i x q
        split
        · rename_i t ht
          split
          · rename_i hx
            exact de_isi1 hg hm ht (g.gl hx) (g.blt _ (tyOf_blt ht)) (ha a _ rfl) fun es => star1 hs es _
          · exact de_bad
        · exact de_bad
      · rename_i es kk q
        split
        · rename_i ts hts
          split
          · rename_i hx
            rw [Bool.and_eq_true, decide_eq_true_eq, List.all_eq_true] at hx
            refine de_isiN hg hm hts (fun x p hxp => ⟨g.gl (hx.2 _ hxp), g.blt _ (tysE_mem hts x p hxp)⟩) (by rw [sizeLine_eq]; omega) (ha a _ rfl) fun es => star1 hs es _
          · exact de_bad
        · exact de_bad
      · exact de_bad
    · exact call a [b] rfl
  · rename_i x1 x2 x3
    cases args with
    | nil => exact absurd rfl x1
    | cons a r => exact call a r rfl
end
structure Snd (k : Nat) : Prop where
  e : ∀ (c : CC) (T : Tab) (lv : Nat) (X : Cx) (W : WD), Gd c T lv X → Takes X W → ∀ e, PE X e (lift (cn X) W (wE T (cE k c e)))
  t : ∀ (c : CC) (T : Tab) (lv : Nat) (X : Cx) (W : WD), Gd c T lv X → Takes X W → ∀ e, PT X e (lT X W (wE T (cT k c e)))
  a : ∀ (c : CC) (T : Tab) (lv : Nat) (X : Cx) (W : WD), Gd c T lv X → Takes X W → ∀ es, PA X es (liftA (cn X) W (wA T (cA k c es)))
  and : ∀ (c : CC) (T : Tab) (lv : Nat) (X : Cx) (W : WD), Gd c T lv X → Takes X W → ∀ es pos, PE X (.BoolOp .And es pos) (lift (cn X) W (wAnd T (cL k c es)))
  or : ∀ (c : CC) (T : Tab) (lv : Nat) (X : Cx) (W : WD), Gd c T lv X → Takes X W → ∀ es pos, PE X (.BoolOp .Or es pos) (lift (cn X) W (wOr T (cL k c es)))
  andT : ∀ (c : CC) (T : Tab) (lv : Nat) (X : Cx) (W : WD), Gd c T lv X → Takes X W → ∀ es pos, PW X (.BoolOp .And es pos) (lT X W (wAndT T (cLT k c es)))
  orT : ∀ (c : CC) (T : Tab) (lv : Nat) (X : Cx) (W : WD), Gd c T lv X → Takes X W → ∀ es pos, PW X (.BoolOp .Or es pos) (lT X W (wOrT T (cLT k c es)))
  o : ∀ (c : CC) (T : Tab) (lv : Nat) (X : Cx) (W : WD), Gd c T lv X → Takes X W → ∀ e, PO X e (liftO (cn X) W (IE.part T e.isSome (cO k c e)))
  h : ∀ (c : CC) (T : Tab) (lv : Nat) (X : Cx) (W : WD), Gd c T lv X → Takes X W → ∀ a r, PE X a (lift (cn X) W (wE T (cH k c (a :: r))))
  f : ∀ (c : CC) (T : Tab) (lv : Nat) (X : Cx) (W : WD), Gd c T lv X → Takes X W → ∀ ifs, ifs.length ≤ 1 → PTs X ifs (lT X W (wE T (cF k c ifs)))
  i : ∀ (c : CC) (T : Tab) (lv : Nat) (X : Cx) (W : WD), Gd c T lv X → Takes X W → ∀ tg e, PI X tg e (liftI (cn X) W (wI T (cI k c tg e)))
  d : ∀ (c : CC) (T : Tab) (lv : Nat) (X : Cx) (W : WD), Gd c T lv X → Takes X W → ∀ keys values ks, keysE keys = some ks → values.length = ks.length → Prs X W T keys values ks (cL k c values)
theorem relS_cell {scope sc : Scope} {x : Str} (h : scope.names.lookup x = some .cell) : True := trivial
theorem ptBad {X : Cx} {W : WD} {T : Tab} {e : Expr} : PT X e (lT X W (wE T .bad)) := dt_bad
theorem s_args0 {X : Cx} {W : WD} {T : Tab} {es : List Expr} : PA X es (liftA (cn X) W (wA T (.cons .bad .nil))) := ⟨fun pos pins s a H Q I ⟨b, G0, H0, G, n, r, Qd, Ex, h, t, x, k⟩ => by
  rw [wA, wE] at t
  exact t.elim⟩
theorem s_fold (iter : Expr) (h : isSet iter = false) (env : Env) : ∀ x, foldedSetIterable iter env x = pure x := fun x => noset_fold h env x
theorem s_comp {k : Nat} (ih : Snd k) (c : CC) (T : Tab) (lv : Nat) (X : Cx) (W : WD) (g : Gd c T lv X) (tk : Takes X W) {elt tg iter : Expr} {ifs : List Expr} {z : Int} {scope : Scope} {t : Tg}
    (ht : cTg ⟨c.N, relS scope c.sc, c.mu⟩ (fun x => scope.names.lookup x == some .cell) tg = some t)
    (h : (decide (z = 0) && blkC c.N c.sc scope ((tgNames tg).zip t.slots) && decide (((tgNames tg).zip t.slots).map (·.2) = t.slots) && decide t.slots.Nodup && !isSet iter && decide (ifs.length ≤ 1)) = true) :
    z = 0 ∧ t.slots.Nodup ∧ PI X tg iter (liftI (cn X) W (wI T (cI k c tg iter))) ∧ BlkOk X.N X.env.scope scope ((tgNames tg).zip t.slots) ∧ ((tgNames tg).zip t.slots).map (·.2) = t.slots ∧
    (∀ (s : Shared) (H : Hp) (C : Addr) (cl : List (Str × Addr)) (fp : List Addr), PG (X.blk s H scope (compEnvC scope cl C X.env) fp) tg (gOf X.K t)) ∧
    (∀ (s : Shared) (H : Hp) (C : Addr) (cl : List (Str × Addr)) (fp : List Addr), PTs (X.blk s H scope (compEnvC scope cl C X.env) fp) ifs (lT X WF (wE T (cF k ⟨c.N, relS scope c.sc, c.mu⟩ ifs)))) ∧
    (∀ (s : Shared) (H : Hp) (C : Addr) (cl : List (Str × Addr)) (fp : List Addr), PE (X.blk s H scope (compEnvC scope cl C X.env) fp) elt (lift (cn X) WF (wE T (cE k ⟨c.N, relS scope c.sc, c.mu⟩ elt)))) ∧ isSet iter = false := by
  simp only [Bool.and_eq_true, decide_eq_true_eq] at h
  obtain ⟨⟨⟨⟨⟨h1, h2⟩, h3⟩, h4⟩, h5⟩, h6⟩ := h
  refine ⟨h1, h4, ih.i c T lv X W g tk tg iter, ?_, h3, fun s H C cl fp => ?_, fun s H C cl fp => ?_, fun s H C cl fp => ?_, by simpa using h5⟩
  · rw [g.N, g.sc]
    exact blkOk_by h2
  · exact s_tg (g.blk s H C cl fp scope) (fn := fun x => scope.names.lookup x == some .cell) (fun x hx => hx) ht
  · exact ih.f _ T lv _ WF (g.blk s H C cl fp scope) takes0 ifs h6
  · exact ih.e _ T lv _ WF (g.blk s H C cl fp scope) takes0 elt
theorem isNil_L {k : Nat} {c : CC} {e : Expr} {r : List Expr} : (cL k c (e :: r)).isNil = false := by
  cases k <;> rfl
theorem isNil_LT {k : Nat} {c : CC} {e : Expr} {r : List Expr} : (cLT k c (e :: r)).isNil = false := by
  cases k <;> rfl
theorem snd : ∀ k, Snd k
  | 0 => ⟨fun c T lv X W g tk e => by rw [cE]; exact de_bad, fun c T lv X W g tk e => by rw [cT]; exact dt_bad, fun c T lv X W g tk es => by rw [cA]; exact s_args0,
      fun c T lv X W g tk es pos => by
        rw [cL]
        exact ⟨fun pins s a H Q I ⟨b, G0, H0, G, n, r, Qd, Ex, h, t, x, k⟩ => by
          rw [wAnd, if_pos (show IAs.nil.isNil = true from rfl), wE] at t
          exact t.elim⟩,
      fun c T lv X W g tk es pos => by
        rw [cL]
        exact ⟨fun pins s a H Q I ⟨b, G0, H0, G, n, r, Qd, Ex, h, t, x, k⟩ => by
          rw [wOr, if_pos (show IAs.nil.isNil = true from rfl), wE] at t
          exact t.elim⟩,
      fun c T lv X W g tk es pos => by
        rw [cLT]
        exact ⟨fun wh pins s a H Q I ⟨b, G0, H0, G, n, r, Qd, Ex, h, t, x, k⟩ => by
          dsimp only at t
          rw [wAndT, wE] at t
          exact t.elim⟩,
      fun c T lv X W g tk es pos => by
        rw [cLT]
        exact ⟨fun wh pins s a H Q I ⟨b, G0, H0, G, n, r, Qd, Ex, h, t, x, k⟩ => by
          dsimp only at t
          rw [wOrT, wE] at t
          exact t.elim⟩,
      fun c T lv X W g tk e => by
        cases e with
        | none => exact dpo_none
        | some e => rw [cO]; exact dpo_some de_bad,
      fun c T lv X W g tk a r => by rw [cH]; exact de_bad,
      fun c T lv X W g tk ifs hl => by
        rw [cF]
        exact ⟨fun pins s a H Q I ⟨b, G0, H0, G, n, r, Qd, Ex, h, t, x, k⟩ => by
          dsimp only at t
          rw [wE] at t
          exact t.elim⟩,
      fun c T lv X W g tk tg e => by rw [cI]; exact di_ex de_bad,
      fun c T lv X W g tk keys values ks h1 h2 => by rw [cL]; exact prs_bad h1 h2⟩
  | k + 1 => by
    have ih := snd k
    refine ⟨fun c T lv X W g tk e => ?_, fun c T lv X W g tk e => ?_, fun c T lv X W g tk es => ?_, fun c T lv X W g tk es pos => ?_, fun c T lv X W g tk es pos => ?_, fun c T lv X W g tk es pos => ?_, fun c T lv X W g tk es pos => ?_, fun c T lv X W g tk e => ?_, fun c T lv X W g tk a r => ?_, fun c T lv X W g tk ifs hl => ?_, fun c T lv X W g tk tg e => ?_, fun c T lv X W g tk keys values ks h1 h2 => ?_⟩
    · have hE := ih.e c T lv X W g tk
      rw [cE.eq_def]
      dsimp only
      split
      · exact s_name g _ _
      · exact s_const _ _ _
      · split
        · exact de_bin (s_op (by assumption)) (hE _) (hE _)
        · exact de_bad
      · exact de_neg (hE _)
      · exact de_not (hE _)
      · exact s_cmp1 g (hE _) (hE _)
      · split
        · exact de_bad
        · rename_i hs
          rw [Bool.or_eq_true, not_or] at hs
          refine de_chain (s_cop g _) (s_cop g _) (hE _) (hE _) (hE _) ?_
          exact noset_marks (by simpa using hs.2)
      · exact ⟨fun pins s a H Q I h => (ih.and c T lv X W g tk _ _).run pins s a H Q I (by
          obtain ⟨b, G0, H0, G, n, r, Qd, Ex, h, t, x, k⟩ := h
          rw [wE] at t
          exact ⟨b, G0, H0, G, n, r, Qd, Ex, h, t, x, k⟩)⟩
      · exact ⟨fun pins s a H Q I h => (ih.or c T lv X W g tk _ _).run pins s a H Q I (by
          obtain ⟨b, G0, H0, G, n, r, Qd, Ex, h, t, x, k⟩ := h
          rw [wE] at t
          exact ⟨b, G0, H0, G, n, r, Qd, Ex, h, t, x, k⟩)⟩
      · exact de_ite (ih.t c T lv X W g tk _) (hE _) (hE _)
      · exact de_lst (ih.a c T lv X W g tk _)
      · exact de_tup (ih.a c T lv X W g tk _)
      · exact de_dis0
      · split
        · rename_i ks hks
          split
          · rename_i h
            simp only [Bool.and_eq_true, decide_eq_true_eq] at h
            obtain ⟨⟨h1, h2⟩, h3⟩ := h
            exact de_dis hks h1 h2 (fun e => by rw [e] at h3; cases h3) (ih.d c T lv X W g tk _ _ _ hks h1)
          · exact de_bad
        · exact de_bad
      · exact de_rev (hE _)
      · exact de_slc (hE _) (ih.o c T lv X W g tk _) (ih.o c T lv X W g tk _)
      · split
        · exact de_ix (hE _) (hE _) (plain_ix (by assumption))
        · exact de_bad
      · split
        · rename_i h
          simp only [Bool.and_eq_true, decide_eq_true_eq] at h
          obtain ⟨⟨⟨⟨h1, h2⟩, h3⟩, h4⟩, h5⟩ := h
          subst h1 h2
          exact de_lenset g.calm (g.gl h3) (g.blt _ (by decide +kernel)) (g.gl h4) (g.blt _ (by decide +kernel)) (hE _) (star1 (by simpa using h5) [] _)
        · exact s_call g tk (fun a r e => by cases e; exact ih.h c T lv X W g tk _ _) (ih.a c T lv X W g tk _)
      · exact s_call g tk (fun a r e => by subst e; exact ih.h c T lv X W g tk a r) (ih.a c T lv X W g tk _)
      · split
        · rename_i h
          simp only [Bool.and_eq_true, decide_eq_true_eq] at h
          obtain ⟨⟨⟨⟨h1, h2⟩, h3⟩, h4⟩, h5⟩ := h
          subst h1
          exact de_join (by rw [sizeLine_eq]; exact h2) h3 (hE _) (star1 (by simpa using h4) [] _) h5
        · exact de_bad
      · split
        · rename_i h
          simp only [Bool.and_eq_true, decide_eq_true_eq] at h
          obtain ⟨⟨⟨⟨⟨h1, h2⟩, h3⟩, h4⟩, h5⟩, h6⟩ := h
          subst h1
          obtain ⟨n1, n2, n3⟩ := nm_of h3
          have e1 := star1 (show isStar _ = false by simpa using h4)
          have e2 := star1 (show isStar _ = false by simpa using h5) [] X.env
          refine de_gget (g.gd _) (g.gl h2) n1 (hE _) (hE _) ⟨rfl, ?_, h6, ?_⟩
          · rw [e1, e2]
            rfl
          · rw [e1, e2]
            rfl
        · split
          · rename_i h
            simp only [Bool.and_eq_true, decide_eq_true_eq] at h
            obtain ⟨⟨⟨⟨h2, h3⟩, h4⟩, h5⟩, h6⟩ := h
            obtain ⟨n1, n2, n3⟩ := nm_of h3
            have e1 := star1 (show isStar _ = false by simpa using h4)
            have e2 := star1 (show isStar _ = false by simpa using h5) [] X.env
            refine de_stat (g.sm _ _) g.room (g.gl h2) n1 (ih.a c T lv X W g tk _) (e1 _ _) ?_ ?_ h6
            · rw [e2]
              rfl
            · rw [e1, e2]
              rfl
          · exact de_bad
      · split
        · rename_i h
          simp only [Bool.and_eq_true, decide_eq_true_eq] at h
          obtain ⟨⟨h2, h3⟩, h6⟩ := h
          obtain ⟨n1, n2, n3⟩ := nm_of h3
          exact de_statk (g.sm _ _) g.room (g.gl h2) n1 (dk_cons (hE _) (dk_cons (hE _) dk_nil)) h6
        · exact de_bad
      · split
        · rename_i t ht
          split
          · rename_i hh
            obtain ⟨rfl, a2, a3, a4, a5, a6, a7, a8, a9⟩ := s_comp ih c T lv X W g tk ht hh
            exact de_of_F (df_comp g.calm (by rw [g.N]; exact g.nd) a2 a3 a4 a5 a6 a7 a8 (s_fold _ a9 _))
          · exact de_bad
        · exact de_bad
      · exact de_bad
    · have hE := ih.e c T lv X W g tk
      rw [cT.eq_def]
      dsimp only
      split
      · exact dt_not (ih.t c T lv X W g tk _)
      · exact (pw_imp (ih.andT c T lv X W g tk _ _) fun s H Q ⟨b, G0, H0, G, n, r, Qd, Ex, h, t, x, k⟩ => by
          dsimp only at t
          rw [wE] at t
          exact ⟨b, G0, H0, G, n, r, Qd, Ex, h, t, x, k⟩).pt
      · exact (pw_imp (ih.orT c T lv X W g tk _ _) fun s H Q ⟨b, G0, H0, G, n, r, Qd, Ex, h, t, x, k⟩ => by
          dsimp only at t
          rw [wE] at t
          exact ⟨b, G0, H0, G, n, r, Qd, Ex, h, t, x, k⟩).pt
      · exact st_cmp1 g (hE _) (hE _)
      · split
        · exact dt_bad
        · rename_i hs
          rw [Bool.or_eq_true, not_or] at hs
          refine dt_chain (s_cop g _) (s_cop g _) (hE _) (hE _) (hE _) ?_
          exact noset_marks (by simpa using hs.2)
      · exact dt_bad
      · exact dt_bad
      · exact dt_val (hE _) fun _ => rfl
      · exact dt_val (hE _) fun _ => rfl
      · exact dt_val (hE _) fun _ => rfl
      · exact dt_val (hE _) fun _ => rfl
      · exact dt_bad
    · cases es with
      | nil => exact da_nil
      | cons e r =>
        cases e with
        | Starred e p => exact da_star (ih.e c T lv X W g tk _) (ih.a c T lv X W g tk _)
        | _ => exact da_cons (ih.e c T lv X W g tk _) (ih.a c T lv X W g tk _) (star1 rfl _ _)
    · cases es with
      | nil =>
        rw [cL]
        exact ⟨fun pins s a H Q I ⟨b, G0, H0, G, n, r, Qd, Ex, h, t, x, k⟩ => by
          rw [wAnd] at t
          exact t.elim⟩
      | cons e r =>
        rw [cL]
        cases r with
        | nil =>
          cases k with
          | zero => exact ⟨fun pins s a H Q I ⟨b, G0, H0, G, n, r, Qd, Ex, h, t, x, k⟩ => by
              rw [wAnd, if_neg (by show ¬ (false = true); decide), cE, wE] at t
              exact t.elim⟩
          | succ k =>
            rw [cL]
            exact de_and1 (ih.e c T lv X W g tk _)
        | cons e2 r => exact de_andC isNil_L (ih.e c T lv X W g tk _) (ih.and c T lv X W g tk _ _)
    · cases es with
      | nil =>
        rw [cL]
        exact ⟨fun pins s a H Q I ⟨b, G0, H0, G, n, r, Qd, Ex, h, t, x, k⟩ => by
          rw [wOr] at t
          exact t.elim⟩
      | cons e r =>
        rw [cL]
        cases r with
        | nil =>
          cases k with
          | zero => exact ⟨fun pins s a H Q I ⟨b, G0, H0, G, n, r, Qd, Ex, h, t, x, k⟩ => by
              rw [wOr, if_neg (by show ¬ (false = true); decide), cE, wE] at t
              exact t.elim⟩
          | succ k =>
            rw [cL]
            exact de_or1 (ih.e c T lv X W g tk _)
        | cons e2 r => exact de_orC isNil_L (ih.e c T lv X W g tk _) (ih.or c T lv X W g tk _ _)
    · cases es with
      | nil =>
        rw [cLT]
        exact ⟨fun wh pins s a H Q I ⟨b, G0, H0, G, n, r, Qd, Ex, h, t, x, k⟩ => by
          dsimp only at t
          rw [wAndT] at t
          exact t.elim⟩
      | cons e r =>
        rw [cLT]
        cases r with
        | nil =>
          cases k with
          | zero => exact ⟨fun wh pins s a H Q I ⟨b, G0, H0, G, n, r, Qd, Ex, h, t, x, k⟩ => by
              dsimp only at t
              rw [wAndT, cT, wE] at t
              exact t.elim⟩
          | succ k =>
            rw [cLT]
            exact dw_and1 (ih.t c T lv X W g tk _)
        | cons e2 r => exact dw_andC isNil_LT (ih.t c T lv X W g tk _) (ih.andT c T lv X W g tk _ _)
    · cases es with
      | nil =>
        rw [cLT]
        exact ⟨fun wh pins s a H Q I ⟨b, G0, H0, G, n, r, Qd, Ex, h, t, x, k⟩ => by
          dsimp only at t
          rw [wOrT] at t
          exact t.elim⟩
      | cons e r =>
        rw [cLT]
        cases r with
        | nil =>
          cases k with
          | zero => exact ⟨fun wh pins s a H Q I ⟨b, G0, H0, G, n, r, Qd, Ex, h, t, x, k⟩ => by
              dsimp only at t
              rw [wOrT, cT, wE] at t
              exact t.elim⟩
          | succ k =>
            rw [cLT]
            exact dw_or1 (ih.t c T lv X W g tk _)
        | cons e2 r => exact dw_orC isNil_LT (ih.t c T lv X W g tk _) (ih.orT c T lv X W g tk _ _)
    · cases e with
      | none => exact dpo_none
      | some e =>
        rw [cO]
        exact dpo_some (ih.e c T lv X W g tk e)
    · rw [cH]
      exact ih.e c T lv X W g tk a
    · cases ifs with
      | nil =>
        rw [cF]
        exact dts_nil
      | cons e r =>
        cases r with
        | nil =>
          rw [cF]
          have q := pts_one (ih.t c T lv X W g tk e)
          exact q
        | cons _ _ => simp at hl
    · have hE := ih.e c T lv X W g tk
      rw [cI.eq_def]
      dsimp only
      split
      · split
        · rename_i h
          simp only [Bool.and_eq_true, decide_eq_true_eq] at h
          obtain ⟨⟨h1, h2⟩, h3⟩ := h
          subst h1
          exact di_rng1 (g.gl h2) (g.blt _ (by decide +kernel)) (hE _) (star1 (by simpa using h3) [] _)
        · split
          · rename_i h
            simp only [Bool.and_eq_true, decide_eq_true_eq] at h
            obtain ⟨⟨⟨h1, h2⟩, h3⟩, h4⟩ := h
            subst h1
            cases tg <;> first | (cases h4; done) | skip
            exact di_enum (g.gl h2) (g.blt _ (by decide +kernel)) (hE _) (star1 (by simpa using h3) [] _)
          · exact di_ex (hE _)
      · split
        · rename_i h
          simp only [Bool.and_eq_true, decide_eq_true_eq] at h
          obtain ⟨⟨⟨h1, h2⟩, h3⟩, h4⟩ := h
          subst h1
          have e1 := star1 (show isStar _ = false by simpa using h3)
          have e2 := star1 (show isStar _ = false by simpa using h4) [] X.env
          exact di_rng2 (g.gl h2) (g.blt _ (by decide +kernel)) (hE _) (hE _) (by rw [e1, e2]; rfl) e2
        · split
          · rename_i h
            simp only [Bool.and_eq_true, decide_eq_true_eq] at h
            obtain ⟨⟨⟨⟨h1, h2⟩, h3⟩, h4⟩, h5⟩ := h
            subst h1
            have e1 := star1 (show isStar _ = false by simpa using h3)
            have e2 := star1 (show isStar _ = false by simpa using h4) [] X.env
            cases tg <;> first | (cases h5; done) | skip
            exact di_zip (g.gl h2) (g.blt _ (by decide +kernel)) (hE _) (hE _) (e1 _ _) e2
          · exact di_ex (hE _)
      · exact di_ex (hE _)
    · cases values with
      | nil =>
        cases keys with
        | nil =>
          rw [cL]
          exact prs_nil h1
        | cons o r =>
          cases o with
          | none => cases h1
          | some e =>
            rw [keysE] at h1
            split at h1
            · cases h1
              cases h2
            · cases h1
      | cons v vs =>
        cases keys with
        | nil => cases h1; cases h2
        | cons o r =>
          cases o with
          | none => cases h1
          | some e =>
            rw [keysE] at h1
            split at h1
            · rename_i k0 ks' q1 q2
              cases h1
              rw [cL]
              exact prs_cons q1 (ih.e c T lv X W g tk _) (ih.d c T lv X W g tk _ _ _ q2 (by simpa using h2))
            · cases h1
end Dl

set_option Elab.async false
set_option linter.all false
set_option maxRecDepth 100000
set_option maxHeartbeats 4000000
namespace Dl
open PySem PySem.Spec PyProof.Rows L2
theorem swB_eq (elt : Expr) (gs : List Comprehension) (scope : Scope) (pos : Pos) (x : Str) (p : Pos) (l : Nat) (env : Env) : swapsWith (.ListComp elt gs scope pos) (some (.Name x p)) l env = pure (env.blockKind == .function && env.kindOf x == some .local && p.line == pos.line && !(scope.names.any fun (n, k) => n == x && (k == .local || k == .cell))) := rfl
def noStars (vs : List Expr) : Bool := !vs.any isStar
theorem star_any {vs : List Expr} (h : vs.any isStar = false) {g : Expr → Bool} (hg : ∀ e, g e = isStar e) : vs.any g = false := by
  have e : g = isStar := funext hg
  rw [e]
  exact h
/-- two or three names of the def's own, stored from the right -/
def sw2 (sc : Scope) (x : Str) (px : Pos) (y : Str) (py : Pos) : Bool := lclB sc x && lclB sc y && (py.line == px.line) && decide (x ≠ y)
def sw3 (sc : Scope) (x : Str) (px : Pos) (y : Str) (py : Pos) (z : Str) (pz : Pos) : Bool := lclB sc x && lclB sc y && lclB sc z && (py.line == px.line) && (pz.line == px.line) && decide (x ≠ y) && decide (x ≠ z) && decide (y ≠ z)
theorem kind_lcl {env : Env} {x : Str} : (env.kindOf x == some .local) = lclB env.scope x := by
  unfold lclB Env.kindOf
  cases h : env.scope.names.lookup x with
  | none => rfl
  | some k => cases k <;> rfl
theorem names2 {env : Env} {x y : Str} {px py : Pos} {g : Expr → Option Str} (hg : ∀ id pos, g (.Name id pos) = if (env.kindOf id == some .local && pos.line == px.line) = true then some id else none) (h : sw2 env.scope x px y py = true) : ([Expr.Name x px, .Name y py].filterMap g) = [x, y] := by
  unfold sw2 at h
  simp only [Bool.and_eq_true, decide_eq_true_eq, ← kind_lcl] at h
  obtain ⟨⟨⟨h1, h2⟩, h3⟩, h4⟩ := h
  simp [List.filterMap, hg, h1, h2, h3]
theorem dups2 {x y : Str} (h : x ≠ y) : [x, y].eraseDups.length = 2 := by
  rw [List.eraseDups_cons]
  have : (y == x) = false := by simpa using fun e => h e.symm
  simp [List.filter, this, List.eraseDups_cons]
theorem sw2_some {env : Env} {x y : Str} {px py pt p2 : Pos} {kt k2 : Nat} {a c : Expr} (hk : env.blockKind = .function) (hs : ([a, c].any isStar) = false) (h : sw2 env.scope x px y py = true) (h1 : [a, c].all (foldedForSure 8) = false) (h2 : [a, c].all (constantsAlone 8) = false) :
    swappedStores [.Tuple [.Name x px, .Name y py] kt pt] (.Tuple [a, c] k2 p2) env = pure (some [x, y]) := by
  have hx : x ≠ y := by
    unfold sw2 at h
    simp only [Bool.and_eq_true, decide_eq_true_eq] at h
    exact h.2
  unfold swappedStores
  dsimp only
  rw [star_any hs (fun e => by cases e <;> rfl), names2 (env := env) (px := px) (fun id pos => rfl) h, dups2 hx, hk, h1, h2]
  rfl
theorem sw2_fold {env : Env} {x y : Str} {px py pt p2 : Pos} {kt k2 : Nat} {a c : Expr} (hk : env.blockKind = .function) (hs : ([a, c].any isStar) = false) (h : sw2 env.scope x px y py = true) (h1 : [a, c].all (foldedForSure 8) = true) :
    swappedStores [.Tuple [.Name x px, .Name y py] kt pt] (.Tuple [a, c] k2 p2) env = pure none := by
  have hx : x ≠ y := by
    unfold sw2 at h
    simp only [Bool.and_eq_true, decide_eq_true_eq] at h
    exact h.2
  unfold swappedStores
  dsimp only
  rw [star_any hs (fun e => by cases e <;> rfl), names2 (env := env) (px := px) (fun id pos => rfl) h, dups2 hx, hk, h1]
  rfl
theorem dups2' {x : Str} : [x, x].eraseDups.length = 1 := by
  rw [List.eraseDups_cons]
  simp
theorem sw2_no {env : Env} {x y : Str} {px py pt p2 : Pos} {kt k2 : Nat} {a c : Expr} (hk : env.blockKind = .function) (hs : ([a, c].any isStar) = false) (h : sw2 env.scope x px y py = false) :
    swappedStores [.Tuple [.Name x px, .Name y py] kt pt] (.Tuple [a, c] k2 p2) env = pure none := by
  unfold sw2 at h
  rw [← kind_lcl, ← kind_lcl] at h
  unfold swappedStores
  dsimp only
  rw [star_any hs (fun e => by cases e <;> rfl), hk]
  cases c1 : (env.kindOf x == some .local) with
  | false => simp [c1, List.filterMap, Expr.pos]; try (split <;> simp)
  | true =>
    cases c2 : (env.kindOf y == some .local) with
    | false => simp [c1, c2, List.filterMap, Expr.pos]
    | true =>
      cases c3 : (py.line == px.line) with
      | false => simp [c1, c2, c3, List.filterMap, Expr.pos]
      | true =>
        rw [c1, c2, c3] at h
        have hx : x = y := by simpa using h
        subst hx
        simp [c1, c3, List.filterMap, Expr.pos, dups2']
theorem names3 {env : Env} {x y z : Str} {px py pz : Pos} {g : Expr → Option Str} (hg : ∀ id pos, g (.Name id pos) = if (env.kindOf id == some .local && pos.line == px.line) = true then some id else none) (h : sw3 env.scope x px y py z pz = true) : ([Expr.Name x px, .Name y py, .Name z pz].filterMap g) = [x, y, z] := by
  unfold sw3 at h
  simp only [Bool.and_eq_true, decide_eq_true_eq, ← kind_lcl] at h
  obtain ⟨⟨⟨⟨⟨⟨⟨h1, h2⟩, h3⟩, h4⟩, h5⟩, h6⟩, h7⟩, h8⟩ := h
  simp [List.filterMap, hg, h1, h2, h3, h4, h5]
theorem dups3 {x y z : Str} (h : x ≠ y) (h' : x ≠ z) (h'' : y ≠ z) : [x, y, z].eraseDups.length = 3 := by
  rw [List.eraseDups_cons]
  have e1 : (y == x) = false := by simpa using fun e => h e.symm
  have e2 : (z == x) = false := by simpa using fun e => h' e.symm
  have e3 : (z == y) = false := by simpa using fun e => h'' e.symm
  simp [List.filter, e1, e2, e3, List.eraseDups_cons]
theorem ne3 {sc : Scope} {x y z : Str} {px py pz : Pos} (h : sw3 sc x px y py z pz = true) : x ≠ y ∧ x ≠ z ∧ y ≠ z := by
  unfold sw3 at h
  simp only [Bool.and_eq_true, decide_eq_true_eq] at h
  exact ⟨h.1.1.2, h.1.2, h.2⟩
theorem sw3_some {env : Env} {x y z : Str} {px py pz pt p2 : Pos} {kt k2 : Nat} {a c e : Expr} (hk : env.blockKind = .function) (hs : ([a, c, e].any isStar) = false) (h : sw3 env.scope x px y py z pz = true) (h1 : [a, c, e].all (foldedForSure 8) = false) (h2 : [a, c, e].all (constantsAlone 8) = false) :
    swappedStores [.Tuple [.Name x px, .Name y py, .Name z pz] kt pt] (.Tuple [a, c, e] k2 p2) env = pure (some [x, y, z]) := by
  obtain ⟨n1, n2, n3⟩ := ne3 h
  unfold swappedStores
  dsimp only
  rw [star_any hs (fun e => by cases e <;> rfl), names3 (env := env) (px := px) (fun id pos => rfl) h, dups3 n1 n2 n3, hk, h1, h2]
  rfl
theorem sw3_fold {env : Env} {x y z : Str} {px py pz pt p2 : Pos} {kt k2 : Nat} {a c e : Expr} (hk : env.blockKind = .function) (hs : ([a, c, e].any isStar) = false) (h : sw3 env.scope x px y py z pz = true) (h1 : [a, c, e].all (foldedForSure 8) = true) :
    swappedStores [.Tuple [.Name x px, .Name y py, .Name z pz] kt pt] (.Tuple [a, c, e] k2 p2) env = pure none := by
  obtain ⟨n1, n2, n3⟩ := ne3 h
  unfold swappedStores
  dsimp only
  rw [star_any hs (fun e => by cases e <;> rfl), names3 (env := env) (px := px) (fun id pos => rfl) h, dups3 n1 n2 n3, hk, h1]
  rfl
theorem dups_lt {l : List Str} (h : ¬ l.Nodup) : l.eraseDups.length ≠ l.length := fun e => h (by
  have key : ∀ (n : Nat) (l : List Str), l.length ≤ n → (l.eraseDups.length ≤ l.length ∧ (l.eraseDups.length = l.length → l.Nodup)) := by
    intro n
    induction n with
    | zero =>
      intro l hl
      have : l = [] := List.length_eq_zero_iff.mp (by omega)
      subst this
      exact ⟨Nat.le_refl _, fun _ => List.nodup_nil⟩
    | succ n ih =>
      intro l hl
      cases l with
      | nil => exact ⟨Nat.le_refl _, fun _ => List.nodup_nil⟩
      | cons x xs =>
        rw [List.eraseDups_cons, List.length_cons, List.length_cons]
        have hf : (xs.filter fun b => !b == x).length ≤ xs.length := List.length_filter_le _ _
        rw [List.length_cons] at hl
        obtain ⟨i1, i2⟩ := ih (xs.filter fun b => !b == x) (by omega)
        refine ⟨by omega, fun e => ?_⟩
        have e2 : (xs.filter fun b => !b == x).length = xs.length := by omega
        have e3 : xs.filter (fun b => !b == x) = xs := List.filter_eq_self.mpr (List.length_filter_eq_length_iff.mp e2)
        rw [e3] at i2 e
        refine List.nodup_cons.mpr ⟨fun m => ?_, i2 (by omega)⟩
        have := List.length_filter_eq_length_iff.mp e2 x m
        simp at this
  exact (key l.length l (Nat.le_refl _)).2 e)
theorem sw3_no {env : Env} {x y z : Str} {px py pz pt p2 : Pos} {kt k2 : Nat} {a c e : Expr} (hk : env.blockKind = .function) (hs : ([a, c, e].any isStar) = false) (h : sw3 env.scope x px y py z pz = false) :
    swappedStores [.Tuple [.Name x px, .Name y py, .Name z pz] kt pt] (.Tuple [a, c, e] k2 p2) env = pure none := by
  unfold sw3 at h
  rw [← kind_lcl, ← kind_lcl, ← kind_lcl] at h
  unfold swappedStores
  dsimp only
  rw [star_any hs (fun e => by cases e <;> rfl), hk]
  cases c1 : (env.kindOf x == some .local) with
  | false =>
    simp only [List.filterMap, Expr.pos, List.head?_cons, Option.map_some, Option.getD_some, c1, Bool.false_and]
    repeat' split
    all_goals first | rfl | simp_all
  | true =>
    cases c2 : (env.kindOf y == some .local) with
    | false =>
      simp only [List.filterMap, Expr.pos, List.head?_cons, Option.map_some, Option.getD_some, c1, c2, Bool.false_and]
      repeat' split
      all_goals first | rfl | simp_all
    | true =>
      cases c3 : (env.kindOf z == some .local) with
      | false =>
        simp only [List.filterMap, Expr.pos, List.head?_cons, Option.map_some, Option.getD_some, c1, c2, c3, Bool.false_and]
        repeat' split
        all_goals first | rfl | simp_all
      | true =>
        cases c4 : (py.line == px.line) with
        | false =>
          simp only [List.filterMap, Expr.pos, List.head?_cons, Option.map_some, Option.getD_some, c1, c2, c3, c4, Bool.true_and]
          repeat' split
          all_goals first | rfl | simp_all
        | true =>
          cases c5 : (pz.line == px.line) with
          | false =>
            simp only [List.filterMap, Expr.pos, List.head?_cons, Option.map_some, Option.getD_some, c1, c2, c3, c4, c5, Bool.true_and]
            repeat' split
            all_goals first | rfl | simp_all
          | true =>
            have nd : ¬ [x, y, z].Nodup := fun nd => by
              rw [c1, c2, c3, c4, c5] at h
              simp only [List.nodup_cons, List.mem_cons, not_or, List.not_mem_nil] at nd
              simp_all
            have nl := dups_lt nd
            simp only [List.filterMap, Expr.pos, List.head?_cons, Option.map_some, Option.getD_some, c1, c2, c3, c4, c5, Bool.true_and, beq_self_eq_true, if_true]
            have e2 : ([x, y, z].eraseDups.length != [x, y, z].length) = true := by simpa using nl
            rw [e2]
            rfl
end Dl

set_option Elab.async false
set_option linter.all false
set_option maxRecDepth 100000
set_option maxHeartbeats 4000000
/-! From the program's text into the small language: statements. -/
namespace Dl
open PySem PySem.Spec PyProof.Rows L2
mutual
/-- the slots that are read as values -/
def IE.reads : IE → List Nat
  | .bad => []
  | .v i => [i]
  | .k _ => []
  | .g _ => []
  | .bin _ a c => a.reads ++ c.reads
  | .neg a => a.reads
  | .cmp _ a c => a.reads ++ c.reads
  | .chain _ _ a c e => a.reads ++ (c.reads ++ e.reads)
  | .and a => a.reads
  | .or a => a.reads
  | .not a => a.reads
  | .tand a => a.reads
  | .tor a => a.reads
  | .tnot a => a.reads
  | .ite c a e => c.reads ++ (a.reads ++ e.reads)
  | .lst a => a.reads
  | .tup a => a.reads
  | .ix a i => a.reads ++ i.reads
  | .slc a _ _ l h => a.reads ++ (l.reads ++ h.reads)
  | .rev a => a.reads
  | .call _ a => a.reads
  | .stat _ _ a => a.reads
  | .statk _ _ _ a => a.reads
  | .bi _ a => a.reads
  | .lenset a => a.reads
  | .isi a _ => a.reads
  | .comp s _ c e => s.reads ++ (c.reads ++ e.reads)
  | .join _ a => a.reads
  | .gget _ a e => a.reads ++ e.reads
  | .dis _ a => a.reads
  | .inO _ a _ => a.reads
  | .lenO _ => []
  | .cat a c => a.reads ++ c.reads
def IAs.reads : IAs → List Nat
  | .nil => []
  | .cons e r => e.reads ++ r.reads
  | .star e r => e.reads ++ r.reads
def ISr.reads : ISr → List Nat
  | .ex e => e.reads
  | .rng1 a => a.reads
  | .rng2 a c => a.reads ++ c.reads
  | .enum a => a.reads
  | .zip a c => a.reads ++ c.reads
end
def IS.rd : IS → List Nat
  | .ret e => e.reads
  | .ex e => e.reads
  | .set _ e => e.reads
  | .setF _ e => e.reads
  | .unp _ e => e.reads
  | .par _ a => a.reads
  | .ife c _ _ => c.reads
  | .forr s _ _ => s.reads
  | .whl c _ => c.reads
  | .app _ e => e.reads
  | _ => []
def muS (c : CC) (i : Nat) : Bool := match c.N[i]? with
  | some x => decide (x ∈ c.mu)
  | none => false
def pre (c : CC) (s : IS) (rest : ISs) : ISs := match s.rd.filter (muS c) with
  | [] => .cons s rest
  | l => .cons (.frz l) (.cons s rest)
/-- a new list? (for a name that is changed later) -/
def cFresh (k : Nat) (c : CC) : Expr → Option IE
  | .List es _ => some (.lst (cA k c es))
  | .BinOp a .Add b _ => some (.cat (cE k c a) (cE k c b))
  | .Call (.Name f _) [a] [] _ => if decide (f = "list") && glB c.sc f && !isStar a then some (.bi .list (cE k c a)) else none
  | _ => none
def isLc : Expr → Bool
  | .ListComp .. => true
  | _ => false
def cSet (k : Nat) (c : CC) (x : Str) (e : Expr) : IS :=
  if !locB c.sc x then .bad else match ixOf c.N x with
  | none => .bad
  | some i => if isLc e then (if decide (x ∈ c.mu) then .setF i (cE k c e) else .set i (cE k c e)) else if isComp e then .bad else
    if decide (x ∈ c.mu) then (match cFresh k c e with
      | some ie => .setF i ie
      | none => .set i (cE k c e)) else .set i (cE k c e)
/-- a, b = x, y -/
def cPar (k : Nat) (c : CC) (ts : List Expr) (vs : List Expr) : IS := match cNames c (fun _ => true) ts with
  | none => .bad
  | some l => if vs.any isStar || decide (100 < l.length) then .bad else match ts, vs with
    | [.Name x px, .Name y py], [a, b] => if sw2 c.sc x px y py && !([a, b].all (foldedForSure 8)) && [a, b].all (constantsAlone 8) then .bad else .par l (cA k c vs)
    | [.Name x px, .Name y py, .Name z pz], [a, b, d] => if sw3 c.sc x px y py z pz && !([a, b, d].all (foldedForSure 8)) && [a, b, d].all (constantsAlone 8) then .bad else .par l (cA k c vs)
    | _, _ => if ts.length == vs.length && !(ts.length == 2 || ts.length == 3) then .par l (cA k c vs) else .bad
mutual
def cS : Nat → CC → Stmt → IS
  | 0, _, _ => .bad
  | k + 1, c, st => match st with
    | .Return (some e) _ => .ret (cE k c e)
    | .Return none _ => .retN
    | .Pass _ => .pass
    | .Break _ => .brk
    | .Continue _ => .cont
    | .Expr (.Call (.Attribute (.Name x p) m ap) [e] [] cp) _ => (match cOwn c (.Name x p) with
      | some i => if decide (m = "append") && !isStar e && (ap.endLine == cp.line) then .app i (cE k c e) else .bad
      | none => .ex (cE k c (.Call (.Attribute (.Name x p) m ap) [e] [] cp)))
    | .Expr e _ => if isComp e then .bad else .ex (cE k c e)
    | .Assign [.Name x _] e _ => cSet k c x e
    | .Assign [.Tuple ts _ _] (.Tuple vs _ _) _ => cPar k c ts vs
    | .Assign [.Tuple ts _ _] e _ => if isComp e then .bad else (match cNames c (fun _ => true) ts with
      | some l => .unp l (cE k c e)
      | none => .bad)
    | .If t a b _ => .ife (cT k c t) (cSs k c a) (cSs k c b)
    | .For tg iter body [] _ => if isSet iter then .bad else (match cTg c (fun _ => true) tg with
      | some t => .forr (cI k c tg iter) t (cSs k c body)
      | none => .bad)
    | .While t body [] _ => .whl (cT k c t) (cSs k c body)
    | _ => .bad
def cSs : Nat → CC → List Stmt → ISs
  | 0, _, _ => .cons .bad .nil
  | _ + 1, _, [] => .nil
  | k + 1, c, s :: r => pre c (cS k c s) (cSs k c r)
end
structure GdS (c : CC) (T : Tab) (k : Nat) (X : Cx) : Prop extends Gd c T k X where
  hp : PassesOwn (model X.prog X.w) X.A X.env X.xe
  fn : ∀ x, X.fn x = true
  kind : X.env.scope.kind = .function
section
variable {c : CC} {T : Tab} {k lv : Nat} {X : Cx} {W : WD}
theorem s_fresh (g : Gd c T lv X) (tk : Takes X W) {e : Expr} {ie : IE} (h : cFresh k c e = some ie) : PE X e (liftF (cn X) W (wE T ie)) := by
  unfold cFresh at h
  split at h
  · cases h
    exact df_lst ((snd k).a c T lv X W g tk _)
  · cases h
    exact df_cat ((snd k).e c T lv X W g tk _) ((snd k).e c T lv X W g tk _)
  · split at h
    · rename_i hc
      cases h
      simp only [Bool.and_eq_true, decide_eq_true_eq] at hc
      obtain ⟨⟨h1, h2⟩, h3⟩ := hc
      subst h1
      exact df_list (g.gl h2) (g.blt _ (by decide +kernel)) ((snd k).e c T lv X W g tk _) (star1 (by simpa using h3) [] _)
    · cases h
  · cases h
theorem bk_fn {env : Env} (h : env.scope.kind = .function) : env.blockKind = .function := by
  unfold Env.blockKind
  rw [h]
  rfl
theorem cE_lc {elt tg iter : Expr} {ifs : List Expr} {z : Int} {scope : Scope} {pos : Pos} : cE (k + 1) c (.ListComp elt [⟨tg, iter, ifs, z⟩] scope pos) = .bad ∨ ∃ t, cTg ⟨c.N, relS scope c.sc, c.mu⟩ (fun x => scope.names.lookup x == some .cell) tg = some t ∧
    (decide (z = 0) && blkC c.N c.sc scope ((tgNames tg).zip t.slots) && decide (((tgNames tg).zip t.slots).map (·.2) = t.slots) && decide t.slots.Nodup && !isSet iter && decide (ifs.length ≤ 1)) = true ∧
    cE (k + 1) c (.ListComp elt [⟨tg, iter, ifs, z⟩] scope pos) = .comp (cI k c tg iter) t (cF k ⟨c.N, relS scope c.sc, c.mu⟩ ifs) (cE k ⟨c.N, relS scope c.sc, c.mu⟩ elt) := by
  rw [cE]
  split
  · rename_i t ht
    split
    · rename_i hh
      exact .inr ⟨t, ht, hh, rfl⟩
    · exact .inl rfl
  · exact .inl rfl
theorem ds_setbad {st : Stmt} {i : Nat} {fr : Bool} : PS X st (liftS (cn X) W (wS T (if fr then .setF i .bad else .set i .bad))) := ⟨fun pins s a H D I ⟨b, G0, H0, G, n, r, E, h, t, k⟩ => by
  cases fr with
  | true =>
    rw [if_pos rfl, wS, wE] at t
    exact t.elim
  | false =>
    rw [if_neg (by decide), wS, wE] at t
    exact t.elim⟩
theorem s_setLc (g : GdS c T lv X) (tk : Takes X W) {x : Str} {p cpos pos : Pos} {i : Nat} (hloc : Loc X.env.scope x) (hat : X.N[i]? = some x) (fr : Bool) {elt tg iter : Expr} {ifs : List Expr} {z : Int} {scope : Scope} {t : Tg}
    (ht : cTg ⟨c.N, relS scope c.sc, c.mu⟩ (fun x => scope.names.lookup x == some .cell) tg = some t)
    (hh : (decide (z = 0) && blkC c.N c.sc scope ((tgNames tg).zip t.slots) && decide (((tgNames tg).zip t.slots).map (·.2) = t.slots) && decide t.slots.Nodup && !isSet iter && decide (ifs.length ≤ 1)) = true) :
    PS X (.Assign [.Name x p] (.ListComp elt [⟨tg, iter, ifs, z⟩] scope cpos) pos) (liftS (cn X) W (wS T (if fr then .setF i (.comp (cI k c tg iter) t (cF k ⟨c.N, relS scope c.sc, c.mu⟩ ifs) (cE k ⟨c.N, relS scope c.sc, c.mu⟩ elt)) else .set i (.comp (cI k c tg iter) t (cF k ⟨c.N, relS scope c.sc, c.mu⟩ ifs) (cE k ⟨c.N, relS scope c.sc, c.mu⟩ elt))))) := by
  have hN : X.N.Nodup := by rw [g.N]; exact g.nd
  obtain ⟨rfl, a2, a3, a4, a5, a6, a7, a8, a9⟩ := s_comp (elt := elt) (snd k) c T lv X W g.toGd tk ht hh
  have hsw := swB_eq elt [⟨tg, iter, ifs, 0⟩] scope cpos x p pos.line X.env
  cases q : (X.env.blockKind == .function && X.env.kindOf x == some .local && p.line == cpos.line && !(scope.names.any fun (n, k) => n == x && (k == .local || k == .cell))) with
  | true =>
    rw [q] at hsw
    rw [Bool.and_eq_true, Bool.and_eq_true, Bool.and_eq_true] at q
    have hl : X.env.scope.names.lookup x = some .local := by
      have := q.1.1.2
      rw [kind_lcl] at this
      exact lcl_of this
    exact ds_setLc fr g.calm hN a2 hat hl hsw a3 a4 a5 a6 a7 a8 (s_fold _ a9 _)
  | false =>
    rw [q] at hsw
    have hF := df_comp (W := W) (pos := cpos) g.calm hN a2 a3 a4 a5 a6 a7 a8 (s_fold _ a9 _)
    cases fr with
    | true => exact ds_setF hN hat hloc hF hsw (.inl (g.fn x))
    | false => exact ds_set hN hat hloc (de_of_F hF) hsw (.inl (g.fn x))
theorem s_set (g : GdS c T lv X) (tk : Takes X W) (x : Str) (p : Pos) (e : Expr) (pos : Pos) : PS X (.Assign [.Name x p] e pos) (liftS (cn X) W (wS T (cSet k c x e))) := by
  unfold cSet
  split
  · exact ds_bad
  rename_i hl
  have hloc : Loc X.env.scope x := by
    rw [g.sc]
    exact loc_of (by simpa using hl)
  have hN : X.N.Nodup := by rw [g.N]; exact g.nd
  split
  · exact ds_bad
  rename_i i hi
  have hat := g.toGd.at hi
  split
  · -- a comprehension
    rename_i hlc
    cases e with
    | ListComp elt gens scope cpos =>
      cases k with
      | zero => exact ds_setbad
      | succ k =>
        cases gens with
        | nil => exact ds_setbad
        | cons g1 rest =>
          obtain ⟨tg, iter, ifs, z⟩ := g1
          cases rest with
          | cons g2 g3 =>
            have e : cE (k + 1) c (.ListComp elt (⟨tg, iter, ifs, z⟩ :: g2 :: g3) scope cpos) = .bad := rfl
            rw [e]
            exact ds_setbad
          | nil =>
            rcases cE_lc (k := k) (c := c) (elt := elt) (tg := tg) (iter := iter) (ifs := ifs) (z := z) (scope := scope) (pos := cpos) with e | ⟨t, ht, hh, e⟩
            · rw [e]
              exact ds_setbad
            · rw [e]
              exact s_setLc g tk hloc hat _ ht hh
    | _ => cases hlc
  · split
    · exact ds_bad
    rename_i h1 h2
    have hsw : ∀ t l, swapsWith e t l X.env = pure false := fun t l => nocomp_sw (by simpa using h2) t l _
    split
    · split
      · exact ds_setF hN hat hloc (s_fresh g.toGd tk (by assumption)) (hsw _ _) (.inl (g.fn x))
      · exact ds_set hN hat hloc ((snd k).e c T lv X W g.toGd tk e) (hsw _ _) (.inl (g.fn x))
    · exact ds_set hN hat hloc ((snd k).e c T lv X W g.toGd tk e) (hsw _ _) (.inl (g.fn x))
theorem s_tgN (g : GdS c T lv X) {ts : List Expr} {l : List Nat} (h : cNames c (fun _ => true) ts = some l) (kk : Nat) (p : Pos) : PG X (.Tuple ts kk p) (gOf X.K (.many l)) := s_tg g.toGd (fn := fun _ => true) (fun x _ => g.fn x) (tg := .Tuple ts kk p) (by rw [cTg, h]; rfl)
theorem sws_no {tg e : Expr} {l : Nat} {env : Env} (h : isTup tg = true) : swapsWithSole [tg] e l env = pure false := by
  cases tg <;> first | (cases h; done) | (cases e <;> rfl)
theorem sst_no {ts : List Expr} {kk : Nat} {p : Pos} {e : Expr} {env : Env} (h : isTup e = false) : swappedStores [.Tuple ts kk p] e env = pure none := by
  cases e <;> first | rfl | cases h
theorem s_par (g : GdS c T lv X) (tk : Takes X W) (ts vs : List Expr) (kt : Nat) (pt : Pos) (k2 : Nat) (p2 pos : Pos) : PS X (.Assign [.Tuple ts kt pt] (.Tuple vs k2 p2) pos) (liftS (cn X) W (wS T (cPar k c ts vs))) := by
  have hA := (snd k).a c T lv X W g.toGd tk vs
  have hN : X.N.Nodup := by rw [g.N]; exact g.nd
  have bk := bk_fn g.kind
  unfold cPar
  split
  · exact ds_bad
  rename_i l hl
  split
  · exact ds_bad
  rename_i hst
  rw [Bool.or_eq_true, not_or] at hst
  obtain ⟨h1, h2⟩ := hst
  replace h1 : vs.any isStar = false := by simpa using h1
  have hlen : l.length ≤ sizeLine := by
    rw [sizeLine_eq]
    simp at h2
    omega
  have plain : swappedStores [.Tuple ts kt pt] (.Tuple vs k2 p2) X.env = pure none → PS X (.Assign [.Tuple ts kt pt] (.Tuple vs k2 p2) pos) (liftS (cn X) W (wS T (.par l (cA k c vs)))) := fun hw =>
    ds_parT hA (s_tgN g hl kt pt) (sws_no rfl) hw rfl hlen
  split
  · rename_i x px y py a d
    split
    · exact ds_bad
    rename_i hc
    cases q : sw2 c.sc x px y py with
    | false => exact plain (sw2_no bk h1 (by rw [g.sc]; exact q))
    | true =>
      cases q2 : [a, d].all (foldedForSure 8) with
      | true => exact plain (sw2_fold bk h1 (by rw [g.sc]; exact q) q2)
      | false =>
        rw [q, q2] at hc
        have q3 : [a, d].all (constantsAlone 8) = false := by simpa using hc
        have hw := sw2_some (kt := kt) (pt := pt) (k2 := k2) (p2 := p2) bk h1 (by rw [g.sc]; exact q) q2 q3
        rw [cNames, cNames, cNames] at hl
        have q' := q
        unfold sw2 at q'
        simp only [Bool.and_eq_true, decide_eq_true_eq] at q'
        obtain ⟨⟨⟨l1, l2⟩, l3⟩, l4⟩ := q'
        split at hl
        · split at hl
          · rename_i i l' hi hl'
            cases hl
            split at hl'
            · split at hl'
              · rename_i j l'' hj hl''
                cases hl'
                cases hl''
                refine ds_par2 g.calm hN (g.toGd.at hi) (g.toGd.at hj) (fun e => ?_) (by rw [g.sc]; exact lcl_of l1) (by rw [g.sc]; exact lcl_of l2) hA hw (sws_no rfl)
                subst e
                exact l4 (Option.some.inj ((ixOf_get hi).symm.trans (ixOf_get hj)))
              · cases hl'
            · cases hl'
          · cases hl
        · cases hl
  · rename_i x px y py z pz a d e
    split
    · exact ds_bad
    rename_i hc
    cases q : sw3 c.sc x px y py z pz with
    | false => exact plain (sw3_no bk h1 (by rw [g.sc]; exact q))
    | true =>
      cases q2 : [a, d, e].all (foldedForSure 8) with
      | true => exact plain (sw3_fold bk h1 (by rw [g.sc]; exact q) q2)
      | false =>
        rw [q, q2] at hc
        have q3 : [a, d, e].all (constantsAlone 8) = false := by simpa using hc
        have hw := sw3_some (kt := kt) (pt := pt) (k2 := k2) (p2 := p2) bk h1 (by rw [g.sc]; exact q) q2 q3
        rw [cNames, cNames, cNames, cNames] at hl
        have q' := q
        unfold sw3 at q'
        simp only [Bool.and_eq_true, decide_eq_true_eq] at q'
        obtain ⟨⟨⟨⟨⟨⟨⟨l1, l2⟩, l3⟩, _⟩, _⟩, n1⟩, n2⟩, n3⟩ := q'
        split at hl
        · split at hl
          · rename_i i l' hi hl'
            cases hl
            split at hl'
            · split at hl'
              · rename_i j l'' hj hl''
                cases hl'
                split at hl''
                · split at hl''
                  · rename_i m l3' hm hl3
                    cases hl''
                    cases hl3
                    refine ds_par3 g.calm hN (g.toGd.at hi) (g.toGd.at hj) (g.toGd.at hm) (fun e => ?_) (fun e => ?_) (fun e => ?_) (by rw [g.sc]; exact lcl_of l1) (by rw [g.sc]; exact lcl_of l2) (by rw [g.sc]; exact lcl_of l3) hA hw (sws_no rfl)
                    · subst e
                      exact n1 (Option.some.inj ((ixOf_get hi).symm.trans (ixOf_get hj)))
                    · subst e
                      exact n2 (Option.some.inj ((ixOf_get hi).symm.trans (ixOf_get hm)))
                    · subst e
                      exact n3 (Option.some.inj ((ixOf_get hj).symm.trans (ixOf_get hm)))
                  · cases hl''
                · cases hl''
              · cases hl'
            · cases hl'
          · cases hl
        · cases hl
  · split
    · rename_i hc
      rw [Bool.and_eq_true] at hc
      refine plain ?_
      unfold swappedStores
      dsimp only
      have e1 : (ts.length == 2 || ts.length == 3) = false := by simpa using hc.2
      rw [e1]
      rfl
    · exact ds_bad
structure SndS (k : Nat) : Prop where
  s : ∀ (c : CC) (T : Tab) (lv : Nat) (X : Cx) (W : WD), GdS c T lv X → Takes X W → ∀ st, PS X st (liftS (cn X) W (wS T (cS k c st)))
  b : ∀ (c : CC) (T : Tab) (lv : Nat) (X : Cx) (W : WD), GdS c T lv X → Takes X W → ∀ sts, PSs X sts (liftS (cn X) W (wB T (cSs k c sts)))
theorem sndS : ∀ k, SndS k
  | 0 => ⟨fun c T lv X W g tk st => by rw [cS]; exact ds_bad, fun c T lv X W g tk sts => ⟨fun pins s a H D I ⟨b, G0, H0, G, n, r, E, h, t, k⟩ => by
      rw [cSs, wB, wS] at t
      exact t.elim⟩⟩
  | k + 1 => by
    have ih := sndS k
    refine ⟨fun c T lv X W g tk st => ?_, fun c T lv X W g tk sts => ?_⟩
    · have hE := (snd k).e c T lv X W g.toGd tk
      rw [cS.eq_def]
      dsimp only
      split
      · exact ds_ret (hE _)
      · exact ds_retN
      · exact ds_pass
      · exact ds_brk
      · exact ds_cont
      · split
        · rename_i i hi
          split
          · rename_i hc
            simp only [Bool.and_eq_true, decide_eq_true_eq] at hc
            obtain ⟨⟨h1, h2⟩, h3⟩ := hc
            subst h1
            obtain ⟨y, q, e, o1, o2, o3, o4⟩ := own_of g.toGd hi
            cases e
            exact ds_app o1 o2 o3 o4 (hE _) rfl (star1 (by simpa using h2) [] _) h3
          · exact ds_bad
        · exact ds_ex (hE _) rfl
      · split
        · exact ds_bad
        · rename_i hc
          exact ds_ex (hE _) (nocomp_sw (by simpa using hc) _ _ _)
      · exact s_set g tk _ _ _ _
      · exact s_par g tk _ _ _ _ _ _ _
      · rename_i hne
        split
        · exact ds_bad
        · rename_i hc
          split
          · rename_i l hl
            refine ds_unp (hE _) (s_tgN g hl _ _) (sws_no rfl) (sst_no ?_) rfl
            rename_i e _ _
            cases e <;> first | rfl | exact absurd rfl (hne _ _ _)
          · exact ds_bad
      · exact ds_ife ((snd k).t c T lv X W g.toGd tk _) (ih.b c T lv X W g tk _) (ih.b c T lv X W g tk _)
      · split
        · exact ds_bad
        · rename_i hc
          split
          · rename_i t ht
            exact ds_for g.hp g.calm ((snd k).i c T lv X W g.toGd tk _ _) (s_tg g.toGd (fn := fun _ => true) (fun x _ => g.fn x) ht) (ih.b c T lv X W g tk _) (s_fold _ (by simpa using hc) _)
          · exact ds_bad
      · exact ds_whl g.hp ((snd k).t c T lv X W g.toGd tk _) (ih.b c T lv X W g tk _)
      · exact ds_bad
    · cases sts with
      | nil => exact dss_nil
      | cons s r =>
        rw [cSs]
        unfold pre
        split
        · exact dss_cons (ih.s c T lv X W g tk s) (ih.b c T lv X W g tk r)
        · exact dss_frz (dss_cons (ih.s c T lv X W g tk s) (ih.b c T lv X W g tk r))
end
end Dl

set_option Elab.async false
set_option linter.all false
set_option maxRecDepth 100000
set_option maxHeartbeats 4000000
/-! Defs. -/
namespace Dl
open PySem PySem.Spec PyProof.Rows L2
def ent0 (N : List Str) (ds : List D) : List Ent := ds.map .sh ++ List.replicate (N.length - ds.length) .no
/-- what is known of a def -/
structure FnQ (P : Program) (w : World) (K : PySem.W.Frag) (mg : Str → Option Value) (base : Heap) (k : Nat) (f : Str) (fs : FS) : Prop where
  ex : ∃ (a : Addr) (fd : FuncData) (ps : List Str), mg f = some (.ref a) ∧ PySem.W.keepIn K (.ref a) = true ∧ Binds K fd ps [] ∧ FnOk P w K mg base (L2.CX P w) k a fd ps (spOf ⟨K, mg⟩ fs)
theorem FnQ.mono {P : Program} {w : World} {K : PySem.W.Frag} {mg : Str → Option Value} {base : Heap} {j k : Nat} {f : Str} {fs : FS} (h : FnQ P w K mg base j f fs) (l : j ≤ k) : FnQ P w K mg base k f fs := by
  obtain ⟨a, fd, ps, h1, h2, h3, h4⟩ := h.ex
  exact ⟨a, fd, ps, h1, h2, h3, h4.mono l⟩
theorem FnQ.imp {P : Program} {w : World} {K : PySem.W.Frag} {mg : Str → Option Value} {base : Heap} {k : Nat} {f : Str} {fs fs' : FS} (h : FnQ P w K mg base k f fs) (l : ∀ ds n Q E, fs' ds n Q E → fs ds n Q E) : FnQ P w K mg base k f fs' := by
  obtain ⟨a, fd, ps, h1, h2, h3, h4⟩ := h.ex
  refine ⟨a, fd, ps, h1, h2, h3, h4.imp fun vs H Q E q => ?_⟩
  obtain ⟨b, G, n, ds, Qd, Ex, o, r, f, x, k⟩ := q
  exact ⟨b, G, n, ds, Qd, Ex, o, r, l _ _ _ _ f, x, k⟩
/-- what is known of a static method -/
structure SmQ (P : Program) (w : World) (K : PySem.W.Frag) (mg : Str → Option Value) (base : Heap) (k : Nat) (C m : Str) (ps : List Str) (fs : FS) : Prop where
  ex : ∃ (Ca f : Addr) (fd : FuncData), mg C = some (.ref Ca) ∧ Stat K Ca m f ∧ Binds K fd ps [] ∧ KBn K fd ps 0 ps (fun _ ws => ws) (fun _ zs => zs) ∧ FnOk P w K mg base (L2.CX P w) k f fd ps (spOf ⟨K, mg⟩ fs)
theorem SmQ.mono {P : Program} {w : World} {K : PySem.W.Frag} {mg : Str → Option Value} {base : Heap} {j k : Nat} {C m : Str} {ps : List Str} {fs : FS} (h : SmQ P w K mg base j C m ps fs) (l : j ≤ k) : SmQ P w K mg base k C m ps fs := by
  obtain ⟨Ca, f, fd, h1, h2, h3, h4, h5⟩ := h.ex
  exact ⟨Ca, f, fd, h1, h2, h3, h4, h5.mono l⟩
/-- what is known of the module -/
structure Md (w : World) (K : PySem.W.Frag) (mg : Str → Option Value) (T : Tab) : Prop where
  blt : ∀ x ∈ bltNames, mg x = none
  gv : ∀ x d, T.gv x = some d → ∃ v u, mg x = some u ∧ RelV v u ∧ ∀ b G, Rp K b G v d
  gd : ∀ x kv, T.gd x = some kv → ∃ (d : Addr) (es : Array DictEntry) (n : Nat), mg x = some (.ref d) ∧ KDict K w d es n ∧ ∀ k, (∃ u v, PySem.W.nsIn K d k = some (some u) ∧ L2.RelV v u ∧ ∃ e, kv.lookup k = some e ∧ ∀ b G, Rp K b G v e) ∨ (PySem.W.nsIn K d k = some none ∧ kv.lookup k = none)
section
variable {P : Program} {w : World} {K : PySem.W.Frag} {mg : Str → Option Value} {base : Heap}
theorem ent_start {b : Option Addr} {H0 G H : Hp} : ∀ {vs : List V} {ds : List D} (m : Nat), Rps K b G vs ds → ∀ (i : Nat) (e : Ent), (ds.map Ent.sh ++ List.replicate m Ent.no)[i]? = some e → EntOk K b H0 G H e (vs.map some ++ List.replicate m none)[i]?
  | [], ds, m, h, i, e, q => by
    cases h
    simp only [List.map_nil, List.nil_append] at q ⊢
    have : e = .no := by
      have := List.mem_of_getElem? q
      exact List.eq_of_mem_replicate this
    subst this
    trivial
  | v :: vs, ds, m, h, i, e, q => by
    cases h with
    | cons h g =>
      cases i with
      | zero =>
        simp at q
        subst q
        exact ⟨v, rfl, h⟩
      | succ i =>
        simp only [List.map_cons, List.cons_append, List.getElem?_cons_succ] at q ⊢
        exact ent_start m g i e q
theorem no_ow {ds : List D} {m i : Nat} {d : D} (h : (ds.map Ent.sh ++ List.replicate m Ent.no)[i]? = some (.ow d)) : False := by
  have := List.mem_of_getElem? h
  rcases List.mem_append.mp this with z | z
  · obtain ⟨x, _, e⟩ := List.mem_map.mp z
    cases e
  · have := List.eq_of_mem_replicate z
    cases this
theorem rho_start {b : Option Addr} {G H : Hp} {n : Nat} {vs : List V} {ds : List D} {N : List Str} (ok : Ok b G H n) (g : Rps K b G vs ds) (hl : vs.length ≤ N.length) : Rho K b G H G H n (start N vs) (ent0 N ds) := by
  unfold L2.start ent0
  rw [g.length]
  refine ⟨ok, Stp.refl ok, ?_, ent_start _ g, fun i j p d e q => (no_ow q).elim⟩
  simp [g.length]
/-- a def keeps what its text over data keeps -/
theorem fn_ok {x qual : Str} {st : Stmt} {f : Addr} {fd : FuncData} {N ps : List Str} {k : Nat} {fs : FS} (F : Fun K x qual st f fd) (S : FnScope N ps (defScope st)) (T : Tab) (fuel : Nat) (mu : List Str) (ir : ISs) (hir : cSs fuel ⟨N, defScope st, mu⟩ (defBody st) = ir)
    (M : Md w K mg T) (hfs : ∀ g gs, T.fs g = some gs → FnQ P w K mg base k g gs) (hsm : ∀ C m ps gs, T.sm C m = some (ps, gs) → SmQ P w K mg base k C m ps gs) (hp : ps.length ≤ N.length)
    (hlen : ∀ ds n Q E, fs ds n Q E → ds.length = ps.length)
    (hbody : ∀ ds n Q E, fs ds n Q E → wB T ir (ent0 N ds) n ⟨fun _ n => Q .non n, Q, fun _ _ => False, fun _ _ => False, fun x _ n => E x n⟩) :
    FnOk P w K mg base (L2.CX P w) (k + 1) f fd ps (spOf ⟨K, mg⟩ fs) := by
  refine F.okX S (fun vs H Q E h => ?_) fun cdv A outer s H vs Q E hr h => ?_
  · obtain ⟨b, G, n, ds, Qd, Ex, ok, g, q, _⟩ := h
    rw [g.length, hlen ds n Qd Ex q]
  · obtain ⟨b, G, n, ds, Qd, Ex, ok, g, q, hx, hk⟩ := h
    have tk : Takes (cxOf (L2.CX P w) P w K mg base N qual (defScope st) f cdv A outer s H E) (fun cls d _ H => E cls d H) := takes_of rfl rfl rfl rfl
    have gd : GdS ⟨N, defScope st, mu⟩ T k (cxOf (L2.CX P w) P w K mg base N qual (defScope st) f cdv A outer s H E) :=
      ⟨⟨rfl, S.nd, rfl, rfl, hr, M.blt, M.gv, fun x kv h => ⟨M.gd x kv h⟩, fun g gs h => ⟨(hfs g gs h).ex⟩, fun C m ps gs h => ⟨(hsm C m ps gs h).ex⟩⟩, passes_of rfl, fun _ => rfl, S.kind⟩
    refine ⟨_, (sndS fuel).b _ T k _ _ gd tk (defBody st), ?_⟩
    rw [hir]
    have hl : vs.length ≤ N.length := by rw [g.length, hlen ds n Qd Ex q]; exact hp
    refine ⟨b, G, H, G, n, ent0 N ds, _, rho_start ok g hl, hbody ds n Qd Ex q, ⟨fun s' G' H' n' r' h' q' => hk .non G' H' n' .non h'.st .non q', fun v G' H' n' d st r q' => hk v G' H' n' d st r q', fun _ _ _ _ _ _ z => z.elim, fun _ _ _ _ _ _ z => z.elim, fun cls d s' G' H' n' r' x h' rx ex => hx cls d G' H' n' x h'.st rx ex⟩⟩
end
end Dl

set_option Elab.async false
set_option linter.all false
set_option maxRecDepth 100000
set_option maxHeartbeats 4000000
/-! Plain facts for the laws over data. -/
namespace Dl
open PySem PySem.Spec PyProof.Rows L2
def eQ (Q : D → Nat → Prop) (E : QX) : EndD := ⟨fun _ n => Q .non n, Q, fun _ _ => False, fun _ _ => False, fun x _ n => E x n⟩
theorem exAt_eq (nx : List Ent → Nat → Prop) (rt : D → Nat → Prop) (bk ct : List Ent → Nat → Prop) (ex : Exn → List Ent → Nat → Prop) (r : List Ent) : EndD.exAt ⟨nx, rt, bk, ct, ex⟩ r = fun x n => ex x r n := rfl
theorem bi_len_tup (xs : List D) : biD .len [.tup xs] = some (.int xs.length) := rfl
theorem bi_len_list (xs : List D) : biD .len [.list xs] = some (.int xs.length) := rfl
theorem bi_len_str (z : Str) : biD .len [.str z] = some (.int z.length) := rfl
theorem bi_tuple_list (xs : List D) : biD .tuple [.list xs] = some (.tup xs) := rfl
theorem bi_tuple_tup (xs : List D) : biD .tuple [.tup xs] = some (.tup xs) := rfl
theorem bi_list_list (xs : List D) : biD .list [.list xs] = some (.list xs) := rfl
theorem bi_list_tup (xs : List D) : biD .list [.tup xs] = some (.list xs) := rfl
theorem bi_int_int (i : Int) : biD .int [.int i] = some (.int i) := rfl
theorem compL_map {F : D → Nat → (Option D → Nat → Prop) → Prop} {g : D → D} : ∀ {ds : List D} {acc : List D} {n : Nat} {Q : List D → Nat → Prop}, (∀ d ∈ ds, ∀ n k, k (some (g d)) n → F d n k) → Q (acc ++ ds.map g) n → compL F ds acc n Q
  | [], acc, n, Q, _, q => by
    rw [List.map_nil, List.append_nil] at q
    exact q
  | d :: ds, acc, n, Q, h, q => by
    refine h d (List.mem_cons_self ..) n _ (compL_map (fun d hd => h d (List.mem_cons_of_mem _ hd)) ?_)
    rw [List.map_cons] at q
    simpa using q
theorem bools_map (f : D → Bool) : ∀ ds : List D, bools (ds.map fun d => .bl (f d)) = some (ds.map f)
  | [] => rfl
  | d :: ds => by
    rw [List.map_cons, bools, bools_map f ds]
    rfl
theorem all_comp {F : D → Nat → (Option D → Nat → Prop) → Prop} {f : D → Bool} {ds : List D} {n : Nat} {Q : D → Nat → Prop} (h : ∀ d ∈ ds, ∀ n k, k (some (.bl (f d))) n → F d n k) (q : Q (.bl (ds.all f)) n) : compL F ds [] n (fun xs n2 => ofO (biD .all [.list xs]) fun z => Q z n2) := by
  refine compL_map (g := fun d => .bl (f d)) h ?_
  rw [List.nil_append, biD, bools_map, Option.map_some, ofO_some]
  have e : (ds.map f).all id = ds.all f := by rw [List.all_map]; rfl
  rw [e]
  exact q
/-! ### how deep; no box in it -/
mutual
def D.dp : Nat → D → Bool
  | _, .non => true
  | _, .bl _ => true
  | _, .int _ => true
  | _, .str _ => true
  | 0, .list _ => false
  | 0, .tup _ => false
  | k + 1, .list xs => D.dps k xs
  | k + 1, .tup xs => D.dps k xs
  | _, .dict _ => true
  | _, .box => false
def D.dps : Nat → List D → Bool
  | _, [] => true
  | k, x :: xs => D.dp k x && D.dps k xs
end
theorem dps_mem {k : Nat} : ∀ {xs : List D}, D.dps k xs = true → ∀ x ∈ xs, x.dp k = true
  | [], _, x, h => by cases h
  | y :: ys, q, x, h => by
    rw [D.dps, Bool.and_eq_true] at q
    rcases List.mem_cons.mp h with z | z
    · rw [z]; exact q.1
    · exact dps_mem q.2 x z
theorem dps_of {k : Nat} : ∀ {xs : List D}, (∀ x ∈ xs, x.dp k = true) → D.dps k xs = true
  | [], _ => by rw [D.dps]
  | y :: ys, h => by
    rw [D.dps, Bool.and_eq_true]
    exact ⟨h y (List.mem_cons_self ..), dps_of fun x hx => h x (List.mem_cons_of_mem _ hx)⟩
theorem dp_tup {k : Nat} {xs : List D} (h : (D.tup xs).dp k = true) : ∃ j, k = j + 1 ∧ ∀ x ∈ xs, x.dp j = true := by
  cases k with
  | zero => rw [D.dp] at h; cases h
  | succ j => rw [D.dp] at h; exact ⟨j, rfl, dps_mem h⟩
theorem dp_list {k : Nat} {xs : List D} (h : (D.list xs).dp k = true) : ∃ j, k = j + 1 ∧ ∀ x ∈ xs, x.dp j = true := by
  cases k with
  | zero => rw [D.dp] at h; cases h
  | succ j => rw [D.dp] at h; exact ⟨j, rfl, dps_mem h⟩
theorem dp_nb {k : Nat} {d : D} (h : d.dp k = true) : d.isBox = false := by
  cases d <;> first | rfl | (rw [D.dp] at h; cases h)
mutual
theorem dp_mono {j k : Nat} (l : j ≤ k) : ∀ d : D, d.dp j = true → d.dp k = true
  | .non, _ => by rw [D.dp]
  | .bl _, _ => by rw [D.dp]
  | .int _, _ => by rw [D.dp]
  | .str _, _ => by rw [D.dp]
  | .dict _, _ => by rw [D.dp]
  | .box, h => by rw [D.dp] at h; cases h
  | .list xs, h => by
    cases j with
    | zero => rw [D.dp] at h; cases h
    | succ j =>
      obtain ⟨k, rfl⟩ : ∃ k', k = k' + 1 := ⟨k - 1, by omega⟩
      rw [D.dp] at h ⊢
      exact dps_mono (by omega) xs h
  | .tup xs, h => by
    cases j with
    | zero => rw [D.dp] at h; cases h
    | succ j =>
      obtain ⟨k, rfl⟩ : ∃ k', k = k' + 1 := ⟨k - 1, by omega⟩
      rw [D.dp] at h ⊢
      exact dps_mono (by omega) xs h
theorem dps_mono {j k : Nat} (l : j ≤ k) : ∀ xs : List D, D.dps j xs = true → D.dps k xs = true
  | [], _ => by rw [D.dps]
  | x :: xs, h => by
    rw [D.dps, Bool.and_eq_true] at h ⊢
    exact ⟨dp_mono l x h.1, dps_mono l xs h.2⟩
end
/-! ### == and in, against texts -/
theorem eqb_str (x : D) (z : Str) : x.eqb (.str z) = (match x with
  | .str y => y == z
  | _ => false) := by
  unfold D.eqb
  cases x <;> simp [D.py, PyData.eqv]
theorem str_eqb (x : D) (z : Str) : (D.str z).eqb x = (match x with
  | .str y => z == y
  | _ => false) := by
  unfold D.eqb
  cases x <;> simp [D.py, PyData.eqv]
theorem eqOk_str {x : D} (h : x.isBox = false) (z : Str) : eqOk x (.str z) = true := by
  unfold eqOk
  simp [D.isStr, h]
theorem neOk_str {x : D} (h : x.isBox = false) (z : Str) : neOk x (.str z) = true := by
  unfold neOk
  simp [D.isStr, h]
def hasS (ns : List Str) : D → Bool
  | .str z => ns.contains z
  | _ => false
theorem inOk_strs {x : D} (h : x.isBox = false) (ns : List Str) : inOk x (ns.map .str) = true := by
  unfold inOk
  have : (ns.map D.str).all D.isStr = true := by
    rw [List.all_map]
    exact List.all_eq_true.mpr fun _ _ => rfl
  simp [this, h]
theorem any_strs (x : D) (ns : List Str) : ((ns.map D.str).any fun z => z.eqb x) = hasS ns x := by
  rw [List.any_map]
  induction ns with
  | nil => cases x <;> rfl
  | cons y ys ih =>
    rw [List.any_cons, ih]
    have e : (((fun z => z.eqb x) ∘ D.str) y || hasS ys x) = ((D.str y).eqb x || hasS ys x) := rfl
    rw [e, str_eqb]
    cases x with
    | str z =>
      show (y == z || ys.contains z) = (y :: ys).contains z
      rw [List.contains_cons]
      have e2 : (y == z) = (z == y) := by rw [Bool.eq_iff_iff, beq_iff_eq, beq_iff_eq]; exact ⟨Eq.symm, Eq.symm⟩
      rw [e2]
    | _ => rfl
theorem c_inT (x : D) (ys : List D) : cmpop .inn x (.tup ys) = if inOk x ys then some (ys.any fun z => z.eqb x) else none := by cases x <;> rfl
theorem c_inL (x : D) (ys : List D) : cmpop .inn x (.list ys) = if inOk x ys then some (ys.any fun z => z.eqb x) else none := by cases x <;> rfl
theorem c_ninT (x : D) (ys : List D) : cmpop .notin x (.tup ys) = if inOk x ys then some (!ys.any fun z => z.eqb x) else none := by cases x <;> rfl
theorem c_ninL (x : D) (ys : List D) : cmpop .notin x (.list ys) = if inOk x ys then some (!ys.any fun z => z.eqb x) else none := by cases x <;> rfl
theorem c_eq (x y : D) : cmpop .eq x y = if eqOk x y then some (x.eqb y) else none := by cases x <;> cases y <;> rfl
theorem c_ne (x y : D) : cmpop .ne x y = if neOk x y then some (!x.eqb y) else none := by cases x <;> cases y <;> rfl
theorem in_strs_tup {x : D} (h : x.isBox = false) (ns : List Str) : cmpop .inn x (.tup (ns.map .str)) = some (hasS ns x) := by
  rw [c_inT, if_pos (inOk_strs h ns), any_strs]
theorem in_strs_list {x : D} (h : x.isBox = false) (ns : List Str) : cmpop .inn x (.list (ns.map .str)) = some (hasS ns x) := by
  rw [c_inL, if_pos (inOk_strs h ns), any_strs]
theorem nin_strs_tup {x : D} (h : x.isBox = false) (ns : List Str) : cmpop .notin x (.tup (ns.map .str)) = some (!hasS ns x) := by
  rw [c_ninT, if_pos (inOk_strs h ns), any_strs]
theorem nin_strs_list {x : D} (h : x.isBox = false) (ns : List Str) : cmpop .notin x (.list (ns.map .str)) = some (!hasS ns x) := by
  rw [c_ninL, if_pos (inOk_strs h ns), any_strs]
theorem eq_str {x : D} (h : x.isBox = false) (z : Str) : cmpop .eq x (.str z) = some (x.eqb (.str z)) := by
  rw [c_eq, if_pos (eqOk_str h z)]
theorem ne_str {x : D} (h : x.isBox = false) (z : Str) : cmpop .ne x (.str z) = some (!x.eqb (.str z)) := by
  rw [c_ne, if_pos (neOk_str h z)]
theorem eq_int (i j : Int) : cmpop .eq (.int i) (.int j) = some (i == j) := by
  have : eqOk (.int i) (.int j) = true := by simp [eqOk, D.flat]
  rw [c_eq, if_pos this]
  rfl
theorem ne_int (i j : Int) : cmpop .ne (.int i) (.int j) = some (!(i == j)) := by
  have : neOk (.int i) (.int j) = true := by simp [neOk, D.flat]
  rw [c_ne, if_pos this]
  rfl
theorem lt_int (i j : Int) : cmpop .lt (.int i) (.int j) = some (decide (i < j)) := rfl
theorem le_int (i j : Int) : cmpop .le (.int i) (.int j) = some (decide (i ≤ j)) := rfl
theorem gt_int (i j : Int) : cmpop .gt (.int i) (.int j) = some (decide (j < i)) := rfl
theorem ge_int (i j : Int) : cmpop .ge (.int i) (.int j) = some (decide (j ≤ i)) := rfl
/-- numbers and texts -/
def D.atom : D → Bool
  | .int _ => true
  | .str _ => true
  | _ => false
def hasA (th : List D) (x : D) : Bool := th.any fun z => z.eqb x
theorem inOk_atoms {x : D} {th : List D} (h : x.atom = true) (g : th.all D.atom = true) : inOk x th = true := by
  unfold inOk
  have e1 : x.flat 63 = true := by cases x <;> first | rfl | cases h
  have e2 : D.flats 63 th = true := by
    induction th with
    | nil => rfl
    | cons y ys ih =>
      rw [List.all_cons, Bool.and_eq_true] at g
      rw [D.flats, ih g.2]
      have := g.1
      cases y <;> first | rfl | cases this
  simp [e1, e2]
theorem in_atoms_tup {x : D} {th : List D} (h : x.atom = true) (g : th.all D.atom = true) : cmpop .inn x (.tup th) = some (hasA th x) := by
  rw [c_inT, if_pos (inOk_atoms h g)]
  rfl
theorem nin_atoms_tup {x : D} {th : List D} (h : x.atom = true) (g : th.all D.atom = true) : cmpop .notin x (.tup th) = some (!hasA th x) := by
  rw [c_ninT, if_pos (inOk_atoms h g)]
  rfl
theorem in_atoms_list {x : D} {th : List D} (h : x.atom = true) (g : th.all D.atom = true) : cmpop .inn x (.list th) = some (hasA th x) := by
  rw [c_inL, if_pos (inOk_atoms h g)]
  rfl
theorem nin_atoms_list {x : D} {th : List D} (h : x.atom = true) (g : th.all D.atom = true) : cmpop .notin x (.list th) = some (!hasA th x) := by
  rw [c_ninL, if_pos (inOk_atoms h g)]
  rfl
theorem ix_at {xs : List D} {i : Int} {d : D} (h0 : 0 ≤ i) (h : xs[i.toNat]? = some d) : getI (.tup xs) (.int i) = some d := by
  have hl := (List.getElem?_eq_some_iff.mp h).1
  show L2.atI xs i = some d
  unfold L2.atI L2.ixN
  rw [if_pos h0, if_pos (by omega)]
  exact h
theorem ix0 (a : D) (r : List D) : getI (.tup (a :: r)) (.int 0) = some a := ix_at (by decide) rfl
theorem ix1 (a b : D) (r : List D) : getI (.tup (a :: b :: r)) (.int 1) = some b := ix_at (by decide) rfl
theorem ix2 (a b c : D) (r : List D) : getI (.tup (a :: b :: c :: r)) (.int 2) = some c := ix_at (by decide) rfl
theorem ix3 (a b c d : D) (r : List D) : getI (.tup (a :: b :: c :: d :: r)) (.int 3) = some d := ix_at (by decide) rfl
theorem ix4 (a b c d e : D) (r : List D) : getI (.tup (a :: b :: c :: d :: e :: r)) (.int 4) = some e := ix_at (by decide) rfl
def isW (w : Str) (d : D) : Bool := d.eqb (.str w)
theorem isW_of {w : Str} {d : D} (h : isW w d = true) : d = .str w := by
  unfold isW at h
  rw [eqb_str] at h
  cases d with
  | str y =>
    have h : (y == w) = true := h
    rw [beq_iff_eq] at h
    rw [h]
  | _ => cases h
theorem isW_str (w y : Str) : isW w (.str y) = (y == w) := by
  unfold isW
  rw [eqb_str]
theorem eq_w {x : D} (h : x.isBox = false) (z : Str) : cmpop .eq x (.str z) = some (isW z x) := eq_str h z
theorem ne_w {x : D} (h : x.isBox = false) (z : Str) : cmpop .ne x (.str z) = some (!isW z x) := ne_str h z
theorem int_len (a b : Nat) : ((a : Int) == (b : Int)) = (a == b) := by
  rw [Bool.eq_iff_iff, beq_iff_eq, beq_iff_eq]
  omega
end Dl

set_option Elab.async false
set_option linter.all false
set_option maxRecDepth 100000
set_option maxHeartbeats 4000000
/-! The texts in the small language (printed). -/
namespace Dl
open PySem PySem.Spec PyProof.Rows L2
def ir_tupled : ISs := (.cons (.ret (.ite (.isi (.v 0) [.list, .tuple]) (.bi .tuple (.comp (.ex (.v 0)) (.one 1) (.k (.bl true)) (.call "tupled" (.cons (.v 1) .nil)))) (.v 0)))
  .nil)
def ir_is_number : ISs := (.cons (.ret (.and (.cons (.isi (.v 0) [.int]) (.cons (.not (.isi (.v 0) [.bool])) .nil))))
  .nil)
def ir_is_name : ISs := (.cons (.ret (.and (.cons (.isi (.v 0) [.str]) (.cons (.chain .lt .le (.k (.int 0)) (.bi .len (.v 0)) (.g "LONGEST")) (.cons (.bi .all (.comp (.ex (.v 0)) (.one 1) (.k (.bl true)) (.cmp .inn (.v 1) (.g "LETTERS")))) .nil)))))
  .nil)
def ir_are_names : ISs := (.cons (.ife (.tor (.cons (.tnot (.isi (.v 0) [.tuple])) (.cons (.tnot (.chain .le .le (.v 1) (.bi .len (.v 0)) (.v 2))) (.cons (.tnot (.bi .all (.comp (.ex (.v 0)) (.one 3) (.k (.bl true)) (.call "is_name" (.cons (.v 3) .nil))))) .nil))))
  (.cons (.ret (.k (.bl false)))
  .nil)
  .nil)
  (.cons (.ret (.cmp .eq (.lenset (.v 0)) (.bi .len (.v 0))))
  .nil))
def ir_is_term : ISs := (.cons (.ret (.or (.cons (.call "is_number" (.cons (.v 0) .nil)) (.cons (.and (.cons (.isi (.v 0) [.str]) (.cons (.cmp .inn (.v 0) (.v 1)) .nil))) .nil))))
  .nil)
def ir_is_change : ISs := (.cons (.ife (.tor (.cons (.tnot (.isi (.v 1) [.tuple])) (.cons (.cmp .lt (.bi .len (.v 1)) (.k (.int 2))) (.cons (.tnot (.call "is_term" (.cons (.ix (.v 1) (.k (.int 1))) (.cons (.v 2) .nil)))) .nil))))
  (.cons (.ret (.k (.bl false)))
  .nil)
  .nil)
  (.cons (.ife (.cmp .eq (.ix (.v 1) (.k (.int 0))) (.k (.str "drop")))
  (.cons (.ret (.cmp .eq (.bi .len (.v 1)) (.k (.int 2))))
  .nil)
  .nil)
  (.cons (.ife (.cmp .eq (.ix (.v 1) (.k (.int 0))) (.k (.str "set")))
  (.cons (.ret (.and (.cons (.cmp .eq (.bi .len (.v 1)) (.k (.int 4))) (.cons (.cmp .inn (.ix (.v 1) (.k (.int 2))) (.v 0)) (.cons (.call "is_term" (.cons (.ix (.v 1) (.k (.int 3))) (.cons (.v 2) .nil))) .nil)))))
  .nil)
  .nil)
  (.cons (.ife (.tor (.cons (.cmp .ne (.ix (.v 1) (.k (.int 0))) (.k (.str "make"))) (.cons (.cmp .ne (.bi .len (.v 1)) (.k (.int 3))) (.cons (.tnot (.isi (.ix (.v 1) (.k (.int 2))) [.tuple])) .nil))))
  (.cons (.ret (.k (.bl false)))
  .nil)
  .nil)
  (.cons (.ret (.and (.cons (.cmp .eq (.bi .len (.ix (.v 1) (.k (.int 2)))) (.bi .len (.v 0))) (.cons (.bi .all (.comp (.ex (.ix (.v 1) (.k (.int 2)))) (.one 3) (.k (.bl true)) (.call "is_term" (.cons (.v 3) (.cons (.v 2) .nil))))) .nil))))
  .nil)))))
def ir_is_body : ISs := (.cons (.ife (.tor (.cons (.tnot (.isi (.v 1) [.tuple])) (.cons (.cmp .eq (.bi .len (.v 1)) (.k (.int 0))) (.cons (.tnot (.isi (.ix (.v 1) (.k (.int 0))) [.str])) .nil))))
  (.cons (.ret (.k (.bl false)))
  .nil)
  .nil)
  (.cons (.set 4 (.ix (.v 1) (.k (.int 0))))
  (.cons (.ife (.cmp .ne (.gget "SIZES" (.v 4) (.k (.int 0))) (.bi .len (.v 1)))
  (.cons (.ret (.k (.bl false)))
  .nil)
  .nil)
  (.cons (.ife (.cmp .eq (.v 4) (.k (.str "say")))
  (.cons (.set 5 (.ix (.v 1) (.k (.int 1))))
  (.cons (.ife (.tor (.cons (.tnot (.call "is_name" (.cons (.ix (.v 1) (.k (.int 2))) .nil))) (.cons (.tnot (.isi (.v 5) [.tuple])) .nil)))
  (.cons (.ret (.k (.bl false)))
  .nil)
  .nil)
  (.cons (.ret (.bi .all (.comp (.ex (.v 5)) (.one 11) (.k (.bl true)) (.call "is_change" (.cons (.v 0) (.cons (.v 11) (.cons (.v 2) .nil)))))))
  .nil)))
  .nil)
  (.cons (.ife (.cmp .eq (.v 4) (.k (.str "has")))
  (.cons (.ife (.tor (.cons (.tnot (.call "is_term" (.cons (.ix (.v 1) (.k (.int 1))) (.cons (.v 2) .nil)))) (.cons (.tnot (.call "is_body" (.cons (.v 0) (.cons (.ix (.v 1) (.k (.int 2))) (.cons (.v 2) (.cons (.tup (.star (.v 3) (.cons (.ix (.v 1) (.k (.int 1))) .nil))) .nil)))))) .nil)))
  (.cons (.ret (.k (.bl false)))
  .nil)
  .nil)
  (.cons (.ret (.call "is_body" (.cons (.v 0) (.cons (.ix (.v 1) (.k (.int 3))) (.cons (.v 2) (.cons (.v 3) .nil))))))
  .nil))
  .nil)
  (.cons (.ife (.cmp .eq (.v 4) (.k (.str "is")))
  (.cons (.unp [6, 7, 8] (.slc (.v 1) true true (.k (.int 1)) (.k (.int 4))))
  (.cons (.ife (.tor (.cons (.tnot (.call "is_term" (.cons (.v 6) (.cons (.v 2) .nil)))) (.cons (.cmp .notin (.v 6) (.v 3)) (.cons (.cmp .notin (.v 7) (.v 0)) (.cons (.tnot (.call "is_term" (.cons (.v 8) (.cons (.v 2) .nil)))) .nil)))))
  (.cons (.ret (.k (.bl false)))
  .nil)
  .nil)
  (.cons (.ret (.bi .all (.comp (.ex (.slc (.v 1) true false (.k (.int 4)) .bad)) (.one 10) (.k (.bl true)) (.call "is_body" (.cons (.v 0) (.cons (.v 10) (.cons (.v 2) (.cons (.v 3) .nil))))))))
  .nil)))
  .nil)
  (.cons (.unp [9, 6, 7, 10] (.slc (.v 1) true false (.k (.int 1)) .bad))
  (.cons (.ife (.tor (.cons (.tnot (.call "is_name" (.cons (.v 9) .nil))) (.cons (.cmp .inn (.v 9) (.v 2)) (.cons (.tnot (.call "is_term" (.cons (.v 6) (.cons (.v 2) .nil)))) (.cons (.cmp .notin (.v 6) (.v 3)) (.cons (.cmp .notin (.v 7) (.v 0)) .nil))))))
  (.cons (.ret (.k (.bl false)))
  .nil)
  .nil)
  (.cons (.ret (.call "is_body" (.cons (.v 0) (.cons (.v 10) (.cons (.tup (.star (.v 2) (.cons (.v 9) .nil))) (.cons (.v 3) .nil))))))
  .nil)))))))))
def ir_is_kind_of : ISs := (.cons (.ife (.tor (.cons (.tnot (.isi (.v 1) [.tuple])) (.cons (.cmp .ne (.bi .len (.v 1)) (.k (.int 3))) .nil)))
  (.cons (.ret (.k (.bl false)))
  .nil)
  .nil)
  (.cons (.unp [2, 3, 4] (.v 1))
  (.cons (.ret (.and (.cons (.call "is_name" (.cons (.v 2) .nil)) (.cons (.call "are_names" (.cons (.v 3) (.cons (.k (.int 0)) (.cons (.g "MOST_PARAMETERS") .nil)))) (.cons (.call "is_body" (.cons (.v 0) (.cons (.v 4) (.cons (.v 3) (.cons (.tup .nil) .nil))))) .nil)))))
  .nil)))
def ir_law_of : ISs := (.cons (.ret (.ix (.v 1) (.call "_law_take" (.cons (.v 0) (.cons (.bi .len (.v 1)) .nil)))))
  .nil)
def ir_law_lists : ISs := (.cons (.ife (.isi (.v 0) [.dict])
  (.cons (.ret (.call "dict" (.cons (.comp (.ex (.v 0)) (.one 1) (.k (.bl true)) (.tup (.cons (.v 1) (.cons (.call "_law_lists" (.cons (.ix (.v 0) (.v 1)) .nil)) .nil)))) .nil)))
  .nil)
  .nil)
  (.cons (.ret (.ite (.isi (.v 0) [.list, .tuple]) (.comp (.ex (.v 0)) (.one 2) (.k (.bl true)) (.call "_law_lists" (.cons (.v 2) .nil))) (.v 0)))
  .nil))
def ir_law_same : ISs := (.cons (.ife (.isi (.v 1) [.dict])
  (.cons (.ife (.tor (.cons (.tnot (.isi (.v 0) [.dict])) (.cons (.cmp .ne (.bi .len (.v 0)) (.bi .len (.v 1))) .nil)))
  (.cons (.ret (.k (.bl false)))
  .nil)
  .nil)
  (.cons (.ret (.bi .all (.comp (.ex (.v 1)) (.one 2) (.k (.bl true)) (.and (.cons (.cmp .inn (.v 2) (.v 0)) (.cons (.call "_law_is_number" (.cons (.v 2) .nil)) (.cons (.call "_law_same" (.cons (.ix (.v 0) (.v 2)) (.cons (.ix (.v 1) (.v 2)) .nil))) .nil)))))))
  .nil))
  .nil)
  (.cons (.ife (.isi (.v 1) [.list, .tuple])
  (.cons (.ife (.tor (.cons (.cmp .ne (.isi (.v 0) [.list]) (.isi (.v 1) [.list])) (.cons (.cmp .ne (.isi (.v 0) [.tuple]) (.isi (.v 1) [.tuple])) .nil)))
  (.cons (.ret (.k (.bl false)))
  .nil)
  .nil)
  (.cons (.ret (.and (.cons (.cmp .eq (.bi .len (.v 0)) (.bi .len (.v 1))) (.cons (.bi .all (.comp (.zip (.v 0) (.v 1)) (.many [3, 4]) (.k (.bl true)) (.call "_law_same" (.cons (.v 3) (.cons (.v 4) .nil))))) .nil))))
  .nil))
  .nil)
  (.cons (.ife (.tor (.cons (.cmp .is (.v 1) (.k (.non))) (.cons (.isi (.v 1) [.bool, .str]) .nil)))
  (.cons (.ret (.and (.cons (.cmp .eq (.v 0) (.v 1)) (.cons (.cmp .eq (.isi (.v 0) [.bool]) (.isi (.v 1) [.bool])) (.cons (.cmp .eq (.cmp .is (.v 0) (.k (.non))) (.cmp .is (.v 1) (.k (.non)))) .nil)))))
  .nil)
  .nil)
  (.cons (.ret (.and (.cons (.call "_law_is_number" (.cons (.v 0) .nil)) (.cons (.cmp .eq (.v 0) (.v 1)) .nil))))
  .nil))))
def ir_law_is_number : ISs := (.cons (.ret (.and (.cons (.isi (.v 0) [.int]) (.cons (.not (.isi (.v 0) [.bool])) .nil))))
  .nil)
def ir_law_names : ISs := (.cons (.setF 2 (.lst .nil))
  (.cons (.forr (.rng1 (.v 1)) (.one 3)
  (.cons (.set 4 (.join "" (.comp (.rng1 (.bin .add (.k (.int 1)) (.call "_law_take" (.cons (.v 0) (.cons (.k (.int 4)) .nil))))) (.one 5) (.k (.bl true)) (.call "_law_of" (.cons (.v 0) (.cons (.k (.str "abcdefghijklmnopqrstuvwxyz")) .nil))))))
  (.cons (.ife (.inO false (.v 4) 2)
  (.cons (.set 4 (.bin .add (.slc (.bin .add (.v 4) (.k (.str "jjjj"))) false true .bad (.k (.int 4))) (.bin .mul (.ix (.k (.str "abcdefghijklmnopqrstuvwxyz")) (.v 3)) (.k (.int 2)))))
  .nil)
  .nil)
  (.cons (.app 2 (.v 4))
  .nil))))
  (.cons (.frz [2])
  (.cons (.ret (.v 2))
  .nil))))
def ir_law_say : ISs := (.cons (.setF 4 (.lst .nil))
  (.cons (.forr (.rng1 (.ite (.cmp .ne (.v 2) (.lst .nil)) (.call "_law_of" (.cons (.v 0) (.cons (.lst (.cons (.k (.int 0)) (.cons (.k (.int 1)) (.cons (.k (.int 1)) (.cons (.k (.int 2)) .nil))))) .nil))) (.k (.int 0)))) (.one 5)
  (.cons (.par [6, 7] (.cons (.call "_law_of" (.cons (.v 0) (.cons (.v 2) .nil))) (.cons (.call "_law_take" (.cons (.v 0) (.cons (.k (.int 4)) .nil))) .nil)))
  (.cons (.ife (.cmp .lt (.v 7) (.k (.int 2)))
  (.cons (.app 4 (.tup (.cons (.k (.str "make")) (.cons (.v 6) (.cons (.bi .tuple (.comp (.ex (.v 1)) (.one 8) (.k (.bl true)) (.call "_law_of" (.cons (.v 0) (.cons (.bin .add (.v 2) (.lst (.cons (.k (.int 0)) .nil))) .nil))))) .nil)))))
  .nil)
  (.cons (.ife (.cmp .eq (.v 7) (.k (.int 2)))
  (.cons (.app 4 (.tup (.cons (.k (.str "set")) (.cons (.v 6) (.cons (.call "_law_of" (.cons (.v 0) (.cons (.v 1) .nil))) (.cons (.call "_law_of" (.cons (.v 0) (.cons (.bin .add (.v 2) (.lst (.cons (.k (.int 0)) .nil))) .nil))) .nil))))))
  .nil)
  (.cons (.app 4 (.tup (.cons (.k (.str "drop")) (.cons (.v 6) .nil))))
  .nil))
  .nil))
  .nil)))
  (.cons (.frz [4])
  (.cons (.ret (.tup (.cons (.k (.str "say")) (.cons (.bi .tuple (.v 4)) (.cons (.call "_law_of" (.cons (.v 0) (.cons (.v 3) .nil))) .nil)))))
  .nil))))
def ir_law_body : ISs := (.cons (.ife (.tand (.cons (.cmp .ne (.v 3) (.lst .nil)) (.cons (.cmp .gt (.v 5) (.k (.int 0))) (.cons (.cmp .eq (.call "_law_take" (.cons (.v 0) (.cons (.k (.int 3)) .nil))) (.k (.int 0))) .nil))))
  (.cons (.set 7 (.ite (.cmp .notin (.k (.str "x")) (.v 2)) (.k (.str "x")) (.k (.str "xx"))))
  (.cons (.par [8, 9] (.cons (.call "_law_of" (.cons (.v 0) (.cons (.v 3) .nil))) (.cons (.call "_law_of" (.cons (.v 0) (.cons (.v 1) .nil))) .nil)))
  (.cons (.set 10 (.call "_law_body" (.cons (.v 0) (.cons (.v 1) (.cons (.bin .add (.v 2) (.lst (.cons (.v 7) .nil))) (.cons (.v 3) (.cons (.v 4) (.cons (.bin .sub (.v 5) (.k (.int 1))) (.cons (.v 6) .nil)))))))))
  (.cons (.ret (.tup (.cons (.k (.str "let")) (.cons (.v 7) (.cons (.v 8) (.cons (.v 9) (.cons (.v 10) .nil)))))))
  .nil))))
  .nil)
  (.cons (.ife (.tor (.cons (.cmp .eq (.v 4) (.k (.int 0))) (.cons (.cmp .eq (.v 2) (.lst .nil)) .nil)))
  (.cons (.ret (.call "_law_say" (.cons (.v 0) (.cons (.v 1) (.cons (.v 2) (.cons (.v 6) .nil))))))
  .nil)
  .nil)
  (.cons (.set 11 (.call "_law_take" (.cons (.v 0) (.cons (.v 4) .nil))))
  (.cons (.ife (.tand (.cons (.cmp .ne (.v 3) (.lst .nil)) (.cons (.cmp .eq (.call "_law_take" (.cons (.v 0) (.cons (.k (.int 2)) .nil))) (.k (.int 0))) .nil)))
  (.cons (.set 12 (.tup (.cons (.k (.str "is")) (.cons (.call "_law_of" (.cons (.v 0) (.cons (.v 3) .nil))) (.cons (.call "_law_of" (.cons (.v 0) (.cons (.v 1) .nil))) (.cons (.call "_law_of" (.cons (.v 0) (.cons (.bin .add (.v 2) (.lst (.cons (.k (.int 0)) .nil))) .nil))) .nil))))))
  (.cons (.set 13 (.call "_law_body" (.cons (.v 0) (.cons (.v 1) (.cons (.v 2) (.cons (.v 3) (.cons (.v 11) (.cons (.v 5) (.cons (.v 6) .nil)))))))))
  .nil))
  (.cons (.set 14 (.call "_law_of" (.cons (.v 0) (.cons (.v 2) .nil))))
  (.cons (.set 12 (.tup (.cons (.k (.str "has")) (.cons (.v 14) .nil))))
  (.cons (.set 13 (.call "_law_body" (.cons (.v 0) (.cons (.v 1) (.cons (.v 2) (.cons (.bin .add (.v 3) (.lst (.cons (.v 14) .nil))) (.cons (.v 11) (.cons (.v 5) (.cons (.v 6) .nil)))))))))
  .nil))))
  (.cons (.set 15 (.call "_law_body" (.cons (.v 0) (.cons (.v 1) (.cons (.v 2) (.cons (.v 3) (.cons (.bin .sub (.bin .sub (.v 4) (.k (.int 1))) (.v 11)) (.cons (.v 5) (.cons (.v 6) .nil)))))))))
  (.cons (.ret (.bin .add (.v 12) (.tup (.cons (.v 13) (.cons (.v 15) .nil)))))
  .nil))))))
def ir_law_kind : ISs := (.cons (.set 7 (.lst (.cons (.call "_law_of" (.cons (.v 0) (.cons (.lst (.cons (.k (.str "a")) (.cons (.k (.str "k")) (.cons (.k (.str "key")) .nil)))) .nil))) (.cons (.call "_law_of" (.cons (.v 0) (.cons (.lst (.cons (.k (.str "b")) (.cons (.k (.str "v")) (.cons (.k (.str "value")) .nil)))) .nil))) .nil))))
  (.cons (.set 7 (.slc (.v 7) false true .bad (.call "_law_of" (.cons (.v 0) (.cons (.lst (.cons (.k (.int 0)) (.cons (.k (.int 1)) (.cons (.k (.int 1)) (.cons (.k (.int 1)) (.cons (.k (.int 2)) (.cons (.k (.int 2)) .nil))))))) .nil)))))
  (.cons (.set 8 (.bin .add (.v 7) (.bi .list (.v 6))))
  (.cons (.set 9 (.call "_law_body" (.cons (.v 0) (.cons (.v 1) (.cons (.v 8) (.cons (.lst .nil) (.cons (.bin .add (.k (.int 1)) (.call "_law_take" (.cons (.v 0) (.cons (.v 5) .nil)))) (.cons (.v 4) (.cons (.v 3) .nil)))))))))
  (.cons (.ret (.tup (.cons (.v 2) (.cons (.bi .tuple (.v 7)) (.cons (.v 9) .nil)))))
  .nil)))))
def ir_law_is_name : ISs := (.cons (.ife (.tor (.cons (.tnot (.isi (.v 0) [.str])) (.cons (.tnot (.chain .lt .lt (.k (.int 0)) (.bi .len (.v 0)) (.k (.int 9)))) .nil)))
  (.cons (.ret (.k (.bl false)))
  .nil)
  .nil)
  (.cons (.ret (.bi .all (.comp (.ex (.v 0)) (.one 1) (.k (.bl true)) (.cmp .inn (.v 1) (.k (.str "abcdefghijklmnopqrstuvwxyz"))))))
  .nil))
def ir_law_is_term : ISs := (.cons (.ret (.or (.cons (.call "_law_is_number" (.cons (.v 0) .nil)) (.cons (.and (.cons (.isi (.v 0) [.str]) (.cons (.cmp .inn (.v 0) (.v 1)) .nil))) .nil))))
  .nil)
def ir_law_is_change : ISs := (.cons (.ife (.tor (.cons (.tnot (.isi (.v 1) [.tuple])) (.cons (.cmp .notin (.bi .len (.v 1)) (.tup (.cons (.k (.int 2)) (.cons (.k (.int 3)) (.cons (.k (.int 4)) .nil))))) (.cons (.tnot (.call "_law_is_term" (.cons (.ix (.v 1) (.k (.int 1))) (.cons (.v 2) .nil)))) .nil))))
  (.cons (.ret (.k (.bl false)))
  .nil)
  .nil)
  (.cons (.ife (.cmp .eq (.bi .len (.v 1)) (.k (.int 2)))
  (.cons (.ret (.cmp .eq (.ix (.v 1) (.k (.int 0))) (.k (.str "drop"))))
  .nil)
  .nil)
  (.cons (.ife (.cmp .eq (.bi .len (.v 1)) (.k (.int 4)))
  (.cons (.ret (.and (.cons (.cmp .eq (.ix (.v 1) (.k (.int 0))) (.k (.str "set"))) (.cons (.cmp .inn (.ix (.v 1) (.k (.int 2))) (.v 0)) (.cons (.call "_law_is_term" (.cons (.ix (.v 1) (.k (.int 3))) (.cons (.v 2) .nil))) .nil)))))
  .nil)
  .nil)
  (.cons (.ife (.tor (.cons (.cmp .ne (.ix (.v 1) (.k (.int 0))) (.k (.str "make"))) (.cons (.tnot (.isi (.ix (.v 1) (.k (.int 2))) [.tuple])) (.cons (.cmp .ne (.bi .len (.ix (.v 1) (.k (.int 2)))) (.bi .len (.v 0))) .nil))))
  (.cons (.ret (.k (.bl false)))
  .nil)
  .nil)
  (.cons (.ret (.bi .all (.comp (.ex (.ix (.v 1) (.k (.int 2)))) (.one 3) (.k (.bl true)) (.call "_law_is_term" (.cons (.v 3) (.cons (.v 2) .nil))))))
  .nil)))))
def ir_law_is_say : ISs := (.cons (.ife (.tor (.cons (.tnot (.call "_law_is_name" (.cons (.ix (.v 1) (.k (.int 2))) .nil))) (.cons (.tnot (.isi (.ix (.v 1) (.k (.int 1))) [.tuple])) .nil)))
  (.cons (.ret (.k (.bl false)))
  .nil)
  .nil)
  (.cons (.ret (.bi .all (.comp (.ex (.ix (.v 1) (.k (.int 1)))) (.one 3) (.k (.bl true)) (.call "_law_is_change" (.cons (.v 0) (.cons (.v 3) (.cons (.v 2) .nil)))))))
  .nil))
def ir_law_is_body : ISs := (.cons (.ife (.tor (.cons (.tnot (.isi (.v 1) [.tuple])) (.cons (.cmp .eq (.v 1) (.tup .nil)) (.cons (.tnot (.isi (.ix (.v 1) (.k (.int 0))) [.str])) .nil))))
  (.cons (.ret (.k (.bl false)))
  .nil)
  .nil)
  (.cons (.par [4, 5] (.cons (.ix (.v 1) (.k (.int 0))) (.cons (.bi .len (.v 1)) .nil)))
  (.cons (.ife (.cmp .eq (.v 4) (.k (.str "say")))
  (.cons (.ret (.and (.cons (.cmp .eq (.v 5) (.k (.int 3))) (.cons (.call "_law_is_say" (.cons (.v 0) (.cons (.v 1) (.cons (.v 2) .nil)))) .nil))))
  .nil)
  .nil)
  (.cons (.ife (.cmp .eq (.v 4) (.k (.str "has")))
  (.cons (.ife (.tor (.cons (.cmp .ne (.v 5) (.k (.int 4))) (.cons (.tnot (.call "_law_is_term" (.cons (.ix (.v 1) (.k (.int 1))) (.cons (.v 2) .nil)))) .nil)))
  (.cons (.ret (.k (.bl false)))
  .nil)
  .nil)
  (.cons (.ife (.tnot (.call "_law_is_body" (.cons (.v 0) (.cons (.ix (.v 1) (.k (.int 2))) (.cons (.v 2) (.cons (.bin .add (.v 3) (.lst (.cons (.ix (.v 1) (.k (.int 1))) .nil))) .nil))))))
  (.cons (.ret (.k (.bl false)))
  .nil)
  .nil)
  (.cons (.ret (.call "_law_is_body" (.cons (.v 0) (.cons (.ix (.v 1) (.k (.int 3))) (.cons (.v 2) (.cons (.v 3) .nil))))))
  .nil)))
  .nil)
  (.cons (.ife (.cmp .eq (.v 4) (.k (.str "is")))
  (.cons (.ife (.tor (.cons (.cmp .ne (.v 5) (.k (.int 6))) (.cons (.tnot (.call "_law_is_term" (.cons (.ix (.v 1) (.k (.int 1))) (.cons (.v 2) .nil)))) (.cons (.tnot (.call "_law_is_term" (.cons (.ix (.v 1) (.k (.int 3))) (.cons (.v 2) .nil)))) .nil))))
  (.cons (.ret (.k (.bl false)))
  .nil)
  .nil)
  (.cons (.ife (.tor (.cons (.cmp .notin (.ix (.v 1) (.k (.int 1))) (.v 3)) (.cons (.cmp .notin (.ix (.v 1) (.k (.int 2))) (.v 0)) .nil)))
  (.cons (.ret (.k (.bl false)))
  .nil)
  .nil)
  (.cons (.ret (.bi .all (.comp (.ex (.slc (.v 1) true false (.k (.int 4)) .bad)) (.one 6) (.k (.bl true)) (.call "_law_is_body" (.cons (.v 0) (.cons (.v 6) (.cons (.v 2) (.cons (.v 3) .nil))))))))
  .nil)))
  .nil)
  (.cons (.ife (.tor (.cons (.cmp .ne (.v 4) (.k (.str "let"))) (.cons (.cmp .ne (.v 5) (.k (.int 5))) (.cons (.tnot (.call "_law_is_name" (.cons (.ix (.v 1) (.k (.int 1))) .nil))) (.cons (.cmp .inn (.ix (.v 1) (.k (.int 1))) (.v 2)) .nil)))))
  (.cons (.ret (.k (.bl false)))
  .nil)
  .nil)
  (.cons (.ife (.tor (.cons (.tnot (.call "_law_is_term" (.cons (.ix (.v 1) (.k (.int 2))) (.cons (.v 2) .nil)))) (.cons (.cmp .notin (.ix (.v 1) (.k (.int 2))) (.v 3)) (.cons (.cmp .notin (.ix (.v 1) (.k (.int 3))) (.v 0)) .nil))))
  (.cons (.ret (.k (.bl false)))
  .nil)
  .nil)
  (.cons (.ret (.call "_law_is_body" (.cons (.v 0) (.cons (.ix (.v 1) (.k (.int 4))) (.cons (.bin .add (.v 2) (.lst (.cons (.ix (.v 1) (.k (.int 1))) .nil))) (.cons (.v 3) .nil))))))
  .nil))))))))
def ir_law_is_kind : ISs := (.cons (.ife (.tor (.cons (.tnot (.isi (.v 1) [.tuple])) (.cons (.cmp .ne (.bi .len (.v 1)) (.k (.int 3))) (.cons (.tnot (.call "_law_is_name" (.cons (.ix (.v 1) (.k (.int 0))) .nil))) .nil))))
  (.cons (.ret (.k (.bl false)))
  .nil)
  .nil)
  (.cons (.set 2 (.ix (.v 1) (.k (.int 1))))
  (.cons (.ife (.tor (.cons (.tnot (.isi (.v 2) [.tuple])) (.cons (.cmp .gt (.bi .len (.v 2)) (.k (.int 2))) (.cons (.tnot (.bi .all (.comp (.ex (.v 2)) (.one 3) (.k (.bl true)) (.call "_law_is_name" (.cons (.v 3) .nil))))) .nil))))
  (.cons (.ret (.k (.bl false)))
  .nil)
  .nil)
  (.cons (.ret (.and (.cons (.cmp .eq (.lenset (.v 2)) (.bi .len (.v 2))) (.cons (.call "_law_is_body" (.cons (.v 0) (.cons (.ix (.v 1) (.k (.int 2))) (.cons (.bi .list (.v 2)) (.cons (.lst .nil) .nil))))) .nil))))
  .nil))))
def ir_law_odd : ISs := (.cons (.setF 2 (.lst (.cons (.k (.non)) (.cons (.k (.bl true)) (.cons (.k (.bl false)) (.cons (.k (.int 0)) (.cons (.k (.int 7)) (.cons (.neg (.k (.int 2))) (.cons (.bin .pow (.k (.int 10)) (.k (.int 30))) (.cons (.k (.str "")) (.cons (.k (.str "a")) (.cons (.k (.str "k")) (.cons (.k (.str "x")) (.cons (.k (.str "A")) (.cons (.k (.str "abcdefgh")) (.cons (.k (.str "abcdefghi")) (.cons (.k (.str "a b")) (.cons (.k (.str "say")) .nil))))))))))))))))))
  (.cons (.frz [2])
  (.cons (.setF 2 (.cat (.v 2) (.lst (.cons (.tup .nil) (.cons (.lst .nil) (.cons (.tup (.cons (.k (.str "say")) (.cons (.tup .nil) (.cons (.k (.str "a")) .nil)))) (.cons (.lst (.cons (.k (.str "say")) (.cons (.lst .nil) (.cons (.k (.str "a")) .nil)))) (.cons (.tup (.cons (.k (.str "drop")) (.cons (.k (.str "k")) .nil))) (.cons (.tup (.cons (.k (.str "has")) (.cons (.k (.str "k")) .nil))) (.cons (.tup (.cons (.k (.str "k")) .nil)) (.cons (.tup (.cons (.k (.str "k")) (.cons (.k (.str "k")) .nil))) .nil)))))))))))
  (.cons (.frz [2])
  (.cons (.setF 2 (.cat (.v 2) (.lst (.cons (.k (.str "has")) (.cons (.dis [] .nil) (.cons (.dis [(.inl 1)] (.cons (.tup (.cons (.k (.int 2)) .nil)) .nil)) (.cons (.k (.str "make")) (.cons (.k (.str "set")) (.cons (.k (.str "let")) .nil)))))))))
  (.cons (.app 2 (.tup (.cons (.k (.str "is")) (.cons (.k (.str "k")) (.cons (.ix (.v 1) (.k (.int 0))) (.cons (.k (.int 0)) (.cons (.tup (.cons (.k (.str "say")) (.cons (.tup .nil) (.cons (.k (.str "a")) .nil)))) (.cons (.tup (.cons (.k (.str "say")) (.cons (.tup .nil) (.cons (.k (.str "b")) .nil)))) .nil))))))))
  (.cons (.app 2 (.tup (.cons (.k (.str "has")) (.cons (.k (.str "k")) (.cons (.tup (.cons (.k (.str "say")) (.cons (.tup .nil) (.cons (.k (.str "a")) .nil)))) (.cons (.tup (.cons (.k (.str "let")) (.cons (.k (.str "x")) (.cons (.k (.str "k")) (.cons (.ix (.v 1) (.k (.int 0))) (.cons (.tup (.cons (.k (.str "say")) (.cons (.tup .nil) (.cons (.k (.str "b")) .nil)))) .nil)))))) .nil))))))
  (.cons (.frz [2])
  (.cons (.ret (.call "_law_of" (.cons (.v 0) (.cons (.bin .add (.v 2) (.bi .list (.v 1))) .nil))))
  .nil)))))))))
def ir_law_bent : ISs := (.cons (.ife (.tor (.cons (.tnot (.isi (.v 1) [.tuple])) (.cons (.cmp .eq (.v 1) (.tup .nil)) (.cons (.cmp .eq (.v 3) (.k (.int 0))) (.cons (.cmp .eq (.call "_law_take" (.cons (.v 0) (.cons (.k (.int 5)) .nil))) (.k (.int 0))) .nil)))))
  (.cons (.ret (.call "_law_odd" (.cons (.v 0) (.cons (.v 2) .nil))))
  .nil)
  .nil)
  (.cons (.par [4, 5] (.cons (.call "_law_take" (.cons (.v 0) (.cons (.bi .len (.v 1)) .nil))) (.cons (.call "_law_take" (.cons (.v 0) (.cons (.k (.int 12)) .nil))) .nil)))
  (.cons (.ife (.cmp .eq (.v 5) (.k (.int 0)))
  (.cons (.ret (.bin .add (.slc (.v 1) false true .bad (.v 4)) (.slc (.v 1) true false (.bin .add (.v 4) (.k (.int 1))) .bad)))
  .nil)
  .nil)
  (.cons (.ife (.cmp .eq (.v 5) (.k (.int 1)))
  (.cons (.ret (.bin .add (.bin .add (.slc (.v 1) false true .bad (.v 4)) (.tup (.cons (.ix (.v 1) (.v 4)) .nil))) (.slc (.v 1) true false (.v 4) .bad)))
  .nil)
  .nil)
  (.cons (.ife (.cmp .eq (.v 5) (.k (.int 2)))
  (.cons (.ret (.bin .add (.bin .add (.slc (.v 1) false true .bad (.v 4)) (.tup (.cons (.call "_law_odd" (.cons (.v 0) (.cons (.v 2) .nil))) .nil))) (.slc (.v 1) true false (.v 4) .bad)))
  .nil)
  .nil)
  (.cons (.ife (.cmp .eq (.v 5) (.k (.int 3)))
  (.cons (.ret (.bin .add (.bin .add (.slc (.v 1) false true .bad (.v 4)) (.rev (.slc (.v 1) true true (.v 4) (.bin .add (.v 4) (.k (.int 2)))))) (.slc (.v 1) true false (.bin .add (.v 4) (.k (.int 2))) .bad)))
  .nil)
  .nil)
  (.cons (.ife (.cmp .eq (.v 5) (.k (.int 4)))
  (.cons (.ret (.bi .list (.v 1)))
  .nil)
  .nil)
  (.cons (.set 6 (.call "_law_bent" (.cons (.v 0) (.cons (.ix (.v 1) (.v 4)) (.cons (.v 2) (.cons (.bin .sub (.v 3) (.k (.int 1))) .nil))))))
  (.cons (.ret (.bin .add (.bin .add (.slc (.v 1) false true .bad (.v 4)) (.tup (.cons (.v 6) .nil))) (.slc (.v 1) true false (.bin .add (.v 4) (.k (.int 1))) .bad)))
  .nil)))))))))
def ir_law_by_hand_right : ISs := (.cons (.par [0, 1] (.cons (.tup (.cons (.k (.str "say")) (.cons (.tup .nil) (.cons (.k (.str "yes")) .nil)))) (.cons (.tup (.cons (.k (.str "say")) (.cons (.tup .nil) (.cons (.k (.str "no")) .nil)))) .nil)))
  (.cons (.par [2, 3, 4] (.cons (.tup (.cons (.k (.str "is")) (.cons (.k (.str "k")) (.cons (.k (.str "f")) (.cons (.k (.int 0)) (.cons (.v 0) (.cons (.v 1) .nil))))))) (.cons (.tup (.cons (.k (.str "k")) .nil)) (.cons (.tup (.cons (.k (.str "k")) (.cons (.k (.str "v")) .nil))) .nil))))
  (.cons (.setF 5 (.lst (.cons (.tup (.cons (.k (.str "a")) (.cons (.tup .nil) (.cons (.v 0) .nil)))) (.cons (.tup (.cons (.k (.str "a")) (.cons (.v 3) (.cons (.tup (.cons (.k (.str "has")) (.cons (.k (.str "k")) (.cons (.v 2) (.cons (.v 1) .nil))))) .nil)))) (.cons (.tup (.cons (.k (.str "a")) (.cons (.tup (.cons (.k (.str "f")) (.cons (.k (.str "k")) .nil))) (.cons (.tup (.cons (.k (.str "has")) (.cons (.k (.str "f")) (.cons (.v 0) (.cons (.v 1) .nil))))) .nil)))) .nil)))))
  (.cons (.app 5 (.tup (.cons (.k (.str "a")) (.cons (.tup .nil) (.cons (.tup (.cons (.k (.str "has")) (.cons (.k (.int 5)) (.cons (.tup (.cons (.k (.str "is")) (.cons (.k (.int 5)) (.cons (.k (.str "f")) (.cons (.k (.int 5)) (.cons (.v 0) (.cons (.v 1) .nil))))))) (.cons (.v 1) .nil))))) .nil)))))
  (.cons (.app 5 (.tup (.cons (.k (.str "has")) (.cons (.tup (.cons (.k (.str "say")) .nil)) (.cons (.tup (.cons (.k (.str "has")) (.cons (.k (.str "say")) (.cons (.v 0) (.cons (.v 1) .nil))))) .nil)))))
  (.cons (.set 6 (.tup (.cons (.k (.str "let")) (.cons (.k (.str "x")) (.cons (.k (.str "k")) (.cons (.k (.str "f")) (.cons (.tup (.cons (.k (.str "has")) (.cons (.k (.str "x")) (.cons (.tup (.cons (.k (.str "is")) (.cons (.k (.str "x")) (.cons (.k (.str "f")) (.cons (.k (.str "k")) (.cons (.v 0) (.cons (.v 1) .nil))))))) (.cons (.v 1) .nil))))) .nil)))))))
  (.cons (.app 5 (.tup (.cons (.k (.str "a")) (.cons (.v 3) (.cons (.tup (.cons (.k (.str "has")) (.cons (.k (.str "k")) (.cons (.v 6) (.cons (.v 1) .nil))))) .nil)))))
  (.cons (.app 5 (.tup (.cons (.k (.str "a")) (.cons (.v 3) (.cons (.tup (.cons (.k (.str "has")) (.cons (.k (.str "k")) (.cons (.tup (.cons (.k (.str "has")) (.cons (.k (.str "k")) (.cons (.v 2) (.cons (.v 2) .nil))))) (.cons (.v 1) .nil))))) .nil)))))
  (.cons (.set 7 (.tup (.cons (.k (.str "let")) (.cons (.k (.str "x")) (.cons (.k (.str "k")) (.cons (.k (.str "f")) (.cons (.v 0) .nil)))))))
  (.cons (.app 5 (.tup (.cons (.k (.str "a")) (.cons (.v 3) (.cons (.tup (.cons (.k (.str "has")) (.cons (.k (.str "k")) (.cons (.tup (.cons (.k (.str "is")) (.cons (.k (.str "k")) (.cons (.k (.str "f")) (.cons (.k (.int 0)) (.cons (.v 7) (.cons (.v 7) .nil))))))) (.cons (.v 1) .nil))))) .nil)))))
  (.cons (.app 5 (.tup (.cons (.k (.str "abcdefgh")) (.cons (.v 3) (.cons (.tup (.cons (.k (.str "say")) (.cons (.tup (.cons (.tup (.cons (.k (.str "make")) (.cons (.k (.str "k")) (.cons (.tup (.cons (.k (.int 0)) .nil)) .nil)))) (.cons (.tup (.cons (.k (.str "set")) (.cons (.k (.str "k")) (.cons (.k (.str "f")) (.cons (.k (.str "k")) .nil))))) (.cons (.tup (.cons (.k (.str "drop")) (.cons (.k (.int 3)) .nil))) .nil)))) (.cons (.k (.str "a")) .nil)))) .nil)))))
  (.cons (.setF 8 (.lst (.cons (.tup (.cons (.k (.str "a")) (.cons (.v 3) (.cons (.v 2) .nil)))) (.cons (.tup (.cons (.k (.str "a")) (.cons (.v 3) (.cons (.tup (.cons (.k (.str "has")) (.cons (.k (.str "k")) (.cons (.v 1) (.cons (.v 2) .nil))))) .nil)))) (.cons (.tup (.cons (.k (.str "a")) (.cons (.tup (.cons (.k (.str "k")) (.cons (.k (.str "k")) .nil))) (.cons (.v 0) .nil)))) .nil)))))
  (.cons (.frz [8])
  (.cons (.setF 8 (.cat (.v 8) (.lst (.cons (.tup (.cons (.k (.str "a")) (.cons (.v 4) (.cons (.tup (.cons (.k (.str "has")) (.cons (.k (.str "v")) (.cons (.v 2) (.cons (.v 1) .nil))))) .nil)))) (.cons (.tup (.cons (.k (.str "a")) (.cons (.tup (.cons (.k (.str "k")) (.cons (.k (.str "v")) (.cons (.k (.str "w")) .nil)))) (.cons (.v 0) .nil)))) (.cons (.tup (.cons (.k (.str "abcdefghi")) (.cons (.tup .nil) (.cons (.v 0) .nil)))) .nil))))))
  (.cons (.frz [8])
  (.cons (.setF 8 (.cat (.v 8) (.lst (.cons (.tup (.cons (.k (.str "a")) (.cons (.v 3) (.cons (.tup (.cons (.k (.str "has")) (.cons (.k (.int 0)) (.cons (.v 2) (.cons (.v 1) .nil))))) .nil)))) (.cons (.tup (.cons (.k (.str "a")) (.cons (.tup .nil) (.cons (.tup (.cons (.k (.str "has")) (.cons (.k (.bl true)) (.cons (.v 0) (.cons (.v 1) .nil))))) .nil)))) (.cons (.tup (.cons (.k (.str "a")) (.cons (.lst .nil) (.cons (.v 0) .nil)))) .nil))))))
  (.cons (.frz [8])
  (.cons (.setF 8 (.cat (.v 8) (.lst (.cons (.lst (.cons (.k (.str "a")) (.cons (.tup .nil) (.cons (.v 0) .nil)))) (.cons (.tup (.cons (.k (.str "a")) (.cons (.v 3) (.cons (.tup (.cons (.k (.str "has")) (.cons (.k (.str "k")) (.cons (.tup (.cons (.k (.str "let")) (.cons (.k (.str "k")) (.cons (.k (.str "k")) (.cons (.k (.str "f")) (.cons (.v 0) .nil)))))) (.cons (.v 1) .nil))))) .nil)))) .nil)))))
  (.cons (.app 8 (.tup (.cons (.k (.str "a")) (.cons (.v 3) (.cons (.tup (.cons (.k (.str "has")) (.cons (.k (.str "k")) (.cons (.tup (.cons (.k (.str "let")) (.cons (.k (.str "x")) (.cons (.k (.str "k")) (.cons (.k (.str "f")) (.cons (.tup (.cons (.k (.str "let")) (.cons (.k (.str "x")) (.cons (.k (.str "k")) (.cons (.k (.str "f")) (.cons (.v 0) .nil)))))) .nil)))))) (.cons (.v 1) .nil))))) .nil)))))
  (.cons (.app 8 (.tup (.cons (.k (.str "a")) (.cons (.v 3) (.cons (.tup (.cons (.k (.str "has")) (.cons (.k (.str "k")) (.cons (.tup (.cons (.k (.str "let")) (.cons (.k (.str "x")) (.cons (.k (.str "k")) (.cons (.k (.str "f")) (.cons (.tup (.cons (.k (.str "is")) (.cons (.k (.str "x")) (.cons (.k (.str "f")) (.cons (.k (.int 0)) (.cons (.v 0) (.cons (.v 1) .nil))))))) .nil)))))) (.cons (.v 1) .nil))))) .nil)))))
  (.cons (.app 8 (.tup (.cons (.k (.str "a")) (.cons (.v 3) (.cons (.tup (.cons (.k (.str "has")) (.cons (.k (.str "k")) (.cons (.tup (.cons (.k (.str "let")) (.cons (.k (.str "x")) (.cons (.k (.str "k")) (.cons (.k (.str "f")) (.cons (.v 0) .nil)))))) (.cons (.tup (.cons (.k (.str "has")) (.cons (.k (.str "x")) (.cons (.v 0) (.cons (.v 1) .nil))))) .nil))))) .nil)))))
  (.cons (.frz [8])
  (.cons (.setF 8 (.cat (.v 8) (.comp (.ex (.tup (.cons (.tup .nil) (.cons (.tup (.cons (.k (.int 0)) (.cons (.k (.int 0)) .nil))) (.cons (.lst (.cons (.k (.int 0)) .nil)) (.cons (.tup (.cons (.k (.str "v")) .nil)) .nil)))))) (.one 10) (.k (.bl true)) (.tup (.cons (.k (.str "a")) (.cons (.v 3) (.cons (.tup (.cons (.k (.str "say")) (.cons (.tup (.cons (.tup (.cons (.k (.str "make")) (.cons (.k (.str "k")) (.cons (.v 10) .nil)))) .nil)) (.cons (.k (.str "a")) .nil)))) .nil)))))))
  (.cons (.app 8 (.tup (.cons (.k (.str "a")) (.cons (.v 3) (.cons (.tup (.cons (.k (.str "say")) (.cons (.tup (.cons (.tup (.cons (.k (.str "drop")) (.cons (.k (.str "v")) .nil))) .nil)) (.cons (.k (.str "a")) .nil)))) .nil)))))
  (.cons (.app 8 (.tup (.cons (.k (.str "a")) (.cons (.v 3) (.cons (.tup (.cons (.k (.str "say")) (.cons (.tup (.cons (.tup (.cons (.k (.str "set")) (.cons (.k (.str "k")) (.cons (.k (.str "g")) (.cons (.k (.int 0)) .nil))))) .nil)) (.cons (.k (.str "a")) .nil)))) .nil)))))
  (.cons (.frz [8])
  (.cons (.setF 8 (.cat (.v 8) (.lst (.cons (.tup (.cons (.k (.str "a")) (.cons (.tup .nil) (.cons (.tup (.cons (.k (.str "say")) (.cons (.tup .nil) (.cons (.k (.str "A")) .nil)))) .nil)))) (.cons (.tup (.cons (.k (.str "a")) (.cons (.tup .nil) (.cons (.tup (.cons (.k (.str "say")) (.cons (.tup .nil) (.cons (.k (.str "")) .nil)))) .nil)))) (.cons (.tup (.cons (.k (.str "a")) (.cons (.tup .nil) (.cons (.tup (.cons (.k (.str "say")) (.cons (.lst .nil) (.cons (.k (.str "a")) .nil)))) .nil)))) .nil))))))
  (.cons (.frz [8])
  (.cons (.setF 8 (.cat (.v 8) (.lst (.cons (.tup (.cons (.k (.str "a")) (.cons (.tup .nil) (.cons (.tup (.cons (.k (.str "stop")) .nil)) .nil)))) (.cons (.tup (.cons (.k (.str "a")) (.cons (.tup .nil) (.cons (.tup .nil) .nil)))) (.cons (.tup (.cons (.k (.str "a")) (.cons (.tup .nil) .nil))) (.cons (.tup (.cons (.k (.str "a")) (.cons (.v 3) (.cons (.tup (.cons (.k (.str "say")) (.cons (.tup (.cons (.tup (.cons (.k (.str "drop")) .nil)) .nil)) (.cons (.k (.str "a")) .nil)))) .nil)))) .nil)))))))
  (.cons (.frz [5])
  (.cons (.set 9 (.comp (.ex (.v 5)) (.one 11) (.k (.bl true)) (.stat "Book" "is_kind" (.cons (.tup (.cons (.k (.str "f")) .nil)) (.cons (.v 11) .nil)))))
  (.cons (.frz [8])
  (.cons (.set 9 (.bin .add (.v 9) (.comp (.ex (.v 8)) (.one 11) (.k (.bl true)) (.statk "Book" "is_kind" ["fields", "thing"] (.cons (.tup (.cons (.k (.str "f")) .nil)) (.cons (.v 11) .nil))))))
  (.cons (.ret (.call "_law_same" (.cons (.v 9) (.cons (.bin .add (.bin .mul (.lst (.cons (.k (.bl true)) .nil)) (.lenO 5)) (.bin .mul (.lst (.cons (.k (.bl false)) .nil)) (.lenO 8))) .nil))))
  .nil))))))))))))))))))))))))))))))))))
def ir_law_right : ISs := (.cons (.ife (.tnot (.call "_law_by_hand_right" .nil))
  (.cons (.ret (.k (.bl false)))
  .nil)
  .nil)
  (.cons (.forr (.rng1 (.k (.int 6))) (.one 1)
  (.cons (.par [2, 3] (.cons (.bi .tuple (.call "_law_names" (.cons (.v 0) (.cons (.bin .add (.k (.int 1)) (.bin .mod (.v 1) (.k (.int 2)))) .nil)))) (.cons (.bin .mul (.lst (.cons (.call "_law_take" (.cons (.v 0) (.cons (.k (.int 9)) .nil))) .nil)) (.bin .fdiv (.v 1) (.k (.int 4)))) .nil)))
  (.cons (.set 4 (.call "_law_kind" (.cons (.v 0) (.cons (.v 2) (.cons (.ix (.call "_law_names" (.cons (.v 0) (.cons (.k (.int 1)) .nil))) (.k (.int 0))) (.cons (.call "_law_names" (.cons (.v 0) (.cons (.k (.int 4)) .nil))) (.cons (.k (.int 1)) (.cons (.k (.int 3)) (.cons (.v 3) .nil)))))))))
  (.cons (.setF 5 (.lst (.cons (.v 4) (.cons (.call "_law_lists" (.cons (.v 4) .nil)) .nil))))
  (.cons (.forr (.rng1 (.k (.int 7))) (.one 6)
  (.cons (.app 5 (.call "_law_bent" (.cons (.v 0) (.cons (.v 4) (.cons (.v 2) (.cons (.k (.int 8)) .nil))))))
  .nil))
  (.cons (.frz [5])
  (.cons (.forr (.ex (.v 5)) (.one 7)
  (.cons (.set 8 (.call "_law_is_kind" (.cons (.v 2) (.cons (.v 7) .nil))))
  (.cons (.set 9 (.lst (.cons (.stat "Book" "is_kind" (.cons (.v 2) (.cons (.v 7) .nil))) (.cons (.stat "Book" "is_kind" (.cons (.bi .list (.v 2)) (.cons (.v 7) .nil))) .nil))))
  (.cons (.ife (.tnot (.call "_law_same" (.cons (.v 9) (.cons (.lst (.cons (.v 8) (.cons (.v 8) .nil))) .nil))))
  (.cons (.ret (.k (.bl false)))
  .nil)
  .nil)
  .nil))))
  .nil)))))))
  (.cons (.ret (.call "_law_same" (.cons (.stat "Book" "is_kind" (.cons (.tup (.cons (.k (.str "a")) (.cons (.k (.str "b")) .nil))) (.cons (.tup (.cons (.k (.str "k")) (.cons (.tup (.cons (.k (.str "a")) .nil)) (.cons (.tup (.cons (.k (.str "say")) (.cons (.tup (.cons (.tup (.cons (.k (.str "make")) (.cons (.k (.str "a")) (.cons (.tup (.cons (.k (.int 1)) (.cons (.k (.int 2)) .nil))) .nil)))) .nil)) (.cons (.k (.str "b")) .nil)))) .nil)))) .nil))) (.cons (.k (.bl true)) .nil))))
  .nil)))
end Dl

set_option Elab.async false
set_option linter.all false
set_option maxRecDepth 100000
set_option maxHeartbeats 4000000
/-! Names, terms, changes, bodies, KINDs: what the package's tests tell, over data. -/
namespace Dl
open PySem PySem.Spec PyProof.Rows L2
def lettersS : Str := "abcdefghijklmnopqrstuvwxyz"
def isNum : D → Bool
  | .int _ => true
  | _ => false
def nameS (z : Str) : Bool := decide (0 < (z.length : Int)) && (decide ((z.length : Int) ≤ 8) && (signs z).all fun d => match d with
  | .str y => inS y lettersS
  | _ => false)
def nameD : D → Bool
  | .str z => nameS z
  | _ => false
def namesD (lo hi : Int) : D → Bool
  | .tup xs => decide (lo ≤ (xs.length : Int)) && (decide ((xs.length : Int) ≤ hi) && (xs.all nameD && match strsD xs with
    | some ys => (unlike ys).length == ys.length
    | none => false))
  | _ => false
def termD (ns : List Str) (d : D) : Bool := isNum d || hasS ns d
def partD (fs ns : List Str) : D → Bool
  | .tup ys => ys.length == fs.length && ys.all (termD ns)
  | _ => false
def changeD (fs ns : List Str) : D → Bool
  | .tup [h, t] => termD ns t && isW "drop" h
  | .tup [h, t, v] => termD ns t && (isW "make" h && partD fs ns v)
  | .tup [h, t, f, v] => termD ns t && (isW "set" h && (hasS fs f && termD ns v))
  | _ => false
def saysD (fs ns : List Str) : D → Bool
  | .tup cs => cs.all (changeD fs ns)
  | _ => false
def newD (ns : List Str) : D → Option Str
  | .str z => if nameS z && !ns.contains z then some z else none
  | _ => none
def bodyD (fs : List Str) : Nat → List Str → List D → D → Bool
  | m + 1, ns, th, .tup (.str w :: r) =>
    if w == "say" then (match r with
      | [c, nm] => nameD nm && saysD fs ns c
      | _ => false)
    else if w == "has" then (match r with
      | [t, a, b] => termD ns t && (bodyD fs m ns (th ++ [t]) a && bodyD fs m ns th b)
      | _ => false)
    else if w == "is" then (match r with
      | [t, f, v, a, b] => termD ns t && (hasA th t && (hasS fs f && (termD ns v && (bodyD fs m ns th a && bodyD fs m ns th b))))
      | _ => false)
    else if w == "let" then (match r with
      | [nm, t, f, b] => (match newD ns nm with
        | some z => termD ns t && (hasA th t && (hasS fs f && bodyD fs m (ns ++ [z]) th b))
        | none => false)
      | _ => false)
    else false
  | _, _, _, _ => false
def parsD : D → Option (List Str)
  | .tup xs => if namesD 0 2 (.tup xs) then strsD xs else none
  | _ => none
def kindD (fs : List Str) (m : Nat) : D → Bool
  | .tup [nm, ps, b] => nameD nm && (match parsD ps with
    | some ns => bodyD fs m ns [] b
    | none => false)
  | _ => false
/-! ### the promises -/
def fsNum : FS := fun ds n Q _ => ∃ d, ds = [d] ∧ d.isBox = false ∧ Q (.bl (isNum d)) n
def fsName : FS := fun ds n Q _ => ∃ d, ds = [d] ∧ d.isBox = false ∧ Q (.bl (nameD d)) n
def fsNames : FS := fun ds n Q _ => ∃ d lo hi m, ds = [d, .int lo, .int hi] ∧ hi ≤ 1000 ∧ d.dp m = true ∧ Q (.bl (namesD lo hi d)) n
def fsTerm : FS := fun ds n Q _ => ∃ d ns, ds = [d, .tup (ns.map .str)] ∧ d.isBox = false ∧ Q (.bl (termD ns d)) n
def fsChange : FS := fun ds n Q _ => ∃ fs d ns m, ds = [.tup (fs.map .str), d, .tup (ns.map .str)] ∧ d.dp m = true ∧ Q (.bl (changeD fs ns d)) n
def fsBody (m : Nat) : FS := fun ds n Q _ => ∃ fs d ns th, ds = [.tup (fs.map .str), d, .tup (ns.map .str), .tup th] ∧ d.dp m = true ∧ th.all D.atom = true ∧ th.length + m ≤ 1000 ∧ ns.length + m ≤ 1000 ∧ Q (.bl (bodyD fs m ns th d)) n
def fsKind (m : Nat) : FS := fun ds n Q _ => ∃ fs d, ds = [.tup (fs.map .str), d] ∧ d.dp (m + 1) = true ∧ Q (.bl (kindD fs m d)) n
section
variable {T : Tab} {n : Nat} {Q : D → Nat → Prop} {E : QX}
theorem b_is_number {ds : List D} (h : fsNum ds n Q E) : wB T ir_is_number (ent0 ["thing"] ds) n (eQ Q E) := by
  obtain ⟨d, rfl, hb, q⟩ := h
  unfold ir_is_number ent0
  simp only [wB, wS, wE, wA, wAnd, wOr, wAndT, wOrT, wP, wI, tru, eQ, exAt_eq, IAs.isNil, List.map_cons, List.map_nil, List.cons_append, List.nil_append, List.getElem?_cons_zero, List.getElem?_cons_succ, List.set_cons_zero, List.set_cons_succ, Bool.false_eq_true, if_false, if_true, if_pos, List.any_cons, List.any_nil, ofO_some, ofO_none, setMany, bindT, D.truth, D.isTy, D.isBox, bi_len_tup, bi_len_list, bi_len_str, bi_tuple_list, bi_tuple_tup, bi_list_list, bi_list_tup, bi_int_int, eq_int, ne_int, lt_int, le_int, gt_int, ge_int, Bool.or_false, Bool.or_true, Bool.false_or, Bool.true_or, Bool.and_true, Bool.true_and, Bool.not_true, Bool.not_false, Bool.and_false, Bool.false_and, Option.map_some, reduceCtorEq, and_true, true_and, and_self]
  cases d <;> simp_all [D.isTy, D.truth, isNum, D.isBox]
theorem b_is_name {ds : List D} (g1 : T.gv "LONGEST" = some (.int 8)) (g2 : T.gv "LETTERS" = some (.str lettersS)) (h : fsName ds n Q E) : wB T ir_is_name (ent0 ["thing", "sign"] ds) n (eQ Q E) := by
  obtain ⟨d, rfl, hb, q⟩ := h
  unfold ir_is_name ent0
  simp only [wB, wS, wE, wA, wAnd, wOr, wAndT, wOrT, wP, wI, tru, eQ, exAt_eq, IAs.isNil, List.map_cons, List.map_nil, List.cons_append, List.nil_append, List.getElem?_cons_zero, List.getElem?_cons_succ, List.set_cons_zero, List.set_cons_succ, Bool.false_eq_true, if_false, if_true, if_pos, List.any_cons, List.any_nil, ofO_some, ofO_none, setMany, bindT, D.truth, D.isTy, D.isBox, bi_len_tup, bi_len_list, bi_len_str, bi_tuple_list, bi_tuple_tup, bi_list_list, bi_list_tup, bi_int_int, eq_int, ne_int, lt_int, le_int, gt_int, ge_int, Bool.or_false, Bool.or_true, Bool.false_or, Bool.true_or, Bool.and_true, Bool.true_and, Bool.not_true, Bool.not_false, Bool.and_false, Bool.false_and, Option.map_some, reduceCtorEq, and_true, true_and, and_self, g1, g2, List.length_cons, List.length_nil, List.replicate]
  refine ⟨hb, ?_⟩
  cases d with
  | str z =>
    simp only [wB, wS, wE, wA, wAnd, wOr, wAndT, wOrT, wP, wI, tru, eQ, exAt_eq, IAs.isNil, List.map_cons, List.map_nil, List.cons_append, List.nil_append, List.getElem?_cons_zero, List.getElem?_cons_succ, List.set_cons_zero, List.set_cons_succ, Bool.false_eq_true, if_false, if_true, if_pos, List.any_cons, List.any_nil, ofO_some, ofO_none, setMany, bindT, D.truth, D.isTy, D.isBox, bi_len_tup, bi_len_list, bi_len_str, bi_tuple_list, bi_tuple_tup, bi_list_list, bi_list_tup, bi_int_int, eq_int, ne_int, lt_int, le_int, gt_int, ge_int, Bool.or_false, Bool.or_true, Bool.false_or, Bool.true_or, Bool.and_true, Bool.true_and, Bool.not_true, Bool.not_false, Bool.and_false, Bool.false_and, Option.map_some, reduceCtorEq, and_true, true_and, and_self, bi_len_str, lt_int, le_int, itemsD]
    by_cases h1 : 0 < (z.length : Int)
    · rw [decide_eq_true h1]
      simp only [if_true, ofO_some]
      by_cases h2 : (z.length : Int) ≤ 8
      · rw [decide_eq_true h2]
        simp only [if_true, ofO_some]
        refine all_comp (f := fun d => match d with
          | .str y => inS y lettersS
          | _ => false) (fun d hd n k hk => ?_) ?_
        · obtain ⟨c, _, rfl⟩ := List.mem_map.mp hd
          exact hk
        · rw [nameD, nameS, decide_eq_true h1, decide_eq_true h2, Bool.true_and, Bool.true_and] at q
          exact q
      · rw [decide_eq_false h2]
        rw [nameD, nameS, decide_eq_true h1, decide_eq_false h2, Bool.true_and, Bool.false_and] at q
        exact q
    · rw [decide_eq_false h1]
      rw [nameD, nameS, decide_eq_false h1, Bool.false_and] at q
      exact q
  | _ => simpa [nameD] using q
theorem strs_names : ∀ {xs : List D}, xs.all nameD = true → ∃ ys, strsD xs = some ys ∧ xs = ys.map .str
  | [], _ => ⟨[], rfl, rfl⟩
  | x :: xs, h => by
    rw [List.all_cons, Bool.and_eq_true] at h
    obtain ⟨ys, e1, e2⟩ := strs_names h.2
    cases x with
    | str z => exact ⟨z :: ys, by rw [strsD, e1]; rfl, by rw [e2]; rfl⟩
    | _ => exact nomatch h.1
theorem b_are_names {ds : List D} (f1 : T.fs "is_name" = some fsName) (h : fsNames ds n Q E) : wB T ir_are_names (ent0 ["thing", "least", "most", "name"] ds) n (eQ Q E) := by
  obtain ⟨d, lo, hi, m, rfl, hh, hd, q⟩ := h
  unfold ir_are_names ent0
  simp only [wB, wS, wE, wA, wAnd, wOr, wAndT, wOrT, wP, wI, tru, eQ, exAt_eq, IAs.isNil, List.map_cons, List.map_nil, List.cons_append, List.nil_append, List.getElem?_cons_zero, List.getElem?_cons_succ, List.set_cons_zero, List.set_cons_succ, Bool.false_eq_true, if_false, if_true, if_pos, List.any_cons, List.any_nil, ofO_some, ofO_none, setMany, bindT, D.truth, D.isTy, D.isBox, bi_len_tup, bi_len_list, bi_len_str, bi_tuple_list, bi_tuple_tup, bi_list_list, bi_list_tup, bi_int_int, eq_int, ne_int, lt_int, le_int, gt_int, ge_int, Bool.or_false, Bool.or_true, Bool.false_or, Bool.true_or, Bool.and_true, Bool.true_and, Bool.not_true, Bool.not_false, Bool.and_false, Bool.false_and, Option.map_some, reduceCtorEq, and_true, true_and, and_self, f1, List.length_cons, List.length_nil, List.replicate]
  refine ⟨dp_nb hd, ?_⟩
  cases d with
  | tup xs =>
    obtain ⟨j, rfl, hx⟩ := dp_tup hd
    simp only [wB, wS, wE, wA, wAnd, wOr, wAndT, wOrT, wP, wI, tru, eQ, exAt_eq, IAs.isNil, List.map_cons, List.map_nil, List.cons_append, List.nil_append, List.getElem?_cons_zero, List.getElem?_cons_succ, List.set_cons_zero, List.set_cons_succ, Bool.false_eq_true, if_false, if_true, if_pos, List.any_cons, List.any_nil, ofO_some, ofO_none, setMany, bindT, D.truth, D.isTy, D.isBox, bi_len_tup, bi_len_list, bi_len_str, bi_tuple_list, bi_tuple_tup, bi_list_list, bi_list_tup, bi_int_int, eq_int, ne_int, lt_int, le_int, gt_int, ge_int, Bool.or_false, Bool.or_true, Bool.false_or, Bool.true_or, Bool.and_true, Bool.true_and, Bool.not_true, Bool.not_false, Bool.and_false, Bool.false_and, Option.map_some, reduceCtorEq, and_true, true_and, and_self, bi_len_tup, lt_int, le_int, itemsD]
    by_cases h1 : lo ≤ (xs.length : Int)
    · rw [decide_eq_true h1]
      simp only [wB, wS, wE, wA, wAnd, wOr, wAndT, wOrT, wP, wI, tru, eQ, exAt_eq, IAs.isNil, List.map_cons, List.map_nil, List.cons_append, List.nil_append, List.getElem?_cons_zero, List.getElem?_cons_succ, List.set_cons_zero, List.set_cons_succ, Bool.false_eq_true, if_false, if_true, if_pos, List.any_cons, List.any_nil, ofO_some, ofO_none, setMany, bindT, D.truth, D.isTy, D.isBox, bi_len_tup, bi_len_list, bi_len_str, bi_tuple_list, bi_tuple_tup, bi_list_list, bi_list_tup, bi_int_int, eq_int, ne_int, lt_int, le_int, gt_int, ge_int, Bool.or_false, Bool.or_true, Bool.false_or, Bool.true_or, Bool.and_true, Bool.true_and, Bool.not_true, Bool.not_false, Bool.and_false, Bool.false_and, Option.map_some, reduceCtorEq, and_true, true_and, and_self]
      by_cases h2 : (xs.length : Int) ≤ hi
      · rw [decide_eq_true h2]
        simp only [wB, wS, wE, wA, wAnd, wOr, wAndT, wOrT, wP, wI, tru, eQ, exAt_eq, IAs.isNil, List.map_cons, List.map_nil, List.cons_append, List.nil_append, List.getElem?_cons_zero, List.getElem?_cons_succ, List.set_cons_zero, List.set_cons_succ, Bool.false_eq_true, if_false, if_true, if_pos, List.any_cons, List.any_nil, ofO_some, ofO_none, setMany, bindT, D.truth, D.isTy, D.isBox, bi_len_tup, bi_len_list, bi_len_str, bi_tuple_list, bi_tuple_tup, bi_list_list, bi_list_tup, bi_int_int, eq_int, ne_int, lt_int, le_int, gt_int, ge_int, Bool.or_false, Bool.or_true, Bool.false_or, Bool.true_or, Bool.and_true, Bool.true_and, Bool.not_true, Bool.not_false, Bool.and_false, Bool.false_and, Option.map_some, reduceCtorEq, and_true, true_and, and_self]
        refine all_comp (f := nameD) (Q := fun z n => _) (fun d hd n k hk => ⟨d, rfl, dp_nb (hx d hd), hk⟩) ?_
        cases h3 : xs.all nameD with
        | true =>
          obtain ⟨ys, e1, e2⟩ := strs_names h3
          have l1 : ys.length = xs.length := by rw [e2, List.length_map]
          simp only [wB, wS, wE, wA, wAnd, wOr, wAndT, wOrT, wP, wI, tru, eQ, exAt_eq, IAs.isNil, List.map_cons, List.map_nil, List.cons_append, List.nil_append, List.getElem?_cons_zero, List.getElem?_cons_succ, List.set_cons_zero, List.set_cons_succ, Bool.false_eq_true, if_false, if_true, if_pos, List.any_cons, List.any_nil, ofO_some, ofO_none, setMany, bindT, D.truth, D.isTy, D.isBox, bi_len_tup, bi_len_list, bi_len_str, bi_tuple_list, bi_tuple_tup, bi_list_list, bi_list_tup, bi_int_int, eq_int, ne_int, lt_int, le_int, gt_int, ge_int, Bool.or_false, Bool.or_true, Bool.false_or, Bool.true_or, Bool.and_true, Bool.true_and, Bool.not_true, Bool.not_false, Bool.and_false, Bool.false_and, Option.map_some, reduceCtorEq, and_true, true_and, and_self, e1]
          refine ⟨by omega, ?_⟩
          rw [namesD, decide_eq_true h1, decide_eq_true h2, h3, e1, Bool.true_and, Bool.true_and, Bool.true_and] at q
          have e3 : ((((unlike ys).length : Nat) : Int) == ((xs.length : Nat) : Int)) = ((unlike ys).length == ys.length) := by
            rw [l1, Bool.eq_iff_iff, beq_iff_eq, beq_iff_eq]
            omega
          rw [e3]
          exact q
        | false =>
          simp only [wB, wS, wE, wA, wAnd, wOr, wAndT, wOrT, wP, wI, tru, eQ, exAt_eq, IAs.isNil, List.map_cons, List.map_nil, List.cons_append, List.nil_append, List.getElem?_cons_zero, List.getElem?_cons_succ, List.set_cons_zero, List.set_cons_succ, Bool.false_eq_true, if_false, if_true, if_pos, List.any_cons, List.any_nil, ofO_some, ofO_none, setMany, bindT, D.truth, D.isTy, D.isBox, bi_len_tup, bi_len_list, bi_len_str, bi_tuple_list, bi_tuple_tup, bi_list_list, bi_list_tup, bi_int_int, eq_int, ne_int, lt_int, le_int, gt_int, ge_int, Bool.or_false, Bool.or_true, Bool.false_or, Bool.true_or, Bool.and_true, Bool.true_and, Bool.not_true, Bool.not_false, Bool.and_false, Bool.false_and, Option.map_some, reduceCtorEq, and_true, true_and, and_self]
          rw [namesD, h3, Bool.false_and, Bool.and_false, Bool.and_false] at q
          exact q
      · rw [decide_eq_false h2]
        simp only [wB, wS, wE, wA, wAnd, wOr, wAndT, wOrT, wP, wI, tru, eQ, exAt_eq, IAs.isNil, List.map_cons, List.map_nil, List.cons_append, List.nil_append, List.getElem?_cons_zero, List.getElem?_cons_succ, List.set_cons_zero, List.set_cons_succ, Bool.false_eq_true, if_false, if_true, if_pos, List.any_cons, List.any_nil, ofO_some, ofO_none, setMany, bindT, D.truth, D.isTy, D.isBox, bi_len_tup, bi_len_list, bi_len_str, bi_tuple_list, bi_tuple_tup, bi_list_list, bi_list_tup, bi_int_int, eq_int, ne_int, lt_int, le_int, gt_int, ge_int, Bool.or_false, Bool.or_true, Bool.false_or, Bool.true_or, Bool.and_true, Bool.true_and, Bool.not_true, Bool.not_false, Bool.and_false, Bool.false_and, Option.map_some, reduceCtorEq, and_true, true_and, and_self]
        rw [namesD, decide_eq_false h2, Bool.false_and, Bool.and_false] at q
        exact q
    · rw [decide_eq_false h1]
      simp only [wB, wS, wE, wA, wAnd, wOr, wAndT, wOrT, wP, wI, tru, eQ, exAt_eq, IAs.isNil, List.map_cons, List.map_nil, List.cons_append, List.nil_append, List.getElem?_cons_zero, List.getElem?_cons_succ, List.set_cons_zero, List.set_cons_succ, Bool.false_eq_true, if_false, if_true, if_pos, List.any_cons, List.any_nil, ofO_some, ofO_none, setMany, bindT, D.truth, D.isTy, D.isBox, bi_len_tup, bi_len_list, bi_len_str, bi_tuple_list, bi_tuple_tup, bi_list_list, bi_list_tup, bi_int_int, eq_int, ne_int, lt_int, le_int, gt_int, ge_int, Bool.or_false, Bool.or_true, Bool.false_or, Bool.true_or, Bool.and_true, Bool.true_and, Bool.not_true, Bool.not_false, Bool.and_false, Bool.false_and, Option.map_some, reduceCtorEq, and_true, true_and, and_self]
      rw [namesD, decide_eq_false h1, Bool.false_and] at q
      exact q
  | _ =>
    simp only [wB, wS, wE, wA, wAnd, wOr, wAndT, wOrT, wP, wI, tru, eQ, exAt_eq, IAs.isNil, List.map_cons, List.map_nil, List.cons_append, List.nil_append, List.getElem?_cons_zero, List.getElem?_cons_succ, List.set_cons_zero, List.set_cons_succ, Bool.false_eq_true, if_false, if_true, if_pos, List.any_cons, List.any_nil, ofO_some, ofO_none, setMany, bindT, D.truth, D.isTy, D.isBox, bi_len_tup, bi_len_list, bi_len_str, bi_tuple_list, bi_tuple_tup, bi_list_list, bi_list_tup, bi_int_int, eq_int, ne_int, lt_int, le_int, gt_int, ge_int, Bool.or_false, Bool.or_true, Bool.false_or, Bool.true_or, Bool.and_true, Bool.true_and, Bool.not_true, Bool.not_false, Bool.and_false, Bool.false_and, Option.map_some, reduceCtorEq, and_true, true_and, and_self]
    exact q
theorem b_is_term {ds : List D} (f1 : T.fs "is_number" = some fsNum) (h : fsTerm ds n Q E) : wB T ir_is_term (ent0 ["thing", "names"] ds) n (eQ Q E) := by
  obtain ⟨d, ns, rfl, hb, q⟩ := h
  unfold ir_is_term ent0
  simp only [wB, wS, wE, wA, wAnd, wOr, wAndT, wOrT, wP, wI, tru, eQ, exAt_eq, IAs.isNil, List.map_cons, List.map_nil, List.cons_append, List.nil_append, List.getElem?_cons_zero, List.getElem?_cons_succ, List.set_cons_zero, List.set_cons_succ, Bool.false_eq_true, if_false, if_true, if_pos, List.any_cons, List.any_nil, ofO_some, ofO_none, setMany, bindT, D.truth, D.isTy, D.isBox, bi_len_tup, bi_len_list, bi_len_str, bi_tuple_list, bi_tuple_tup, bi_list_list, bi_list_tup, bi_int_int, eq_int, ne_int, lt_int, le_int, gt_int, ge_int, Bool.or_false, Bool.or_true, Bool.false_or, Bool.true_or, Bool.and_true, Bool.true_and, Bool.not_true, Bool.not_false, Bool.and_false, Bool.false_and, Option.map_some, reduceCtorEq, and_true, true_and, and_self, f1, List.length_cons, List.length_nil, List.replicate]
  refine ⟨d, rfl, hb, ?_⟩
  cases d with
  | str z =>
    simp only [isNum, wB, wS, wE, wA, wAnd, wOr, wAndT, wOrT, wP, wI, tru, eQ, exAt_eq, IAs.isNil, List.map_cons, List.map_nil, List.cons_append, List.nil_append, List.getElem?_cons_zero, List.getElem?_cons_succ, List.set_cons_zero, List.set_cons_succ, Bool.false_eq_true, if_false, if_true, if_pos, List.any_cons, List.any_nil, ofO_some, ofO_none, setMany, bindT, D.truth, D.isTy, D.isBox, bi_len_tup, bi_len_list, bi_len_str, bi_tuple_list, bi_tuple_tup, bi_list_list, bi_list_tup, bi_int_int, eq_int, ne_int, lt_int, le_int, gt_int, ge_int, Bool.or_false, Bool.or_true, Bool.false_or, Bool.true_or, Bool.and_true, Bool.true_and, Bool.not_true, Bool.not_false, Bool.and_false, Bool.false_and, Option.map_some, reduceCtorEq, and_true, true_and, and_self]
    rw [in_strs_tup (x := .str z) rfl]
    exact q
  | int i => exact q
  | box => cases hb
  | _ => simp only [isNum, wB, wS, wE, wA, wAnd, wOr, wAndT, wOrT, wP, wI, tru, eQ, exAt_eq, IAs.isNil, List.map_cons, List.map_nil, List.cons_append, List.nil_append, List.getElem?_cons_zero, List.getElem?_cons_succ, List.set_cons_zero, List.set_cons_succ, Bool.false_eq_true, if_false, if_true, if_pos, List.any_cons, List.any_nil, ofO_some, ofO_none, setMany, bindT, D.truth, D.isTy, D.isBox, bi_len_tup, bi_len_list, bi_len_str, bi_tuple_list, bi_tuple_tup, bi_list_list, bi_list_tup, bi_int_int, eq_int, ne_int, lt_int, le_int, gt_int, ge_int, Bool.or_false, Bool.or_true, Bool.false_or, Bool.true_or, Bool.and_true, Bool.true_and, Bool.not_true, Bool.not_false, Bool.and_false, Bool.false_and, Option.map_some, reduceCtorEq, and_true, true_and, and_self]; exact q
theorem b_is_change {ds : List D} (f1 : T.fs "is_term" = some fsTerm) (h : fsChange ds n Q E) : wB T ir_is_change (ent0 ["fields", "thing", "names", "value"] ds) n (eQ Q E) := by
  obtain ⟨fs, d, ns, m, rfl, hd, q⟩ := h
  unfold ir_is_change ent0
  simp only [wB, wS, wE, wA, wAnd, wOr, wAndT, wOrT, wP, wI, tru, eQ, exAt_eq, IAs.isNil, List.map_cons, List.map_nil, List.cons_append, List.nil_append, List.getElem?_cons_zero, List.getElem?_cons_succ, List.set_cons_zero, List.set_cons_succ, Bool.false_eq_true, if_false, if_true, if_pos, List.any_cons, List.any_nil, ofO_some, ofO_none, setMany, bindT, D.truth, D.isTy, D.isBox, bi_len_tup, bi_len_list, bi_len_str, bi_tuple_list, bi_tuple_tup, bi_list_list, bi_list_tup, bi_int_int, eq_int, ne_int, lt_int, le_int, gt_int, ge_int, Bool.or_false, Bool.or_true, Bool.false_or, Bool.true_or, Bool.and_true, Bool.true_and, Bool.not_true, Bool.not_false, Bool.and_false, Bool.false_and, Option.map_some, reduceCtorEq, and_true, true_and, and_self, f1, List.length_cons, List.length_nil, List.replicate]
  refine ⟨dp_nb hd, ?_⟩
  cases d with
  | tup xs =>
    obtain ⟨j, rfl, hx⟩ := dp_tup hd
    simp only [wB, wS, wE, wA, wAnd, wOr, wAndT, wOrT, wP, wI, tru, eQ, exAt_eq, IAs.isNil, List.map_cons, List.map_nil, List.cons_append, List.nil_append, List.getElem?_cons_zero, List.getElem?_cons_succ, List.set_cons_zero, List.set_cons_succ, Bool.false_eq_true, if_false, if_true, if_pos, List.any_cons, List.any_nil, ofO_some, ofO_none, setMany, bindT, D.truth, D.isTy, D.isBox, bi_len_tup, bi_len_list, bi_len_str, bi_tuple_list, bi_tuple_tup, bi_list_list, bi_list_tup, bi_int_int, eq_int, ne_int, lt_int, le_int, gt_int, ge_int, Bool.or_false, Bool.or_true, Bool.false_or, Bool.true_or, Bool.and_true, Bool.true_and, Bool.not_true, Bool.not_false, Bool.and_false, Bool.false_and, Option.map_some, reduceCtorEq, and_true, true_and, and_self]
    match xs, hx, q with
    | [], _, q => exact q
    | [a], _, q => exact q
    | a :: t :: r, hx, q =>
      have na : a.isBox = false := dp_nb (hx a (by simp))
      have nt : t.isBox = false := dp_nb (hx t (by simp))
      have l2 : decide (((a :: t :: r).length : Int) < 2) = false := by
        rw [decide_eq_false_iff_not]
        simp only [List.length_cons]
        omega
      rw [l2]
      simp only [wB, wS, wE, wA, wAnd, wOr, wAndT, wOrT, wP, wI, tru, eQ, exAt_eq, IAs.isNil, List.map_cons, List.map_nil, List.cons_append, List.nil_append, List.getElem?_cons_zero, List.getElem?_cons_succ, List.set_cons_zero, List.set_cons_succ, Bool.false_eq_true, if_false, if_true, if_pos, List.any_cons, List.any_nil, ofO_some, ofO_none, setMany, bindT, D.truth, D.isTy, D.isBox, bi_len_tup, bi_len_list, bi_len_str, bi_tuple_list, bi_tuple_tup, bi_list_list, bi_list_tup, bi_int_int, eq_int, ne_int, lt_int, le_int, gt_int, ge_int, Bool.or_false, Bool.or_true, Bool.false_or, Bool.true_or, Bool.and_true, Bool.true_and, Bool.not_true, Bool.not_false, Bool.and_false, Bool.false_and, Option.map_some, reduceCtorEq, and_true, true_and, and_self, ix0, ix1, eq_w na, ne_w na]
      refine ⟨t, ns, rfl, nt, ?_⟩
      cases ht : termD ns t with
      | false =>
        simp only [wB, wS, wE, wA, wAnd, wOr, wAndT, wOrT, wP, wI, tru, eQ, exAt_eq, IAs.isNil, List.map_cons, List.map_nil, List.cons_append, List.nil_append, List.getElem?_cons_zero, List.getElem?_cons_succ, List.set_cons_zero, List.set_cons_succ, Bool.false_eq_true, if_false, if_true, if_pos, List.any_cons, List.any_nil, ofO_some, ofO_none, setMany, bindT, D.truth, D.isTy, D.isBox, bi_len_tup, bi_len_list, bi_len_str, bi_tuple_list, bi_tuple_tup, bi_list_list, bi_list_tup, bi_int_int, eq_int, ne_int, lt_int, le_int, gt_int, ge_int, Bool.or_false, Bool.or_true, Bool.false_or, Bool.true_or, Bool.and_true, Bool.true_and, Bool.not_true, Bool.not_false, Bool.and_false, Bool.false_and, Option.map_some, reduceCtorEq, and_true, true_and, and_self]
        have e : changeD fs ns (.tup (a :: t :: r)) = false := by
          match r with
          | [] => simp [changeD, ht]
          | [_] => simp [changeD, ht]
          | [_, _] => simp [changeD, ht]
          | _ :: _ :: _ :: _ => rfl
        rw [e] at q
        exact q
      | true =>
        simp only [wB, wS, wE, wA, wAnd, wOr, wAndT, wOrT, wP, wI, tru, eQ, exAt_eq, IAs.isNil, List.map_cons, List.map_nil, List.cons_append, List.nil_append, List.getElem?_cons_zero, List.getElem?_cons_succ, List.set_cons_zero, List.set_cons_succ, Bool.false_eq_true, if_false, if_true, if_pos, List.any_cons, List.any_nil, ofO_some, ofO_none, setMany, bindT, D.truth, D.isTy, D.isBox, bi_len_tup, bi_len_list, bi_len_str, bi_tuple_list, bi_tuple_tup, bi_list_list, bi_list_tup, bi_int_int, eq_int, ne_int, lt_int, le_int, gt_int, ge_int, Bool.or_false, Bool.or_true, Bool.false_or, Bool.true_or, Bool.and_true, Bool.true_and, Bool.not_true, Bool.not_false, Bool.and_false, Bool.false_and, Option.map_some, reduceCtorEq, and_true, true_and, and_self]
        cases h1 : isW "drop" a with
        | true =>
          cases isW_of h1
          simp only [wB, wS, wE, wA, wAnd, wOr, wAndT, wOrT, wP, wI, tru, eQ, exAt_eq, IAs.isNil, List.map_cons, List.map_nil, List.cons_append, List.nil_append, List.getElem?_cons_zero, List.getElem?_cons_succ, List.set_cons_zero, List.set_cons_succ, Bool.false_eq_true, if_false, if_true, if_pos, List.any_cons, List.any_nil, ofO_some, ofO_none, setMany, bindT, D.truth, D.isTy, D.isBox, bi_len_tup, bi_len_list, bi_len_str, bi_tuple_list, bi_tuple_tup, bi_list_list, bi_list_tup, bi_int_int, eq_int, ne_int, lt_int, le_int, gt_int, ge_int, Bool.or_false, Bool.or_true, Bool.false_or, Bool.true_or, Bool.and_true, Bool.true_and, Bool.not_true, Bool.not_false, Bool.and_false, Bool.false_and, Option.map_some, reduceCtorEq, and_true, true_and, and_self]
          match r, q with
          | [], q =>
            rw [changeD, ht, h1] at q
            exact q
          | [v], q => exact (by rw [changeD, ht] at q; exact q)
          | [f, v], q => exact (by rw [changeD, ht] at q; exact q)
          | x1 :: x2 :: x3 :: r, q =>
            have e : (((D.str "drop" :: t :: x1 :: x2 :: x3 :: r).length : Int) == 2) = false := by
              rw [beq_eq_false_iff_ne]
              simp only [List.length_cons]
              omega
            rw [e]
            exact q
        | false =>
          simp only [wB, wS, wE, wA, wAnd, wOr, wAndT, wOrT, wP, wI, tru, eQ, exAt_eq, IAs.isNil, List.map_cons, List.map_nil, List.cons_append, List.nil_append, List.getElem?_cons_zero, List.getElem?_cons_succ, List.set_cons_zero, List.set_cons_succ, Bool.false_eq_true, if_false, if_true, if_pos, List.any_cons, List.any_nil, ofO_some, ofO_none, setMany, bindT, D.truth, D.isTy, D.isBox, bi_len_tup, bi_len_list, bi_len_str, bi_tuple_list, bi_tuple_tup, bi_list_list, bi_list_tup, bi_int_int, eq_int, ne_int, lt_int, le_int, gt_int, ge_int, Bool.or_false, Bool.or_true, Bool.false_or, Bool.true_or, Bool.and_true, Bool.true_and, Bool.not_true, Bool.not_false, Bool.and_false, Bool.false_and, Option.map_some, reduceCtorEq, and_true, true_and, and_self]
          cases h2 : isW "set" a with
          | true =>
            cases isW_of h2
            simp only [wB, wS, wE, wA, wAnd, wOr, wAndT, wOrT, wP, wI, tru, eQ, exAt_eq, IAs.isNil, List.map_cons, List.map_nil, List.cons_append, List.nil_append, List.getElem?_cons_zero, List.getElem?_cons_succ, List.set_cons_zero, List.set_cons_succ, Bool.false_eq_true, if_false, if_true, if_pos, List.any_cons, List.any_nil, ofO_some, ofO_none, setMany, bindT, D.truth, D.isTy, D.isBox, bi_len_tup, bi_len_list, bi_len_str, bi_tuple_list, bi_tuple_tup, bi_list_list, bi_list_tup, bi_int_int, eq_int, ne_int, lt_int, le_int, gt_int, ge_int, Bool.or_false, Bool.or_true, Bool.false_or, Bool.true_or, Bool.and_true, Bool.true_and, Bool.not_true, Bool.not_false, Bool.and_false, Bool.false_and, Option.map_some, reduceCtorEq, and_true, true_and, and_self]
            match r, hx, q with
            | [], _, q => exact (by rw [changeD, ht] at q; exact q)
            | [v], _, q => exact (by rw [changeD, ht] at q; exact q)
            | [f, v], hx, q =>
              have nf : f.isBox = false := dp_nb (hx f (by simp))
              have nv : v.isBox = false := dp_nb (hx v (by simp))
              rw [changeD, ht, h2, Bool.true_and, Bool.true_and] at q
              simp only [wB, wS, wE, wA, wAnd, wOr, wAndT, wOrT, wP, wI, tru, eQ, exAt_eq, IAs.isNil, List.map_cons, List.map_nil, List.cons_append, List.nil_append, List.getElem?_cons_zero, List.getElem?_cons_succ, List.set_cons_zero, List.set_cons_succ, Bool.false_eq_true, if_false, if_true, if_pos, List.any_cons, List.any_nil, ofO_some, ofO_none, setMany, bindT, D.truth, D.isTy, D.isBox, bi_len_tup, bi_len_list, bi_len_str, bi_tuple_list, bi_tuple_tup, bi_list_list, bi_list_tup, bi_int_int, eq_int, ne_int, lt_int, le_int, gt_int, ge_int, Bool.or_false, Bool.or_true, Bool.false_or, Bool.true_or, Bool.and_true, Bool.true_and, Bool.not_true, Bool.not_false, Bool.and_false, Bool.false_and, Option.map_some, reduceCtorEq, and_true, true_and, and_self, ix2, ix3, in_strs_tup nf]
              rw [if_pos (show ((([D.str "set", t, f, v] : List D).length : Int) == 4) = true from rfl)]
              cases h3 : hasS fs f with
              | true =>
                rw [h3] at q
                simp only [wB, wS, wE, wA, wAnd, wOr, wAndT, wOrT, wP, wI, tru, eQ, exAt_eq, IAs.isNil, List.map_cons, List.map_nil, List.cons_append, List.nil_append, List.getElem?_cons_zero, List.getElem?_cons_succ, List.set_cons_zero, List.set_cons_succ, Bool.false_eq_true, if_false, if_true, if_pos, List.any_cons, List.any_nil, ofO_some, ofO_none, setMany, bindT, D.truth, D.isTy, D.isBox, bi_len_tup, bi_len_list, bi_len_str, bi_tuple_list, bi_tuple_tup, bi_list_list, bi_list_tup, bi_int_int, eq_int, ne_int, lt_int, le_int, gt_int, ge_int, Bool.or_false, Bool.or_true, Bool.false_or, Bool.true_or, Bool.and_true, Bool.true_and, Bool.not_true, Bool.not_false, Bool.and_false, Bool.false_and, Option.map_some, reduceCtorEq, and_true, true_and, and_self]
                exact ⟨v, ns, rfl, nv, q⟩
              | false =>
                rw [h3] at q
                simp only [wB, wS, wE, wA, wAnd, wOr, wAndT, wOrT, wP, wI, tru, eQ, exAt_eq, IAs.isNil, List.map_cons, List.map_nil, List.cons_append, List.nil_append, List.getElem?_cons_zero, List.getElem?_cons_succ, List.set_cons_zero, List.set_cons_succ, Bool.false_eq_true, if_false, if_true, if_pos, List.any_cons, List.any_nil, ofO_some, ofO_none, setMany, bindT, D.truth, D.isTy, D.isBox, bi_len_tup, bi_len_list, bi_len_str, bi_tuple_list, bi_tuple_tup, bi_list_list, bi_list_tup, bi_int_int, eq_int, ne_int, lt_int, le_int, gt_int, ge_int, Bool.or_false, Bool.or_true, Bool.false_or, Bool.true_or, Bool.and_true, Bool.true_and, Bool.not_true, Bool.not_false, Bool.and_false, Bool.false_and, Option.map_some, reduceCtorEq, and_true, true_and, and_self]
                exact q
            | x1 :: x2 :: x3 :: r, _, q =>
              have e : (((D.str "set" :: t :: x1 :: x2 :: x3 :: r).length : Int) == 4) = false := by
                rw [beq_eq_false_iff_ne]
                simp only [List.length_cons]
                omega
              rw [e]
              exact q
          | false =>
            simp only [wB, wS, wE, wA, wAnd, wOr, wAndT, wOrT, wP, wI, tru, eQ, exAt_eq, IAs.isNil, List.map_cons, List.map_nil, List.cons_append, List.nil_append, List.getElem?_cons_zero, List.getElem?_cons_succ, List.set_cons_zero, List.set_cons_succ, Bool.false_eq_true, if_false, if_true, if_pos, List.any_cons, List.any_nil, ofO_some, ofO_none, setMany, bindT, D.truth, D.isTy, D.isBox, bi_len_tup, bi_len_list, bi_len_str, bi_tuple_list, bi_tuple_tup, bi_list_list, bi_list_tup, bi_int_int, eq_int, ne_int, lt_int, le_int, gt_int, ge_int, Bool.or_false, Bool.or_true, Bool.false_or, Bool.true_or, Bool.and_true, Bool.true_and, Bool.not_true, Bool.not_false, Bool.and_false, Bool.false_and, Option.map_some, reduceCtorEq, and_true, true_and, and_self]
            cases h3 : isW "make" a with
            | false =>
              simp only [wB, wS, wE, wA, wAnd, wOr, wAndT, wOrT, wP, wI, tru, eQ, exAt_eq, IAs.isNil, List.map_cons, List.map_nil, List.cons_append, List.nil_append, List.getElem?_cons_zero, List.getElem?_cons_succ, List.set_cons_zero, List.set_cons_succ, Bool.false_eq_true, if_false, if_true, if_pos, List.any_cons, List.any_nil, ofO_some, ofO_none, setMany, bindT, D.truth, D.isTy, D.isBox, bi_len_tup, bi_len_list, bi_len_str, bi_tuple_list, bi_tuple_tup, bi_list_list, bi_list_tup, bi_int_int, eq_int, ne_int, lt_int, le_int, gt_int, ge_int, Bool.or_false, Bool.or_true, Bool.false_or, Bool.true_or, Bool.and_true, Bool.true_and, Bool.not_true, Bool.not_false, Bool.and_false, Bool.false_and, Option.map_some, reduceCtorEq, and_true, true_and, and_self]
              match r, q with
              | [], q => exact (by rw [changeD, ht, h1] at q; exact q)
              | [v], q => exact (by rw [changeD, ht, h3] at q; exact q)
              | [f, v], q => exact (by rw [changeD, ht, h2] at q; exact q)
              | x1 :: x2 :: x3 :: r, q => exact q
            | true =>
              simp only [wB, wS, wE, wA, wAnd, wOr, wAndT, wOrT, wP, wI, tru, eQ, exAt_eq, IAs.isNil, List.map_cons, List.map_nil, List.cons_append, List.nil_append, List.getElem?_cons_zero, List.getElem?_cons_succ, List.set_cons_zero, List.set_cons_succ, Bool.false_eq_true, if_false, if_true, if_pos, List.any_cons, List.any_nil, ofO_some, ofO_none, setMany, bindT, D.truth, D.isTy, D.isBox, bi_len_tup, bi_len_list, bi_len_str, bi_tuple_list, bi_tuple_tup, bi_list_list, bi_list_tup, bi_int_int, eq_int, ne_int, lt_int, le_int, gt_int, ge_int, Bool.or_false, Bool.or_true, Bool.false_or, Bool.true_or, Bool.and_true, Bool.true_and, Bool.not_true, Bool.not_false, Bool.and_false, Bool.false_and, Option.map_some, reduceCtorEq, and_true, true_and, and_self]
              match r, hx, q with
              | [], _, q => exact (by rw [changeD, ht, h1] at q; exact q)
              | [v], hx, q =>
                have nv : v.isBox = false := dp_nb (hx v (by simp))
                have dv := hx v (by simp)
                rw [changeD, ht, h3, Bool.true_and, Bool.true_and] at q
                rw [if_neg (show ¬ (!((([a, t, v] : List D).length : Int) == 3)) = true from by show ¬ (!((3 : Int) == 3)) = true; decide)]
                simp only [wB, wS, wE, wA, wAnd, wOr, wAndT, wOrT, wP, wI, tru, eQ, exAt_eq, IAs.isNil, List.map_cons, List.map_nil, List.cons_append, List.nil_append, List.getElem?_cons_zero, List.getElem?_cons_succ, List.set_cons_zero, List.set_cons_succ, Bool.false_eq_true, if_false, if_true, if_pos, List.any_cons, List.any_nil, ofO_some, ofO_none, setMany, bindT, D.truth, D.isTy, D.isBox, bi_len_tup, bi_len_list, bi_len_str, bi_tuple_list, bi_tuple_tup, bi_list_list, bi_list_tup, bi_int_int, eq_int, ne_int, lt_int, le_int, gt_int, ge_int, Bool.or_false, Bool.or_true, Bool.false_or, Bool.true_or, Bool.and_true, Bool.true_and, Bool.not_true, Bool.not_false, Bool.and_false, Bool.false_and, Option.map_some, reduceCtorEq, and_true, true_and, and_self, ix2]
                refine ⟨nv, ?_⟩
                cases v with
                | tup ys =>
                  obtain ⟨j', _, hy⟩ := dp_tup dv
                  simp only [wB, wS, wE, wA, wAnd, wOr, wAndT, wOrT, wP, wI, tru, eQ, exAt_eq, IAs.isNil, List.map_cons, List.map_nil, List.cons_append, List.nil_append, List.getElem?_cons_zero, List.getElem?_cons_succ, List.set_cons_zero, List.set_cons_succ, Bool.false_eq_true, if_false, if_true, if_pos, List.any_cons, List.any_nil, ofO_some, ofO_none, setMany, bindT, D.truth, D.isTy, D.isBox, bi_len_tup, bi_len_list, bi_len_str, bi_tuple_list, bi_tuple_tup, bi_list_list, bi_list_tup, bi_int_int, eq_int, ne_int, lt_int, le_int, gt_int, ge_int, Bool.or_false, Bool.or_true, Bool.false_or, Bool.true_or, Bool.and_true, Bool.true_and, Bool.not_true, Bool.not_false, Bool.and_false, Bool.false_and, Option.map_some, reduceCtorEq, and_true, true_and, and_self, List.length_map, itemsD]
                  have q : Q (.bl (ys.length == fs.length && ys.all (termD ns))) n := q
                  rw [int_len]
                  cases h4 : (ys.length == fs.length) with
                  | true =>
                    simp only [wB, wS, wE, wA, wAnd, wOr, wAndT, wOrT, wP, wI, tru, eQ, exAt_eq, IAs.isNil, List.map_cons, List.map_nil, List.cons_append, List.nil_append, List.getElem?_cons_zero, List.getElem?_cons_succ, List.set_cons_zero, List.set_cons_succ, Bool.false_eq_true, if_false, if_true, if_pos, List.any_cons, List.any_nil, ofO_some, ofO_none, setMany, bindT, D.truth, D.isTy, D.isBox, bi_len_tup, bi_len_list, bi_len_str, bi_tuple_list, bi_tuple_tup, bi_list_list, bi_list_tup, bi_int_int, eq_int, ne_int, lt_int, le_int, gt_int, ge_int, Bool.or_false, Bool.or_true, Bool.false_or, Bool.true_or, Bool.and_true, Bool.true_and, Bool.not_true, Bool.not_false, Bool.and_false, Bool.false_and, Option.map_some, reduceCtorEq, and_true, true_and, and_self]
                    rw [h4, Bool.true_and] at q
                    exact all_comp (f := termD ns) (fun d hd n k hk => ⟨d, ns, rfl, dp_nb (hy d hd), hk⟩) q
                  | false =>
                    rw [h4, Bool.false_and] at q
                    simp only [wB, wS, wE, wA, wAnd, wOr, wAndT, wOrT, wP, wI, tru, eQ, exAt_eq, IAs.isNil, List.map_cons, List.map_nil, List.cons_append, List.nil_append, List.getElem?_cons_zero, List.getElem?_cons_succ, List.set_cons_zero, List.set_cons_succ, Bool.false_eq_true, if_false, if_true, if_pos, List.any_cons, List.any_nil, ofO_some, ofO_none, setMany, bindT, D.truth, D.isTy, D.isBox, bi_len_tup, bi_len_list, bi_len_str, bi_tuple_list, bi_tuple_tup, bi_list_list, bi_list_tup, bi_int_int, eq_int, ne_int, lt_int, le_int, gt_int, ge_int, Bool.or_false, Bool.or_true, Bool.false_or, Bool.true_or, Bool.and_true, Bool.true_and, Bool.not_true, Bool.not_false, Bool.and_false, Bool.false_and, Option.map_some, reduceCtorEq, and_true, true_and, and_self]
                    exact q
                | _ =>
                  simp only [wB, wS, wE, wA, wAnd, wOr, wAndT, wOrT, wP, wI, tru, eQ, exAt_eq, IAs.isNil, List.map_cons, List.map_nil, List.cons_append, List.nil_append, List.getElem?_cons_zero, List.getElem?_cons_succ, List.set_cons_zero, List.set_cons_succ, Bool.false_eq_true, if_false, if_true, if_pos, List.any_cons, List.any_nil, ofO_some, ofO_none, setMany, bindT, D.truth, D.isTy, D.isBox, bi_len_tup, bi_len_list, bi_len_str, bi_tuple_list, bi_tuple_tup, bi_list_list, bi_list_tup, bi_int_int, eq_int, ne_int, lt_int, le_int, gt_int, ge_int, Bool.or_false, Bool.or_true, Bool.false_or, Bool.true_or, Bool.and_true, Bool.true_and, Bool.not_true, Bool.not_false, Bool.and_false, Bool.false_and, Option.map_some, reduceCtorEq, and_true, true_and, and_self]
                  exact q
              | [f, v], _, q => exact (by rw [changeD, ht, h2] at q; exact q)
              | x1 :: x2 :: x3 :: r, _, q =>
                have e : (((a :: t :: x1 :: x2 :: x3 :: r).length : Int) == 3) = false := by
                  rw [beq_eq_false_iff_ne]
                  simp only [List.length_cons]
                  omega
                rw [e]
                exact q
  | _ =>
    simp only [wB, wS, wE, wA, wAnd, wOr, wAndT, wOrT, wP, wI, tru, eQ, exAt_eq, IAs.isNil, List.map_cons, List.map_nil, List.cons_append, List.nil_append, List.getElem?_cons_zero, List.getElem?_cons_succ, List.set_cons_zero, List.set_cons_succ, Bool.false_eq_true, if_false, if_true, if_pos, List.any_cons, List.any_nil, ofO_some, ofO_none, setMany, bindT, D.truth, D.isTy, D.isBox, bi_len_tup, bi_len_list, bi_len_str, bi_tuple_list, bi_tuple_tup, bi_list_list, bi_list_tup, bi_int_int, eq_int, ne_int, lt_int, le_int, gt_int, ge_int, Bool.or_false, Bool.or_true, Bool.false_or, Bool.true_or, Bool.and_true, Bool.true_and, Bool.not_true, Bool.not_false, Bool.and_false, Bool.false_and, Option.map_some, reduceCtorEq, and_true, true_and, and_self]
    exact q
end
end Dl

set_option Elab.async false
set_option linter.all false
set_option maxRecDepth 100000
set_option maxHeartbeats 4000000
/-! Bodies and KINDs. -/
namespace Dl
open PySem PySem.Spec PyProof.Rows L2
def sizesD : List (Str × D) := [("say", .int 3), ("has", .int 4), ("is", .int 6), ("let", .int 5)]
theorem term_atom {ns : List Str} {t : D} (h : termD ns t = true) : t.atom = true := by
  cases t <;> first | rfl | (simp [termD, isNum, hasS] at h)
theorem sl_ok {l : List D} {m : Nat} {x : D} (h : l.length + (m + 1) ≤ 1000) : (l ++ [x]).length ≤ sizeLine := by
  rw [sizeLine_eq, List.length_append, List.length_singleton]
  omega
theorem nbool {a b : Nat} (h : a ≠ b) : ((a : Int) == (b : Int)) = false := by
  rw [beq_eq_false_iff_ne]
  omega
theorem sz_say : (sizesD.lookup (Str.ofString "say")).getD (D.int 0) = D.int 3 := by rfl
theorem sz_has : (sizesD.lookup (Str.ofString "has")).getD (D.int 0) = D.int 4 := by rfl
theorem sz_is : (sizesD.lookup (Str.ofString "is")).getD (D.int 0) = D.int 6 := by rfl
theorem sz_let : (sizesD.lookup (Str.ofString "let")).getD (D.int 0) = D.int 5 := by rfl
theorem sz_no {w : Str} (h1 : (w == Str.ofString "say") = false) (h2 : (w == Str.ofString "has") = false) (h3 : (w == Str.ofString "is") = false) (h4 : (w == Str.ofString "let") = false) : (sizesD.lookup w).getD (D.int 0) = D.int 0 := by
  unfold sizesD
  simp only [List.lookup, h1, h2, h3, h4]
  rfl
section
variable {T : Tab} {n : Nat} {Q : D → Nat → Prop} {E : QX}
theorem b_is_body (m : Nat) {ds : List D} (f1 : T.fs "is_name" = some fsName) (f2 : T.fs "is_term" = some fsTerm) (f3 : T.fs "is_change" = some fsChange) (f4 : ∀ j, m = j + 1 → T.fs "is_body" = some (fsBody j)) (g1 : T.gd "SIZES" = some sizesD) (h : fsBody m ds n Q E) :
    wB T ir_is_body (ent0 ["fields", "thing", "names", "there", "word", "changes", "term", "field", "value", "name", "body", "one"] ds) n (eQ Q E) := by
  obtain ⟨fs, d, ns, th, rfl, hd, ha, l1, l2, q⟩ := h
  unfold ir_is_body ent0
  simp only [wB, wS, wE, wA, wAnd, wOr, wAndT, wOrT, wP, wI, tru, eQ, exAt_eq, IAs.isNil, List.map_cons, List.map_nil, List.cons_append, List.nil_append, List.getElem?_cons_zero, List.getElem?_cons_succ, List.set_cons_zero, List.set_cons_succ, Bool.false_eq_true, if_false, if_true, if_pos, List.any_cons, List.any_nil, ofO_some, ofO_none, setMany, bindT, D.truth, D.isTy, D.isBox, bi_len_tup, bi_len_list, bi_len_str, bi_tuple_list, bi_tuple_tup, bi_list_list, bi_list_tup, bi_int_int, eq_int, ne_int, lt_int, le_int, gt_int, ge_int, Bool.or_false, Bool.or_true, Bool.false_or, Bool.true_or, Bool.and_true, Bool.true_and, Bool.not_true, Bool.not_false, Bool.and_false, Bool.false_and, Option.map_some, reduceCtorEq, and_true, true_and, and_self, f1, f2, f3, g1, List.length_cons, List.length_nil, List.replicate]
  refine ⟨dp_nb hd, ?_⟩
  cases d with
  | tup xs =>
    obtain ⟨j, rfl, hx⟩ := dp_tup hd
    have f4 := f4 j rfl
    simp only [wB, wS, wE, wA, wAnd, wOr, wAndT, wOrT, wP, wI, tru, eQ, exAt_eq, IAs.isNil, List.map_cons, List.map_nil, List.cons_append, List.nil_append, List.getElem?_cons_zero, List.getElem?_cons_succ, List.set_cons_zero, List.set_cons_succ, Bool.false_eq_true, if_false, if_true, if_pos, List.any_cons, List.any_nil, ofO_some, ofO_none, setMany, bindT, D.truth, D.isTy, D.isBox, bi_len_tup, bi_len_list, bi_len_str, bi_tuple_list, bi_tuple_tup, bi_list_list, bi_list_tup, bi_int_int, eq_int, ne_int, lt_int, le_int, gt_int, ge_int, Bool.or_false, Bool.or_true, Bool.false_or, Bool.true_or, Bool.and_true, Bool.true_and, Bool.not_true, Bool.not_false, Bool.and_false, Bool.false_and, Option.map_some, reduceCtorEq, and_true, true_and, and_self, f4]
    match xs, hx, q with
    | [], _, q => exact q
    | a :: r, hx, q =>
      have na : a.isBox = false := dp_nb (hx a (by simp))
      have l0 : (((a :: r).length : Int) == 0) = false := by
        rw [beq_eq_false_iff_ne]
        simp only [List.length_cons]
        omega
      rw [l0]
      simp only [wB, wS, wE, wA, wAnd, wOr, wAndT, wOrT, wP, wI, tru, eQ, exAt_eq, IAs.isNil, List.map_cons, List.map_nil, List.cons_append, List.nil_append, List.getElem?_cons_zero, List.getElem?_cons_succ, List.set_cons_zero, List.set_cons_succ, Bool.false_eq_true, if_false, if_true, if_pos, List.any_cons, List.any_nil, ofO_some, ofO_none, setMany, bindT, D.truth, D.isTy, D.isBox, bi_len_tup, bi_len_list, bi_len_str, bi_tuple_list, bi_tuple_tup, bi_list_list, bi_list_tup, bi_int_int, eq_int, ne_int, lt_int, le_int, gt_int, ge_int, Bool.or_false, Bool.or_true, Bool.false_or, Bool.true_or, Bool.and_true, Bool.true_and, Bool.not_true, Bool.not_false, Bool.and_false, Bool.false_and, Option.map_some, reduceCtorEq, and_true, true_and, and_self, ix0]
      refine ⟨na, ?_⟩
      cases a with
      | str w =>
        simp only [wB, wS, wE, wA, wAnd, wOr, wAndT, wOrT, wP, wI, tru, eQ, exAt_eq, IAs.isNil, List.map_cons, List.map_nil, List.cons_append, List.nil_append, List.getElem?_cons_zero, List.getElem?_cons_succ, List.set_cons_zero, List.set_cons_succ, Bool.false_eq_true, if_false, if_true, if_pos, List.any_cons, List.any_nil, ofO_some, ofO_none, setMany, bindT, D.truth, D.isTy, D.isBox, bi_len_tup, bi_len_list, bi_len_str, bi_tuple_list, bi_tuple_tup, bi_list_list, bi_list_tup, bi_int_int, eq_int, ne_int, lt_int, le_int, gt_int, ge_int, Bool.or_false, Bool.or_true, Bool.false_or, Bool.true_or, Bool.and_true, Bool.true_and, Bool.not_true, Bool.not_false, Bool.and_false, Bool.false_and, Option.map_some, reduceCtorEq, and_true, true_and, and_self, eq_w (x := D.str w) rfl, isW_str]
        cases h1 : (w == Str.ofString "say") with
        | true =>
          rw [beq_iff_eq] at h1
          subst h1
          rw [sz_say]
          simp only [wB, wS, wE, wA, wAnd, wOr, wAndT, wOrT, wP, wI, tru, eQ, exAt_eq, IAs.isNil, List.map_cons, List.map_nil, List.cons_append, List.nil_append, List.getElem?_cons_zero, List.getElem?_cons_succ, List.set_cons_zero, List.set_cons_succ, Bool.false_eq_true, if_false, if_true, if_pos, List.any_cons, List.any_nil, ofO_some, ofO_none, setMany, bindT, D.truth, D.isTy, D.isBox, bi_len_tup, bi_len_list, bi_len_str, bi_tuple_list, bi_tuple_tup, bi_list_list, bi_list_tup, bi_int_int, eq_int, ne_int, lt_int, le_int, gt_int, ge_int, Bool.or_false, Bool.or_true, Bool.false_or, Bool.true_or, Bool.and_true, Bool.true_and, Bool.not_true, Bool.not_false, Bool.and_false, Bool.false_and, Option.map_some, reduceCtorEq, and_true, true_and, and_self]
          match r, hx, q with
          | [c, nm], hx, q =>
            rw [if_neg (show ¬ (!((3 : Int) == (([D.str "say", c, nm] : List D).length : Int))) = true from by show ¬ (!((3 : Int) == 3)) = true; decide)]
            have nn : nm.isBox = false := dp_nb (hx nm (by simp))
            have nc : c.isBox = false := dp_nb (hx c (by simp))
            have dc := hx c (by simp)
            have q : Q (.bl (nameD nm && saysD fs ns c)) n := q
            simp only [wB, wS, wE, wA, wAnd, wOr, wAndT, wOrT, wP, wI, tru, eQ, exAt_eq, IAs.isNil, List.map_cons, List.map_nil, List.cons_append, List.nil_append, List.getElem?_cons_zero, List.getElem?_cons_succ, List.set_cons_zero, List.set_cons_succ, Bool.false_eq_true, if_false, if_true, if_pos, List.any_cons, List.any_nil, ofO_some, ofO_none, setMany, bindT, D.truth, D.isTy, D.isBox, bi_len_tup, bi_len_list, bi_len_str, bi_tuple_list, bi_tuple_tup, bi_list_list, bi_list_tup, bi_int_int, eq_int, ne_int, lt_int, le_int, gt_int, ge_int, Bool.or_false, Bool.or_true, Bool.false_or, Bool.true_or, Bool.and_true, Bool.true_and, Bool.not_true, Bool.not_false, Bool.and_false, Bool.false_and, Option.map_some, reduceCtorEq, and_true, true_and, and_self, ix1, ix2]
            refine ⟨nm, rfl, nn, ?_⟩
            cases h2 : nameD nm with
            | false =>
              rw [h2, Bool.false_and] at q
              simp only [wB, wS, wE, wA, wAnd, wOr, wAndT, wOrT, wP, wI, tru, eQ, exAt_eq, IAs.isNil, List.map_cons, List.map_nil, List.cons_append, List.nil_append, List.getElem?_cons_zero, List.getElem?_cons_succ, List.set_cons_zero, List.set_cons_succ, Bool.false_eq_true, if_false, if_true, if_pos, List.any_cons, List.any_nil, ofO_some, ofO_none, setMany, bindT, D.truth, D.isTy, D.isBox, bi_len_tup, bi_len_list, bi_len_str, bi_tuple_list, bi_tuple_tup, bi_list_list, bi_list_tup, bi_int_int, eq_int, ne_int, lt_int, le_int, gt_int, ge_int, Bool.or_false, Bool.or_true, Bool.false_or, Bool.true_or, Bool.and_true, Bool.true_and, Bool.not_true, Bool.not_false, Bool.and_false, Bool.false_and, Option.map_some, reduceCtorEq, and_true, true_and, and_self]
              exact q
            | true =>
              rw [h2, Bool.true_and] at q
              simp only [wB, wS, wE, wA, wAnd, wOr, wAndT, wOrT, wP, wI, tru, eQ, exAt_eq, IAs.isNil, List.map_cons, List.map_nil, List.cons_append, List.nil_append, List.getElem?_cons_zero, List.getElem?_cons_succ, List.set_cons_zero, List.set_cons_succ, Bool.false_eq_true, if_false, if_true, if_pos, List.any_cons, List.any_nil, ofO_some, ofO_none, setMany, bindT, D.truth, D.isTy, D.isBox, bi_len_tup, bi_len_list, bi_len_str, bi_tuple_list, bi_tuple_tup, bi_list_list, bi_list_tup, bi_int_int, eq_int, ne_int, lt_int, le_int, gt_int, ge_int, Bool.or_false, Bool.or_true, Bool.false_or, Bool.true_or, Bool.and_true, Bool.true_and, Bool.not_true, Bool.not_false, Bool.and_false, Bool.false_and, Option.map_some, reduceCtorEq, and_true, true_and, and_self]
              refine ⟨nc, ?_⟩
              cases c with
              | tup cs =>
                obtain ⟨j', _, hy⟩ := dp_tup dc
                simp only [wB, wS, wE, wA, wAnd, wOr, wAndT, wOrT, wP, wI, tru, eQ, exAt_eq, IAs.isNil, List.map_cons, List.map_nil, List.cons_append, List.nil_append, List.getElem?_cons_zero, List.getElem?_cons_succ, List.set_cons_zero, List.set_cons_succ, Bool.false_eq_true, if_false, if_true, if_pos, List.any_cons, List.any_nil, ofO_some, ofO_none, setMany, bindT, D.truth, D.isTy, D.isBox, bi_len_tup, bi_len_list, bi_len_str, bi_tuple_list, bi_tuple_tup, bi_list_list, bi_list_tup, bi_int_int, eq_int, ne_int, lt_int, le_int, gt_int, ge_int, Bool.or_false, Bool.or_true, Bool.false_or, Bool.true_or, Bool.and_true, Bool.true_and, Bool.not_true, Bool.not_false, Bool.and_false, Bool.false_and, Option.map_some, reduceCtorEq, and_true, true_and, and_self, itemsD]
                exact all_comp (f := changeD fs ns) (fun d hd n k hk => ⟨fs, d, ns, j', rfl, hy d hd, hk⟩) q
              | _ =>
                simp only [wB, wS, wE, wA, wAnd, wOr, wAndT, wOrT, wP, wI, tru, eQ, exAt_eq, IAs.isNil, List.map_cons, List.map_nil, List.cons_append, List.nil_append, List.getElem?_cons_zero, List.getElem?_cons_succ, List.set_cons_zero, List.set_cons_succ, Bool.false_eq_true, if_false, if_true, if_pos, List.any_cons, List.any_nil, ofO_some, ofO_none, setMany, bindT, D.truth, D.isTy, D.isBox, bi_len_tup, bi_len_list, bi_len_str, bi_tuple_list, bi_tuple_tup, bi_list_list, bi_list_tup, bi_int_int, eq_int, ne_int, lt_int, le_int, gt_int, ge_int, Bool.or_false, Bool.or_true, Bool.false_or, Bool.true_or, Bool.and_true, Bool.true_and, Bool.not_true, Bool.not_false, Bool.and_false, Bool.false_and, Option.map_some, reduceCtorEq, and_true, true_and, and_self]
                exact q
          | [], _, q => exact q
          | [_], _, q => exact q
          | x1 :: x2 :: x3 :: r, _, q =>
            rw [if_pos (show (!((3 : Int) == ((D.str "say" :: x1 :: x2 :: x3 :: r).length : Int))) = true from by
              rw [Bool.not_eq_true', beq_eq_false_iff_ne]
              simp only [List.length_cons]
              omega)]
            exact q
        | false =>
          cases h2 : (w == Str.ofString "has") with
          | true =>
            rw [beq_iff_eq] at h2
            subst h2
            rw [sz_has]
            simp only [wB, wS, wE, wA, wAnd, wOr, wAndT, wOrT, wP, wI, tru, eQ, exAt_eq, IAs.isNil, List.map_cons, List.map_nil, List.cons_append, List.nil_append, List.getElem?_cons_zero, List.getElem?_cons_succ, List.set_cons_zero, List.set_cons_succ, Bool.false_eq_true, if_false, if_true, if_pos, List.any_cons, List.any_nil, ofO_some, ofO_none, setMany, bindT, D.truth, D.isTy, D.isBox, bi_len_tup, bi_len_list, bi_len_str, bi_tuple_list, bi_tuple_tup, bi_list_list, bi_list_tup, bi_int_int, eq_int, ne_int, lt_int, le_int, gt_int, ge_int, Bool.or_false, Bool.or_true, Bool.false_or, Bool.true_or, Bool.and_true, Bool.true_and, Bool.not_true, Bool.not_false, Bool.and_false, Bool.false_and, Option.map_some, reduceCtorEq, and_true, true_and, and_self]
            match r, hx, q with
            | [t, a, b], hx, q =>
              rw [if_neg (show ¬ (!((4 : Int) == (([D.str "has", t, a, b] : List D).length : Int))) = true from by show ¬ (!((4 : Int) == 4)) = true; decide)]
              have nt : t.isBox = false := dp_nb (hx t (by simp))
              have q : Q (.bl (termD ns t && (bodyD fs j ns (th ++ [t]) a && bodyD fs j ns th b))) n := q
              simp only [wB, wS, wE, wA, wAnd, wOr, wAndT, wOrT, wP, wI, tru, eQ, exAt_eq, IAs.isNil, List.map_cons, List.map_nil, List.cons_append, List.nil_append, List.getElem?_cons_zero, List.getElem?_cons_succ, List.set_cons_zero, List.set_cons_succ, Bool.false_eq_true, if_false, if_true, if_pos, List.any_cons, List.any_nil, ofO_some, ofO_none, setMany, bindT, D.truth, D.isTy, D.isBox, bi_len_tup, bi_len_list, bi_len_str, bi_tuple_list, bi_tuple_tup, bi_list_list, bi_list_tup, bi_int_int, eq_int, ne_int, lt_int, le_int, gt_int, ge_int, Bool.or_false, Bool.or_true, Bool.false_or, Bool.true_or, Bool.and_true, Bool.true_and, Bool.not_true, Bool.not_false, Bool.and_false, Bool.false_and, Option.map_some, reduceCtorEq, and_true, true_and, and_self, ix1, ix2, ix3]
              refine ⟨t, ns, rfl, nt, ?_⟩
              cases h3 : termD ns t with
              | false =>
                rw [h3, Bool.false_and] at q
                simp only [wB, wS, wE, wA, wAnd, wOr, wAndT, wOrT, wP, wI, tru, eQ, exAt_eq, IAs.isNil, List.map_cons, List.map_nil, List.cons_append, List.nil_append, List.getElem?_cons_zero, List.getElem?_cons_succ, List.set_cons_zero, List.set_cons_succ, Bool.false_eq_true, if_false, if_true, if_pos, List.any_cons, List.any_nil, ofO_some, ofO_none, setMany, bindT, D.truth, D.isTy, D.isBox, bi_len_tup, bi_len_list, bi_len_str, bi_tuple_list, bi_tuple_tup, bi_list_list, bi_list_tup, bi_int_int, eq_int, ne_int, lt_int, le_int, gt_int, ge_int, Bool.or_false, Bool.or_true, Bool.false_or, Bool.true_or, Bool.and_true, Bool.true_and, Bool.not_true, Bool.not_false, Bool.and_false, Bool.false_and, Option.map_some, reduceCtorEq, and_true, true_and, and_self]
                exact q
              | true =>
                rw [h3, Bool.true_and] at q
                simp only [wB, wS, wE, wA, wAnd, wOr, wAndT, wOrT, wP, wI, tru, eQ, exAt_eq, IAs.isNil, List.map_cons, List.map_nil, List.cons_append, List.nil_append, List.getElem?_cons_zero, List.getElem?_cons_succ, List.set_cons_zero, List.set_cons_succ, Bool.false_eq_true, if_false, if_true, if_pos, List.any_cons, List.any_nil, ofO_some, ofO_none, setMany, bindT, D.truth, D.isTy, D.isBox, bi_len_tup, bi_len_list, bi_len_str, bi_tuple_list, bi_tuple_tup, bi_list_list, bi_list_tup, bi_int_int, eq_int, ne_int, lt_int, le_int, gt_int, ge_int, Bool.or_false, Bool.or_true, Bool.false_or, Bool.true_or, Bool.and_true, Bool.true_and, Bool.not_true, Bool.not_false, Bool.and_false, Bool.false_and, Option.map_some, reduceCtorEq, and_true, true_and, and_self]
                refine ⟨sl_ok (m := j) l1, fs, a, ns, th ++ [t], rfl, hx a (by simp), ?_, ?_, by omega, ?_⟩
                · rw [List.all_append, ha]
                  simp [term_atom h3]
                · rw [List.length_append, List.length_singleton]
                  omega
                · cases h4 : bodyD fs j ns (th ++ [t]) a with
                  | false =>
                    rw [h4, Bool.false_and] at q
                    simp only [wB, wS, wE, wA, wAnd, wOr, wAndT, wOrT, wP, wI, tru, eQ, exAt_eq, IAs.isNil, List.map_cons, List.map_nil, List.cons_append, List.nil_append, List.getElem?_cons_zero, List.getElem?_cons_succ, List.set_cons_zero, List.set_cons_succ, Bool.false_eq_true, if_false, if_true, if_pos, List.any_cons, List.any_nil, ofO_some, ofO_none, setMany, bindT, D.truth, D.isTy, D.isBox, bi_len_tup, bi_len_list, bi_len_str, bi_tuple_list, bi_tuple_tup, bi_list_list, bi_list_tup, bi_int_int, eq_int, ne_int, lt_int, le_int, gt_int, ge_int, Bool.or_false, Bool.or_true, Bool.false_or, Bool.true_or, Bool.and_true, Bool.true_and, Bool.not_true, Bool.not_false, Bool.and_false, Bool.false_and, Option.map_some, reduceCtorEq, and_true, true_and, and_self]
                    exact q
                  | true =>
                    rw [h4, Bool.true_and] at q
                    simp only [wB, wS, wE, wA, wAnd, wOr, wAndT, wOrT, wP, wI, tru, eQ, exAt_eq, IAs.isNil, List.map_cons, List.map_nil, List.cons_append, List.nil_append, List.getElem?_cons_zero, List.getElem?_cons_succ, List.set_cons_zero, List.set_cons_succ, Bool.false_eq_true, if_false, if_true, if_pos, List.any_cons, List.any_nil, ofO_some, ofO_none, setMany, bindT, D.truth, D.isTy, D.isBox, bi_len_tup, bi_len_list, bi_len_str, bi_tuple_list, bi_tuple_tup, bi_list_list, bi_list_tup, bi_int_int, eq_int, ne_int, lt_int, le_int, gt_int, ge_int, Bool.or_false, Bool.or_true, Bool.false_or, Bool.true_or, Bool.and_true, Bool.true_and, Bool.not_true, Bool.not_false, Bool.and_false, Bool.false_and, Option.map_some, reduceCtorEq, and_true, true_and, and_self]
                    exact ⟨fs, b, ns, th, rfl, hx b (by simp), ha, by omega, by omega, q⟩
            | [], _, q => exact q
            | [_], _, q => exact q
            | [_, _], _, q => exact q
            | x1 :: x2 :: x3 :: x4 :: r, _, q =>
              rw [if_pos (show (!((4 : Int) == ((D.str "has" :: x1 :: x2 :: x3 :: x4 :: r).length : Int))) = true from by
                rw [Bool.not_eq_true', beq_eq_false_iff_ne]
                simp only [List.length_cons]
                omega)]
              exact q
          | false =>
            cases h3 : (w == Str.ofString "is") with
            | true =>
              rw [beq_iff_eq] at h3
              subst h3
              rw [sz_is]
              simp only [wB, wS, wE, wA, wAnd, wOr, wAndT, wOrT, wP, wI, tru, eQ, exAt_eq, IAs.isNil, List.map_cons, List.map_nil, List.cons_append, List.nil_append, List.getElem?_cons_zero, List.getElem?_cons_succ, List.set_cons_zero, List.set_cons_succ, Bool.false_eq_true, if_false, if_true, if_pos, List.any_cons, List.any_nil, ofO_some, ofO_none, setMany, bindT, D.truth, D.isTy, D.isBox, bi_len_tup, bi_len_list, bi_len_str, bi_tuple_list, bi_tuple_tup, bi_list_list, bi_list_tup, bi_int_int, eq_int, ne_int, lt_int, le_int, gt_int, ge_int, Bool.or_false, Bool.or_true, Bool.false_or, Bool.true_or, Bool.and_true, Bool.true_and, Bool.not_true, Bool.not_false, Bool.and_false, Bool.false_and, Option.map_some, reduceCtorEq, and_true, true_and, and_self]
              match r, hx, q with
              | [t, f, v, a, b], hx, q =>
                rw [if_neg (show ¬ (!((6 : Int) == (([D.str "is", t, f, v, a, b] : List D).length : Int))) = true from by show ¬ (!((6 : Int) == 6)) = true; decide)]
                have nt : t.isBox = false := dp_nb (hx t (by simp))
                have nf : f.isBox = false := dp_nb (hx f (by simp))
                have nv : v.isBox = false := dp_nb (hx v (by simp))
                have e1 : slcD (.tup [D.str "is", t, f, v, a, b]) (some 1) (some 4) = some (.tup [t, f, v]) := rfl
                have e2 : slcD (.tup [D.str "is", t, f, v, a, b]) (some 4) none = some (.tup [a, b]) := rfl
                have q : Q (.bl (termD ns t && (hasA th t && (hasS fs f && (termD ns v && (bodyD fs j ns th a && bodyD fs j ns th b)))))) n := q
                simp only [wB, wS, wE, wA, wAnd, wOr, wAndT, wOrT, wP, wI, tru, eQ, exAt_eq, IAs.isNil, List.map_cons, List.map_nil, List.cons_append, List.nil_append, List.getElem?_cons_zero, List.getElem?_cons_succ, List.set_cons_zero, List.set_cons_succ, Bool.false_eq_true, if_false, if_true, if_pos, List.any_cons, List.any_nil, ofO_some, ofO_none, setMany, bindT, D.truth, D.isTy, D.isBox, bi_len_tup, bi_len_list, bi_len_str, bi_tuple_list, bi_tuple_tup, bi_list_list, bi_list_tup, bi_int_int, eq_int, ne_int, lt_int, le_int, gt_int, ge_int, Bool.or_false, Bool.or_true, Bool.false_or, Bool.true_or, Bool.and_true, Bool.true_and, Bool.not_true, Bool.not_false, Bool.and_false, Bool.false_and, Option.map_some, reduceCtorEq, and_true, true_and, and_self, e1, e2, itemsD]
                refine ⟨t, ns, rfl, nt, ?_⟩
                cases h4 : termD ns t with
                | false =>
                  rw [h4, Bool.false_and] at q
                  simp only [wB, wS, wE, wA, wAnd, wOr, wAndT, wOrT, wP, wI, tru, eQ, exAt_eq, IAs.isNil, List.map_cons, List.map_nil, List.cons_append, List.nil_append, List.getElem?_cons_zero, List.getElem?_cons_succ, List.set_cons_zero, List.set_cons_succ, Bool.false_eq_true, if_false, if_true, if_pos, List.any_cons, List.any_nil, ofO_some, ofO_none, setMany, bindT, D.truth, D.isTy, D.isBox, bi_len_tup, bi_len_list, bi_len_str, bi_tuple_list, bi_tuple_tup, bi_list_list, bi_list_tup, bi_int_int, eq_int, ne_int, lt_int, le_int, gt_int, ge_int, Bool.or_false, Bool.or_true, Bool.false_or, Bool.true_or, Bool.and_true, Bool.true_and, Bool.not_true, Bool.not_false, Bool.and_false, Bool.false_and, Option.map_some, reduceCtorEq, and_true, true_and, and_self]
                  exact q
                | true =>
                  rw [h4, Bool.true_and] at q
                  simp only [wB, wS, wE, wA, wAnd, wOr, wAndT, wOrT, wP, wI, tru, eQ, exAt_eq, IAs.isNil, List.map_cons, List.map_nil, List.cons_append, List.nil_append, List.getElem?_cons_zero, List.getElem?_cons_succ, List.set_cons_zero, List.set_cons_succ, Bool.false_eq_true, if_false, if_true, if_pos, List.any_cons, List.any_nil, ofO_some, ofO_none, setMany, bindT, D.truth, D.isTy, D.isBox, bi_len_tup, bi_len_list, bi_len_str, bi_tuple_list, bi_tuple_tup, bi_list_list, bi_list_tup, bi_int_int, eq_int, ne_int, lt_int, le_int, gt_int, ge_int, Bool.or_false, Bool.or_true, Bool.false_or, Bool.true_or, Bool.and_true, Bool.true_and, Bool.not_true, Bool.not_false, Bool.and_false, Bool.false_and, Option.map_some, reduceCtorEq, and_true, true_and, and_self, nin_atoms_tup (term_atom h4) ha, nin_strs_tup nf]
                  cases h5 : hasA th t with
                  | false =>
                    rw [h5, Bool.false_and] at q
                    simp only [wB, wS, wE, wA, wAnd, wOr, wAndT, wOrT, wP, wI, tru, eQ, exAt_eq, IAs.isNil, List.map_cons, List.map_nil, List.cons_append, List.nil_append, List.getElem?_cons_zero, List.getElem?_cons_succ, List.set_cons_zero, List.set_cons_succ, Bool.false_eq_true, if_false, if_true, if_pos, List.any_cons, List.any_nil, ofO_some, ofO_none, setMany, bindT, D.truth, D.isTy, D.isBox, bi_len_tup, bi_len_list, bi_len_str, bi_tuple_list, bi_tuple_tup, bi_list_list, bi_list_tup, bi_int_int, eq_int, ne_int, lt_int, le_int, gt_int, ge_int, Bool.or_false, Bool.or_true, Bool.false_or, Bool.true_or, Bool.and_true, Bool.true_and, Bool.not_true, Bool.not_false, Bool.and_false, Bool.false_and, Option.map_some, reduceCtorEq, and_true, true_and, and_self]
                    exact q
                  | true =>
                    rw [h5, Bool.true_and] at q
                    simp only [wB, wS, wE, wA, wAnd, wOr, wAndT, wOrT, wP, wI, tru, eQ, exAt_eq, IAs.isNil, List.map_cons, List.map_nil, List.cons_append, List.nil_append, List.getElem?_cons_zero, List.getElem?_cons_succ, List.set_cons_zero, List.set_cons_succ, Bool.false_eq_true, if_false, if_true, if_pos, List.any_cons, List.any_nil, ofO_some, ofO_none, setMany, bindT, D.truth, D.isTy, D.isBox, bi_len_tup, bi_len_list, bi_len_str, bi_tuple_list, bi_tuple_tup, bi_list_list, bi_list_tup, bi_int_int, eq_int, ne_int, lt_int, le_int, gt_int, ge_int, Bool.or_false, Bool.or_true, Bool.false_or, Bool.true_or, Bool.and_true, Bool.true_and, Bool.not_true, Bool.not_false, Bool.and_false, Bool.false_and, Option.map_some, reduceCtorEq, and_true, true_and, and_self]
                    cases h6 : hasS fs f with
                    | false =>
                      rw [h6, Bool.false_and] at q
                      simp only [wB, wS, wE, wA, wAnd, wOr, wAndT, wOrT, wP, wI, tru, eQ, exAt_eq, IAs.isNil, List.map_cons, List.map_nil, List.cons_append, List.nil_append, List.getElem?_cons_zero, List.getElem?_cons_succ, List.set_cons_zero, List.set_cons_succ, Bool.false_eq_true, if_false, if_true, if_pos, List.any_cons, List.any_nil, ofO_some, ofO_none, setMany, bindT, D.truth, D.isTy, D.isBox, bi_len_tup, bi_len_list, bi_len_str, bi_tuple_list, bi_tuple_tup, bi_list_list, bi_list_tup, bi_int_int, eq_int, ne_int, lt_int, le_int, gt_int, ge_int, Bool.or_false, Bool.or_true, Bool.false_or, Bool.true_or, Bool.and_true, Bool.true_and, Bool.not_true, Bool.not_false, Bool.and_false, Bool.false_and, Option.map_some, reduceCtorEq, and_true, true_and, and_self]
                      exact q
                    | true =>
                      rw [h6, Bool.true_and] at q
                      simp only [wB, wS, wE, wA, wAnd, wOr, wAndT, wOrT, wP, wI, tru, eQ, exAt_eq, IAs.isNil, List.map_cons, List.map_nil, List.cons_append, List.nil_append, List.getElem?_cons_zero, List.getElem?_cons_succ, List.set_cons_zero, List.set_cons_succ, Bool.false_eq_true, if_false, if_true, if_pos, List.any_cons, List.any_nil, ofO_some, ofO_none, setMany, bindT, D.truth, D.isTy, D.isBox, bi_len_tup, bi_len_list, bi_len_str, bi_tuple_list, bi_tuple_tup, bi_list_list, bi_list_tup, bi_int_int, eq_int, ne_int, lt_int, le_int, gt_int, ge_int, Bool.or_false, Bool.or_true, Bool.false_or, Bool.true_or, Bool.and_true, Bool.true_and, Bool.not_true, Bool.not_false, Bool.and_false, Bool.false_and, Option.map_some, reduceCtorEq, and_true, true_and, and_self]
                      refine ⟨v, ns, rfl, nv, ?_⟩
                      cases h7 : termD ns v with
                      | false =>
                        rw [h7, Bool.false_and] at q
                        simp only [wB, wS, wE, wA, wAnd, wOr, wAndT, wOrT, wP, wI, tru, eQ, exAt_eq, IAs.isNil, List.map_cons, List.map_nil, List.cons_append, List.nil_append, List.getElem?_cons_zero, List.getElem?_cons_succ, List.set_cons_zero, List.set_cons_succ, Bool.false_eq_true, if_false, if_true, if_pos, List.any_cons, List.any_nil, ofO_some, ofO_none, setMany, bindT, D.truth, D.isTy, D.isBox, bi_len_tup, bi_len_list, bi_len_str, bi_tuple_list, bi_tuple_tup, bi_list_list, bi_list_tup, bi_int_int, eq_int, ne_int, lt_int, le_int, gt_int, ge_int, Bool.or_false, Bool.or_true, Bool.false_or, Bool.true_or, Bool.and_true, Bool.true_and, Bool.not_true, Bool.not_false, Bool.and_false, Bool.false_and, Option.map_some, reduceCtorEq, and_true, true_and, and_self]
                        exact q
                      | true =>
                        rw [h7, Bool.true_and] at q
                        simp only [wB, wS, wE, wA, wAnd, wOr, wAndT, wOrT, wP, wI, tru, eQ, exAt_eq, IAs.isNil, List.map_cons, List.map_nil, List.cons_append, List.nil_append, List.getElem?_cons_zero, List.getElem?_cons_succ, List.set_cons_zero, List.set_cons_succ, Bool.false_eq_true, if_false, if_true, if_pos, List.any_cons, List.any_nil, ofO_some, ofO_none, setMany, bindT, D.truth, D.isTy, D.isBox, bi_len_tup, bi_len_list, bi_len_str, bi_tuple_list, bi_tuple_tup, bi_list_list, bi_list_tup, bi_int_int, eq_int, ne_int, lt_int, le_int, gt_int, ge_int, Bool.or_false, Bool.or_true, Bool.false_or, Bool.true_or, Bool.and_true, Bool.true_and, Bool.not_true, Bool.not_false, Bool.and_false, Bool.false_and, Option.map_some, reduceCtorEq, and_true, true_and, and_self]
                        refine all_comp (f := bodyD fs j ns th) (fun d hd n k hk => ⟨fs, d, ns, th, rfl, ?_, ha, by omega, by omega, hk⟩) ?_
                        · rcases List.mem_cons.mp hd with z | z
                          · rw [z]; exact hx a (by simp)
                          · rw [List.mem_singleton.mp z]; exact hx b (by simp)
                        · simpa using q
              | [], _, q => exact q
              | [_], _, q => exact q
              | [_, _], _, q => exact q
              | [_, _, _], _, q => exact q
              | [_, _, _, _], _, q => exact q
              | x1 :: x2 :: x3 :: x4 :: x5 :: x6 :: r, _, q =>
                rw [if_pos (show (!((6 : Int) == ((D.str "is" :: x1 :: x2 :: x3 :: x4 :: x5 :: x6 :: r).length : Int))) = true from by
                  rw [Bool.not_eq_true', beq_eq_false_iff_ne]
                  simp only [List.length_cons]
                  omega)]
                exact q
            | false =>
              cases h4 : (w == Str.ofString "let") with
              | true =>
                rw [beq_iff_eq] at h4
                subst h4
                rw [sz_let]
                simp only [wB, wS, wE, wA, wAnd, wOr, wAndT, wOrT, wP, wI, tru, eQ, exAt_eq, IAs.isNil, List.map_cons, List.map_nil, List.cons_append, List.nil_append, List.getElem?_cons_zero, List.getElem?_cons_succ, List.set_cons_zero, List.set_cons_succ, Bool.false_eq_true, if_false, if_true, if_pos, List.any_cons, List.any_nil, ofO_some, ofO_none, setMany, bindT, D.truth, D.isTy, D.isBox, bi_len_tup, bi_len_list, bi_len_str, bi_tuple_list, bi_tuple_tup, bi_list_list, bi_list_tup, bi_int_int, eq_int, ne_int, lt_int, le_int, gt_int, ge_int, Bool.or_false, Bool.or_true, Bool.false_or, Bool.true_or, Bool.and_true, Bool.true_and, Bool.not_true, Bool.not_false, Bool.and_false, Bool.false_and, Option.map_some, reduceCtorEq, and_true, true_and, and_self]
                match r, hx, q with
                | [nm, t, f, b], hx, q =>
                  rw [if_neg (show ¬ (!((5 : Int) == (([D.str "let", nm, t, f, b] : List D).length : Int))) = true from by show ¬ (!((5 : Int) == 5)) = true; decide)]
                  have nn : nm.isBox = false := dp_nb (hx nm (by simp))
                  have nt : t.isBox = false := dp_nb (hx t (by simp))
                  have nf : f.isBox = false := dp_nb (hx f (by simp))
                  have e1 : slcD (.tup [D.str "let", nm, t, f, b]) (some 1) none = some (.tup [nm, t, f, b]) := rfl
                  have q : Q (.bl (match newD ns nm with
                    | some z => termD ns t && (hasA th t && (hasS fs f && bodyD fs j (ns ++ [z]) th b))
                    | none => false)) n := q
                  simp only [wB, wS, wE, wA, wAnd, wOr, wAndT, wOrT, wP, wI, tru, eQ, exAt_eq, IAs.isNil, List.map_cons, List.map_nil, List.cons_append, List.nil_append, List.getElem?_cons_zero, List.getElem?_cons_succ, List.set_cons_zero, List.set_cons_succ, Bool.false_eq_true, if_false, if_true, if_pos, List.any_cons, List.any_nil, ofO_some, ofO_none, setMany, bindT, D.truth, D.isTy, D.isBox, bi_len_tup, bi_len_list, bi_len_str, bi_tuple_list, bi_tuple_tup, bi_list_list, bi_list_tup, bi_int_int, eq_int, ne_int, lt_int, le_int, gt_int, ge_int, Bool.or_false, Bool.or_true, Bool.false_or, Bool.true_or, Bool.and_true, Bool.true_and, Bool.not_true, Bool.not_false, Bool.and_false, Bool.false_and, Option.map_some, reduceCtorEq, and_true, true_and, and_self, e1]
                  refine ⟨nm, rfl, nn, ?_⟩
                  cases nm with
                  | str z =>
                    rw [newD] at q
                    simp only [nameD]
                    cases h5 : nameS z with
                    | false =>
                      rw [h5] at q
                      simp only [wB, wS, wE, wA, wAnd, wOr, wAndT, wOrT, wP, wI, tru, eQ, exAt_eq, IAs.isNil, List.map_cons, List.map_nil, List.cons_append, List.nil_append, List.getElem?_cons_zero, List.getElem?_cons_succ, List.set_cons_zero, List.set_cons_succ, Bool.false_eq_true, if_false, if_true, if_pos, List.any_cons, List.any_nil, ofO_some, ofO_none, setMany, bindT, D.truth, D.isTy, D.isBox, bi_len_tup, bi_len_list, bi_len_str, bi_tuple_list, bi_tuple_tup, bi_list_list, bi_list_tup, bi_int_int, eq_int, ne_int, lt_int, le_int, gt_int, ge_int, Bool.or_false, Bool.or_true, Bool.false_or, Bool.true_or, Bool.and_true, Bool.true_and, Bool.not_true, Bool.not_false, Bool.and_false, Bool.false_and, Option.map_some, reduceCtorEq, and_true, true_and, and_self]
                      exact q
                    | true =>
                      simp only [wB, wS, wE, wA, wAnd, wOr, wAndT, wOrT, wP, wI, tru, eQ, exAt_eq, IAs.isNil, List.map_cons, List.map_nil, List.cons_append, List.nil_append, List.getElem?_cons_zero, List.getElem?_cons_succ, List.set_cons_zero, List.set_cons_succ, Bool.false_eq_true, if_false, if_true, if_pos, List.any_cons, List.any_nil, ofO_some, ofO_none, setMany, bindT, D.truth, D.isTy, D.isBox, bi_len_tup, bi_len_list, bi_len_str, bi_tuple_list, bi_tuple_tup, bi_list_list, bi_list_tup, bi_int_int, eq_int, ne_int, lt_int, le_int, gt_int, ge_int, Bool.or_false, Bool.or_true, Bool.false_or, Bool.true_or, Bool.and_true, Bool.true_and, Bool.not_true, Bool.not_false, Bool.and_false, Bool.false_and, Option.map_some, reduceCtorEq, and_true, true_and, and_self, in_strs_tup (x := D.str z) rfl]
                      have e5 : hasS ns (.str z) = ns.contains z := rfl
                      rw [e5]
                      cases h6 : ns.contains z with
                      | true =>
                        rw [h5, h6] at q
                        simp only [wB, wS, wE, wA, wAnd, wOr, wAndT, wOrT, wP, wI, tru, eQ, exAt_eq, IAs.isNil, List.map_cons, List.map_nil, List.cons_append, List.nil_append, List.getElem?_cons_zero, List.getElem?_cons_succ, List.set_cons_zero, List.set_cons_succ, Bool.false_eq_true, if_false, if_true, if_pos, List.any_cons, List.any_nil, ofO_some, ofO_none, setMany, bindT, D.truth, D.isTy, D.isBox, bi_len_tup, bi_len_list, bi_len_str, bi_tuple_list, bi_tuple_tup, bi_list_list, bi_list_tup, bi_int_int, eq_int, ne_int, lt_int, le_int, gt_int, ge_int, Bool.or_false, Bool.or_true, Bool.false_or, Bool.true_or, Bool.and_true, Bool.true_and, Bool.not_true, Bool.not_false, Bool.and_false, Bool.false_and, Option.map_some, reduceCtorEq, and_true, true_and, and_self]
                        exact q
                      | false =>
                        rw [h5, h6] at q
                        simp only [wB, wS, wE, wA, wAnd, wOr, wAndT, wOrT, wP, wI, tru, eQ, exAt_eq, IAs.isNil, List.map_cons, List.map_nil, List.cons_append, List.nil_append, List.getElem?_cons_zero, List.getElem?_cons_succ, List.set_cons_zero, List.set_cons_succ, Bool.false_eq_true, if_false, if_true, if_pos, List.any_cons, List.any_nil, ofO_some, ofO_none, setMany, bindT, D.truth, D.isTy, D.isBox, bi_len_tup, bi_len_list, bi_len_str, bi_tuple_list, bi_tuple_tup, bi_list_list, bi_list_tup, bi_int_int, eq_int, ne_int, lt_int, le_int, gt_int, ge_int, Bool.or_false, Bool.or_true, Bool.false_or, Bool.true_or, Bool.and_true, Bool.true_and, Bool.not_true, Bool.not_false, Bool.and_false, Bool.false_and, Option.map_some, reduceCtorEq, and_true, true_and, and_self] at q ⊢
                        refine ⟨t, ns, rfl, nt, ?_⟩
                        cases h7 : termD ns t with
                        | false =>
                          rw [h7, Bool.false_and] at q
                          simp only [wB, wS, wE, wA, wAnd, wOr, wAndT, wOrT, wP, wI, tru, eQ, exAt_eq, IAs.isNil, List.map_cons, List.map_nil, List.cons_append, List.nil_append, List.getElem?_cons_zero, List.getElem?_cons_succ, List.set_cons_zero, List.set_cons_succ, Bool.false_eq_true, if_false, if_true, if_pos, List.any_cons, List.any_nil, ofO_some, ofO_none, setMany, bindT, D.truth, D.isTy, D.isBox, bi_len_tup, bi_len_list, bi_len_str, bi_tuple_list, bi_tuple_tup, bi_list_list, bi_list_tup, bi_int_int, eq_int, ne_int, lt_int, le_int, gt_int, ge_int, Bool.or_false, Bool.or_true, Bool.false_or, Bool.true_or, Bool.and_true, Bool.true_and, Bool.not_true, Bool.not_false, Bool.and_false, Bool.false_and, Option.map_some, reduceCtorEq, and_true, true_and, and_self]
                          exact q
                        | true =>
                          rw [h7, Bool.true_and] at q
                          simp only [wB, wS, wE, wA, wAnd, wOr, wAndT, wOrT, wP, wI, tru, eQ, exAt_eq, IAs.isNil, List.map_cons, List.map_nil, List.cons_append, List.nil_append, List.getElem?_cons_zero, List.getElem?_cons_succ, List.set_cons_zero, List.set_cons_succ, Bool.false_eq_true, if_false, if_true, if_pos, List.any_cons, List.any_nil, ofO_some, ofO_none, setMany, bindT, D.truth, D.isTy, D.isBox, bi_len_tup, bi_len_list, bi_len_str, bi_tuple_list, bi_tuple_tup, bi_list_list, bi_list_tup, bi_int_int, eq_int, ne_int, lt_int, le_int, gt_int, ge_int, Bool.or_false, Bool.or_true, Bool.false_or, Bool.true_or, Bool.and_true, Bool.true_and, Bool.not_true, Bool.not_false, Bool.and_false, Bool.false_and, Option.map_some, reduceCtorEq, and_true, true_and, and_self, nin_atoms_tup (term_atom h7) ha, nin_strs_tup nf]
                          cases h8 : hasA th t with
                          | false =>
                            rw [h8, Bool.false_and] at q
                            simp only [wB, wS, wE, wA, wAnd, wOr, wAndT, wOrT, wP, wI, tru, eQ, exAt_eq, IAs.isNil, List.map_cons, List.map_nil, List.cons_append, List.nil_append, List.getElem?_cons_zero, List.getElem?_cons_succ, List.set_cons_zero, List.set_cons_succ, Bool.false_eq_true, if_false, if_true, if_pos, List.any_cons, List.any_nil, ofO_some, ofO_none, setMany, bindT, D.truth, D.isTy, D.isBox, bi_len_tup, bi_len_list, bi_len_str, bi_tuple_list, bi_tuple_tup, bi_list_list, bi_list_tup, bi_int_int, eq_int, ne_int, lt_int, le_int, gt_int, ge_int, Bool.or_false, Bool.or_true, Bool.false_or, Bool.true_or, Bool.and_true, Bool.true_and, Bool.not_true, Bool.not_false, Bool.and_false, Bool.false_and, Option.map_some, reduceCtorEq, and_true, true_and, and_self]
                            exact q
                          | true =>
                            rw [h8, Bool.true_and] at q
                            simp only [wB, wS, wE, wA, wAnd, wOr, wAndT, wOrT, wP, wI, tru, eQ, exAt_eq, IAs.isNil, List.map_cons, List.map_nil, List.cons_append, List.nil_append, List.getElem?_cons_zero, List.getElem?_cons_succ, List.set_cons_zero, List.set_cons_succ, Bool.false_eq_true, if_false, if_true, if_pos, List.any_cons, List.any_nil, ofO_some, ofO_none, setMany, bindT, D.truth, D.isTy, D.isBox, bi_len_tup, bi_len_list, bi_len_str, bi_tuple_list, bi_tuple_tup, bi_list_list, bi_list_tup, bi_int_int, eq_int, ne_int, lt_int, le_int, gt_int, ge_int, Bool.or_false, Bool.or_true, Bool.false_or, Bool.true_or, Bool.and_true, Bool.true_and, Bool.not_true, Bool.not_false, Bool.and_false, Bool.false_and, Option.map_some, reduceCtorEq, and_true, true_and, and_self]
                            cases h9 : hasS fs f with
                            | false =>
                              rw [h9, Bool.false_and] at q
                              simp only [wB, wS, wE, wA, wAnd, wOr, wAndT, wOrT, wP, wI, tru, eQ, exAt_eq, IAs.isNil, List.map_cons, List.map_nil, List.cons_append, List.nil_append, List.getElem?_cons_zero, List.getElem?_cons_succ, List.set_cons_zero, List.set_cons_succ, Bool.false_eq_true, if_false, if_true, if_pos, List.any_cons, List.any_nil, ofO_some, ofO_none, setMany, bindT, D.truth, D.isTy, D.isBox, bi_len_tup, bi_len_list, bi_len_str, bi_tuple_list, bi_tuple_tup, bi_list_list, bi_list_tup, bi_int_int, eq_int, ne_int, lt_int, le_int, gt_int, ge_int, Bool.or_false, Bool.or_true, Bool.false_or, Bool.true_or, Bool.and_true, Bool.true_and, Bool.not_true, Bool.not_false, Bool.and_false, Bool.false_and, Option.map_some, reduceCtorEq, and_true, true_and, and_self]
                              exact q
                            | true =>
                              rw [h9, Bool.true_and] at q
                              simp only [wB, wS, wE, wA, wAnd, wOr, wAndT, wOrT, wP, wI, tru, eQ, exAt_eq, IAs.isNil, List.map_cons, List.map_nil, List.cons_append, List.nil_append, List.getElem?_cons_zero, List.getElem?_cons_succ, List.set_cons_zero, List.set_cons_succ, Bool.false_eq_true, if_false, if_true, if_pos, List.any_cons, List.any_nil, ofO_some, ofO_none, setMany, bindT, D.truth, D.isTy, D.isBox, bi_len_tup, bi_len_list, bi_len_str, bi_tuple_list, bi_tuple_tup, bi_list_list, bi_list_tup, bi_int_int, eq_int, ne_int, lt_int, le_int, gt_int, ge_int, Bool.or_false, Bool.or_true, Bool.false_or, Bool.true_or, Bool.and_true, Bool.true_and, Bool.not_true, Bool.not_false, Bool.and_false, Bool.false_and, Option.map_some, reduceCtorEq, and_true, true_and, and_self]
                              refine ⟨?_, fs, b, ns ++ [z], th, by simp, hx b (by simp), ha, by omega, ?_, q⟩
                              · rw [sizeLine_eq, List.length_append, List.length_singleton, List.length_map]
                                omega
                              · rw [List.length_append, List.length_singleton]
                                omega
                  | _ =>
                    simp only [nameD, wB, wS, wE, wA, wAnd, wOr, wAndT, wOrT, wP, wI, tru, eQ, exAt_eq, IAs.isNil, List.map_cons, List.map_nil, List.cons_append, List.nil_append, List.getElem?_cons_zero, List.getElem?_cons_succ, List.set_cons_zero, List.set_cons_succ, Bool.false_eq_true, if_false, if_true, if_pos, List.any_cons, List.any_nil, ofO_some, ofO_none, setMany, bindT, D.truth, D.isTy, D.isBox, bi_len_tup, bi_len_list, bi_len_str, bi_tuple_list, bi_tuple_tup, bi_list_list, bi_list_tup, bi_int_int, eq_int, ne_int, lt_int, le_int, gt_int, ge_int, Bool.or_false, Bool.or_true, Bool.false_or, Bool.true_or, Bool.and_true, Bool.true_and, Bool.not_true, Bool.not_false, Bool.and_false, Bool.false_and, Option.map_some, reduceCtorEq, and_true, true_and, and_self]
                    exact q
                | [], _, q => exact q
                | [_], _, q => exact q
                | [_, _], _, q => exact q
                | [_, _, _], _, q => exact q
                | x1 :: x2 :: x3 :: x4 :: x5 :: r, _, q =>
                  rw [if_pos (show (!((5 : Int) == ((D.str "let" :: x1 :: x2 :: x3 :: x4 :: x5 :: r).length : Int))) = true from by
                    rw [Bool.not_eq_true', beq_eq_false_iff_ne]
                    simp only [List.length_cons]
                    omega)]
                  exact q
              | false =>
                rw [sz_no h1 h2 h3 h4]
                simp only [wB, wS, wE, wA, wAnd, wOr, wAndT, wOrT, wP, wI, tru, eQ, exAt_eq, IAs.isNil, List.map_cons, List.map_nil, List.cons_append, List.nil_append, List.getElem?_cons_zero, List.getElem?_cons_succ, List.set_cons_zero, List.set_cons_succ, Bool.false_eq_true, if_false, if_true, if_pos, List.any_cons, List.any_nil, ofO_some, ofO_none, setMany, bindT, D.truth, D.isTy, D.isBox, bi_len_tup, bi_len_list, bi_len_str, bi_tuple_list, bi_tuple_tup, bi_list_list, bi_list_tup, bi_int_int, eq_int, ne_int, lt_int, le_int, gt_int, ge_int, Bool.or_false, Bool.or_true, Bool.false_or, Bool.true_or, Bool.and_true, Bool.true_and, Bool.not_true, Bool.not_false, Bool.and_false, Bool.false_and, Option.map_some, reduceCtorEq, and_true, true_and, and_self]
                rw [if_pos (show (!((0 : Int) == ((D.str w :: r).length : Int))) = true from by
                  rw [Bool.not_eq_true', beq_eq_false_iff_ne]
                  simp only [List.length_cons]
                  omega)]
                rw [bodyD.eq_def] at q
                dsimp only at q
                rw [if_neg (by rw [h1]; decide), if_neg (by rw [h2]; decide), if_neg (by rw [h3]; decide), if_neg (by rw [h4]; decide)] at q
                exact q
      | _ =>
        simp only [wB, wS, wE, wA, wAnd, wOr, wAndT, wOrT, wP, wI, tru, eQ, exAt_eq, IAs.isNil, List.map_cons, List.map_nil, List.cons_append, List.nil_append, List.getElem?_cons_zero, List.getElem?_cons_succ, List.set_cons_zero, List.set_cons_succ, Bool.false_eq_true, if_false, if_true, if_pos, List.any_cons, List.any_nil, ofO_some, ofO_none, setMany, bindT, D.truth, D.isTy, D.isBox, bi_len_tup, bi_len_list, bi_len_str, bi_tuple_list, bi_tuple_tup, bi_list_list, bi_list_tup, bi_int_int, eq_int, ne_int, lt_int, le_int, gt_int, ge_int, Bool.or_false, Bool.or_true, Bool.false_or, Bool.true_or, Bool.and_true, Bool.true_and, Bool.not_true, Bool.not_false, Bool.and_false, Bool.false_and, Option.map_some, reduceCtorEq, and_true, true_and, and_self]
        exact q
  | _ =>
    simp only [wB, wS, wE, wA, wAnd, wOr, wAndT, wOrT, wP, wI, tru, eQ, exAt_eq, IAs.isNil, List.map_cons, List.map_nil, List.cons_append, List.nil_append, List.getElem?_cons_zero, List.getElem?_cons_succ, List.set_cons_zero, List.set_cons_succ, Bool.false_eq_true, if_false, if_true, if_pos, List.any_cons, List.any_nil, ofO_some, ofO_none, setMany, bindT, D.truth, D.isTy, D.isBox, bi_len_tup, bi_len_list, bi_len_str, bi_tuple_list, bi_tuple_tup, bi_list_list, bi_list_tup, bi_int_int, eq_int, ne_int, lt_int, le_int, gt_int, ge_int, Bool.or_false, Bool.or_true, Bool.false_or, Bool.true_or, Bool.and_true, Bool.true_and, Bool.not_true, Bool.not_false, Bool.and_false, Bool.false_and, Option.map_some, reduceCtorEq, and_true, true_and, and_self]
    cases m with
    | zero => exact q
    | succ j => exact q
theorem names_strs {lo hi : Int} {xs : List D} (h : namesD lo hi (.tup xs) = true) : ∃ ys, strsD xs = some ys ∧ xs = ys.map .str ∧ (ys.length : Int) ≤ hi := by
  rw [namesD, Bool.and_eq_true, Bool.and_eq_true, Bool.and_eq_true, decide_eq_true_eq, decide_eq_true_eq] at h
  obtain ⟨ys, e1, e2⟩ := strs_names h.2.2.1
  refine ⟨ys, e1, e2, ?_⟩
  have := h.2.1
  rw [e2, List.length_map] at this
  exact this
theorem b_is_kind_of (m : Nat) (hm : m ≤ 900) {ds : List D} (f1 : T.fs "is_name" = some fsName) (f2 : T.fs "are_names" = some fsNames) (f3 : T.fs "is_body" = some (fsBody m)) (g1 : T.gv "MOST_PARAMETERS" = some (.int 2)) (h : fsKind m ds n Q E) :
    wB T ir_is_kind_of (ent0 ["fields", "thing", "name", "parameters", "body"] ds) n (eQ Q E) := by
  obtain ⟨fs, d, rfl, hd, q⟩ := h
  unfold ir_is_kind_of ent0
  simp only [wB, wS, wE, wA, wAnd, wOr, wAndT, wOrT, wP, wI, tru, eQ, exAt_eq, IAs.isNil, List.map_cons, List.map_nil, List.cons_append, List.nil_append, List.getElem?_cons_zero, List.getElem?_cons_succ, List.set_cons_zero, List.set_cons_succ, Bool.false_eq_true, if_false, if_true, if_pos, List.any_cons, List.any_nil, ofO_some, ofO_none, setMany, bindT, D.truth, D.isTy, D.isBox, bi_len_tup, bi_len_list, bi_len_str, bi_tuple_list, bi_tuple_tup, bi_list_list, bi_list_tup, bi_int_int, eq_int, ne_int, lt_int, le_int, gt_int, ge_int, Bool.or_false, Bool.or_true, Bool.false_or, Bool.true_or, Bool.and_true, Bool.true_and, Bool.not_true, Bool.not_false, Bool.and_false, Bool.false_and, Option.map_some, reduceCtorEq, and_true, true_and, and_self, f1, f2, f3, g1, List.length_cons, List.length_nil, List.replicate]
  refine ⟨dp_nb hd, ?_⟩
  cases d with
  | tup xs =>
    obtain ⟨j, e, hx⟩ := dp_tup hd
    obtain rfl : m = j := by omega
    simp only [wB, wS, wE, wA, wAnd, wOr, wAndT, wOrT, wP, wI, tru, eQ, exAt_eq, IAs.isNil, List.map_cons, List.map_nil, List.cons_append, List.nil_append, List.getElem?_cons_zero, List.getElem?_cons_succ, List.set_cons_zero, List.set_cons_succ, Bool.false_eq_true, if_false, if_true, if_pos, List.any_cons, List.any_nil, ofO_some, ofO_none, setMany, bindT, D.truth, D.isTy, D.isBox, bi_len_tup, bi_len_list, bi_len_str, bi_tuple_list, bi_tuple_tup, bi_list_list, bi_list_tup, bi_int_int, eq_int, ne_int, lt_int, le_int, gt_int, ge_int, Bool.or_false, Bool.or_true, Bool.false_or, Bool.true_or, Bool.and_true, Bool.true_and, Bool.not_true, Bool.not_false, Bool.and_false, Bool.false_and, Option.map_some, reduceCtorEq, and_true, true_and, and_self]
    match xs, hx, q with
    | [nm, ps, b], hx, q =>
      rw [if_neg (show ¬ (!((([nm, ps, b] : List D).length : Int) == 3)) = true from by show ¬ (!((3 : Int) == 3)) = true; decide)]
      have q : Q (.bl (nameD nm && (match parsD ps with
        | some ns => bodyD fs m ns [] b
        | none => false))) n := q
      simp only [wB, wS, wE, wA, wAnd, wOr, wAndT, wOrT, wP, wI, tru, eQ, exAt_eq, IAs.isNil, List.map_cons, List.map_nil, List.cons_append, List.nil_append, List.getElem?_cons_zero, List.getElem?_cons_succ, List.set_cons_zero, List.set_cons_succ, Bool.false_eq_true, if_false, if_true, if_pos, List.any_cons, List.any_nil, ofO_some, ofO_none, setMany, bindT, D.truth, D.isTy, D.isBox, bi_len_tup, bi_len_list, bi_len_str, bi_tuple_list, bi_tuple_tup, bi_list_list, bi_list_tup, bi_int_int, eq_int, ne_int, lt_int, le_int, gt_int, ge_int, Bool.or_false, Bool.or_true, Bool.false_or, Bool.true_or, Bool.and_true, Bool.true_and, Bool.not_true, Bool.not_false, Bool.and_false, Bool.false_and, Option.map_some, reduceCtorEq, and_true, true_and, and_self]
      refine ⟨nm, rfl, dp_nb (hx nm (by simp)), ?_⟩
      cases h1 : nameD nm with
      | false =>
        rw [h1, Bool.false_and] at q
        simp only [wB, wS, wE, wA, wAnd, wOr, wAndT, wOrT, wP, wI, tru, eQ, exAt_eq, IAs.isNil, List.map_cons, List.map_nil, List.cons_append, List.nil_append, List.getElem?_cons_zero, List.getElem?_cons_succ, List.set_cons_zero, List.set_cons_succ, Bool.false_eq_true, if_false, if_true, if_pos, List.any_cons, List.any_nil, ofO_some, ofO_none, setMany, bindT, D.truth, D.isTy, D.isBox, bi_len_tup, bi_len_list, bi_len_str, bi_tuple_list, bi_tuple_tup, bi_list_list, bi_list_tup, bi_int_int, eq_int, ne_int, lt_int, le_int, gt_int, ge_int, Bool.or_false, Bool.or_true, Bool.false_or, Bool.true_or, Bool.and_true, Bool.true_and, Bool.not_true, Bool.not_false, Bool.and_false, Bool.false_and, Option.map_some, reduceCtorEq, and_true, true_and, and_self]
        exact q
      | true =>
        rw [h1, Bool.true_and] at q
        simp only [wB, wS, wE, wA, wAnd, wOr, wAndT, wOrT, wP, wI, tru, eQ, exAt_eq, IAs.isNil, List.map_cons, List.map_nil, List.cons_append, List.nil_append, List.getElem?_cons_zero, List.getElem?_cons_succ, List.set_cons_zero, List.set_cons_succ, Bool.false_eq_true, if_false, if_true, if_pos, List.any_cons, List.any_nil, ofO_some, ofO_none, setMany, bindT, D.truth, D.isTy, D.isBox, bi_len_tup, bi_len_list, bi_len_str, bi_tuple_list, bi_tuple_tup, bi_list_list, bi_list_tup, bi_int_int, eq_int, ne_int, lt_int, le_int, gt_int, ge_int, Bool.or_false, Bool.or_true, Bool.false_or, Bool.true_or, Bool.and_true, Bool.true_and, Bool.not_true, Bool.not_false, Bool.and_false, Bool.false_and, Option.map_some, reduceCtorEq, and_true, true_and, and_self]
        refine ⟨ps, 0, 2, m, rfl, by decide, hx ps (by simp), ?_⟩
        cases ps with
        | tup xs =>
          rw [parsD] at q
          cases h2 : namesD 0 2 (.tup xs) with
          | false =>
            rw [h2] at q
            simp only [wB, wS, wE, wA, wAnd, wOr, wAndT, wOrT, wP, wI, tru, eQ, exAt_eq, IAs.isNil, List.map_cons, List.map_nil, List.cons_append, List.nil_append, List.getElem?_cons_zero, List.getElem?_cons_succ, List.set_cons_zero, List.set_cons_succ, Bool.false_eq_true, if_false, if_true, if_pos, List.any_cons, List.any_nil, ofO_some, ofO_none, setMany, bindT, D.truth, D.isTy, D.isBox, bi_len_tup, bi_len_list, bi_len_str, bi_tuple_list, bi_tuple_tup, bi_list_list, bi_list_tup, bi_int_int, eq_int, ne_int, lt_int, le_int, gt_int, ge_int, Bool.or_false, Bool.or_true, Bool.false_or, Bool.true_or, Bool.and_true, Bool.true_and, Bool.not_true, Bool.not_false, Bool.and_false, Bool.false_and, Option.map_some, reduceCtorEq, and_true, true_and, and_self] at q ⊢
            exact q
          | true =>
            obtain ⟨ys, e1, e2, e3⟩ := names_strs h2
            rw [h2, if_pos rfl, e1] at q
            have q9 : Q (.bl (bodyD fs m ys [] b)) n := q
            rw [e2]
            simp only [wB, wS, wE, wA, wAnd, wOr, wAndT, wOrT, wP, wI, tru, eQ, exAt_eq, IAs.isNil, List.map_cons, List.map_nil, List.cons_append, List.nil_append, List.getElem?_cons_zero, List.getElem?_cons_succ, List.set_cons_zero, List.set_cons_succ, Bool.false_eq_true, if_false, if_true, if_pos, List.any_cons, List.any_nil, ofO_some, ofO_none, setMany, bindT, D.truth, D.isTy, D.isBox, bi_len_tup, bi_len_list, bi_len_str, bi_tuple_list, bi_tuple_tup, bi_list_list, bi_list_tup, bi_int_int, eq_int, ne_int, lt_int, le_int, gt_int, ge_int, Bool.or_false, Bool.or_true, Bool.false_or, Bool.true_or, Bool.and_true, Bool.true_and, Bool.not_true, Bool.not_false, Bool.and_false, Bool.false_and, Option.map_some, reduceCtorEq, and_true, true_and, and_self]
            exact ⟨Nat.zero_le _, fs, b, ys, [], rfl, hx b (by simp), rfl, by simp; omega, by omega, q9⟩
        | _ =>
          simp only [namesD, wB, wS, wE, wA, wAnd, wOr, wAndT, wOrT, wP, wI, tru, eQ, exAt_eq, IAs.isNil, List.map_cons, List.map_nil, List.cons_append, List.nil_append, List.getElem?_cons_zero, List.getElem?_cons_succ, List.set_cons_zero, List.set_cons_succ, Bool.false_eq_true, if_false, if_true, if_pos, List.any_cons, List.any_nil, ofO_some, ofO_none, setMany, bindT, D.truth, D.isTy, D.isBox, bi_len_tup, bi_len_list, bi_len_str, bi_tuple_list, bi_tuple_tup, bi_list_list, bi_list_tup, bi_int_int, eq_int, ne_int, lt_int, le_int, gt_int, ge_int, Bool.or_false, Bool.or_true, Bool.false_or, Bool.true_or, Bool.and_true, Bool.true_and, Bool.not_true, Bool.not_false, Bool.and_false, Bool.false_and, Option.map_some, reduceCtorEq, and_true, true_and, and_self]
          exact q
    | [], _, q => exact q
    | [_], _, q => exact q
    | [_, _], _, q => exact q
    | x1 :: x2 :: x3 :: x4 :: r, _, q =>
      rw [if_pos (show (!(((x1 :: x2 :: x3 :: x4 :: r).length : Int) == 3)) = true from by
        rw [Bool.not_eq_true', beq_eq_false_iff_ne]
        simp only [List.length_cons]
        omega)]
      exact q
  | _ =>
    simp only [wB, wS, wE, wA, wAnd, wOr, wAndT, wOrT, wP, wI, tru, eQ, exAt_eq, IAs.isNil, List.map_cons, List.map_nil, List.cons_append, List.nil_append, List.getElem?_cons_zero, List.getElem?_cons_succ, List.set_cons_zero, List.set_cons_succ, Bool.false_eq_true, if_false, if_true, if_pos, List.any_cons, List.any_nil, ofO_some, ofO_none, setMany, bindT, D.truth, D.isTy, D.isBox, bi_len_tup, bi_len_list, bi_len_str, bi_tuple_list, bi_tuple_tup, bi_list_list, bi_list_tup, bi_int_int, eq_int, ne_int, lt_int, le_int, gt_int, ge_int, Bool.or_false, Bool.or_true, Bool.false_or, Bool.true_or, Bool.and_true, Bool.true_and, Bool.not_true, Bool.not_false, Bool.and_false, Bool.false_and, Option.map_some, reduceCtorEq, and_true, true_and, and_self]
    exact q
/-! ### tupled -/
mutual
def tupD : D → D
  | .list xs => .tup (tupsD xs)
  | .tup xs => .tup (tupsD xs)
  | d => d
def tupsD : List D → List D
  | [] => []
  | x :: xs => tupD x :: tupsD xs
end
theorem tups_map : ∀ xs : List D, tupsD xs = xs.map tupD
  | [] => by rw [tupsD]; rfl
  | x :: xs => by rw [tupsD, tups_map xs]; rfl
theorem tups_strs (fs : List Str) : tupsD (fs.map .str) = fs.map .str := by
  rw [tups_map, List.map_map]
  refine List.map_congr_left fun z _ => ?_
  show tupD (.str z) = .str z
  rw [tupD]
  all_goals (intro xs h; cases h)
def fsTupled (m : Nat) : FS := fun ds n Q _ => ∃ d, ds = [d] ∧ d.dp m = true ∧ Q (tupD d) n
theorem b_tupled (m : Nat) {ds : List D} (f1 : ∀ j, m = j + 1 → T.fs "tupled" = some (fsTupled j)) (h : fsTupled m ds n Q E) : wB T ir_tupled (ent0 ["thing", "part"] ds) n (eQ Q E) := by
  obtain ⟨d, rfl, hd, q⟩ := h
  unfold ir_tupled ent0
  simp only [wB, wS, wE, wA, wAnd, wOr, wAndT, wOrT, wP, wI, tru, eQ, exAt_eq, IAs.isNil, List.map_cons, List.map_nil, List.cons_append, List.nil_append, List.getElem?_cons_zero, List.getElem?_cons_succ, List.set_cons_zero, List.set_cons_succ, Bool.false_eq_true, if_false, if_true, if_pos, List.any_cons, List.any_nil, ofO_some, ofO_none, setMany, bindT, D.truth, D.isTy, D.isBox, bi_len_tup, bi_len_list, bi_len_str, bi_tuple_list, bi_tuple_tup, bi_list_list, bi_list_tup, bi_int_int, eq_int, ne_int, lt_int, le_int, gt_int, ge_int, Bool.or_false, Bool.or_true, Bool.false_or, Bool.true_or, Bool.and_true, Bool.true_and, Bool.not_true, Bool.not_false, Bool.and_false, Bool.false_and, Option.map_some, reduceCtorEq, and_true, true_and, and_self, List.length_cons, List.length_nil, List.replicate]
  refine ⟨dp_nb hd, ?_⟩
  cases d with
  | tup xs =>
    obtain ⟨j, rfl, hx⟩ := dp_tup hd
    simp only [wB, wS, wE, wA, wAnd, wOr, wAndT, wOrT, wP, wI, tru, eQ, exAt_eq, IAs.isNil, List.map_cons, List.map_nil, List.cons_append, List.nil_append, List.getElem?_cons_zero, List.getElem?_cons_succ, List.set_cons_zero, List.set_cons_succ, Bool.false_eq_true, if_false, if_true, if_pos, List.any_cons, List.any_nil, ofO_some, ofO_none, setMany, bindT, D.truth, D.isTy, D.isBox, bi_len_tup, bi_len_list, bi_len_str, bi_tuple_list, bi_tuple_tup, bi_list_list, bi_list_tup, bi_int_int, eq_int, ne_int, lt_int, le_int, gt_int, ge_int, Bool.or_false, Bool.or_true, Bool.false_or, Bool.true_or, Bool.and_true, Bool.true_and, Bool.not_true, Bool.not_false, Bool.and_false, Bool.false_and, Option.map_some, reduceCtorEq, and_true, true_and, and_self, itemsD, f1 j rfl]
    refine compL_map (g := tupD) (fun d hd n k hk => ⟨d, rfl, hx d hd, hk⟩) ?_
    rw [tupD, tups_map] at q
    exact q
  | list xs =>
    obtain ⟨j, rfl, hx⟩ := dp_list hd
    simp only [wB, wS, wE, wA, wAnd, wOr, wAndT, wOrT, wP, wI, tru, eQ, exAt_eq, IAs.isNil, List.map_cons, List.map_nil, List.cons_append, List.nil_append, List.getElem?_cons_zero, List.getElem?_cons_succ, List.set_cons_zero, List.set_cons_succ, Bool.false_eq_true, if_false, if_true, if_pos, List.any_cons, List.any_nil, ofO_some, ofO_none, setMany, bindT, D.truth, D.isTy, D.isBox, bi_len_tup, bi_len_list, bi_len_str, bi_tuple_list, bi_tuple_tup, bi_list_list, bi_list_tup, bi_int_int, eq_int, ne_int, lt_int, le_int, gt_int, ge_int, Bool.or_false, Bool.or_true, Bool.false_or, Bool.true_or, Bool.and_true, Bool.true_and, Bool.not_true, Bool.not_false, Bool.and_false, Bool.false_and, Option.map_some, reduceCtorEq, and_true, true_and, and_self, itemsD, f1 j rfl]
    refine compL_map (g := tupD) (fun d hd n k hk => ⟨d, rfl, hx d hd, hk⟩) ?_
    rw [tupD, tups_map] at q
    exact q
  | _ =>
    simp only [wB, wS, wE, wA, wAnd, wOr, wAndT, wOrT, wP, wI, tru, eQ, exAt_eq, IAs.isNil, List.map_cons, List.map_nil, List.cons_append, List.nil_append, List.getElem?_cons_zero, List.getElem?_cons_succ, List.set_cons_zero, List.set_cons_succ, Bool.false_eq_true, if_false, if_true, if_pos, List.any_cons, List.any_nil, ofO_some, ofO_none, setMany, bindT, D.truth, D.isTy, D.isBox, bi_len_tup, bi_len_list, bi_len_str, bi_tuple_list, bi_tuple_tup, bi_list_list, bi_list_tup, bi_int_int, eq_int, ne_int, lt_int, le_int, gt_int, ge_int, Bool.or_false, Bool.or_true, Bool.false_or, Bool.true_or, Bool.and_true, Bool.true_and, Bool.not_true, Bool.not_false, Bool.and_false, Bool.false_and, Option.map_some, reduceCtorEq, and_true, true_and, and_self]
    exact q
end
end Dl

set_option Elab.async false
set_option linter.all false
set_option maxRecDepth 100000
set_option maxHeartbeats 4000000
/-! The law's own tests of KINDs tell the same. -/
namespace Dl
open PySem PySem.Spec PyProof.Rows L2
def fsTermL : FS := fun ds n Q _ => ∃ d ns, ds = [d, .list (ns.map .str)] ∧ d.isBox = false ∧ Q (.bl (termD ns d)) n
def fsChangeL : FS := fun ds n Q _ => ∃ fs d ns m, ds = [.tup (fs.map .str), d, .list (ns.map .str)] ∧ d.dp m = true ∧ Q (.bl (changeD fs ns d)) n
def fsSayL : FS := fun ds n Q _ => ∃ fs ns w c nm m, ds = [.tup (fs.map .str), .tup [w, c, nm], .list (ns.map .str)] ∧ c.dp m = true ∧ nm.dp m = true ∧ Q (.bl (nameD nm && saysD fs ns c)) n
def fsBodyL (m : Nat) : FS := fun ds n Q _ => ∃ fs d ns th, ds = [.tup (fs.map .str), d, .list (ns.map .str), .list th] ∧ d.dp m = true ∧ th.all D.atom = true ∧ th.length + m ≤ 1000 ∧ ns.length + m ≤ 1000 ∧ Q (.bl (bodyD fs m ns th d)) n
theorem eq_nil (xs : List D) : cmpop .eq (.tup xs) (.tup []) = some xs.isEmpty := by
  have h1 : eqOk (.tup xs) (.tup []) = true := by simp [eqOk]
  rw [c_eq, if_pos h1]
  cases xs with
  | nil => rfl
  | cons x xs => rfl
theorem add_list {a c : List D} (h : a.length + c.length ≤ sizeLine) : binop .add (.list a) (.list c) = some (.list (a ++ c)) := by
  show (if a.length + c.length ≤ sizeLine then some (D.list (a ++ c)) else none) = _
  rw [if_pos h]
section
variable {T : Tab} {n : Nat} {Q : D → Nat → Prop} {E : QX}
theorem b_law_is_number {ds : List D} (h : fsNum ds n Q E) : wB T ir_law_is_number (ent0 ["_law_matter"] ds) n (eQ Q E) := by
  obtain ⟨d, rfl, hb, q⟩ := h
  unfold ir_law_is_number ent0
  simp only [wB, wS, wE, wA, wAnd, wOr, wAndT, wOrT, wP, wI, tru, eQ, exAt_eq, IAs.isNil, List.map_cons, List.map_nil, List.cons_append, List.nil_append, List.getElem?_cons_zero, List.getElem?_cons_succ, List.set_cons_zero, List.set_cons_succ, Bool.false_eq_true, if_false, if_true, if_pos, List.any_cons, List.any_nil, ofO_some, ofO_none, setMany, bindT, D.truth, D.isTy, D.isBox, bi_len_tup, bi_len_list, bi_len_str, bi_tuple_list, bi_tuple_tup, bi_list_list, bi_list_tup, bi_int_int, eq_int, ne_int, lt_int, le_int, gt_int, ge_int, Bool.or_false, Bool.or_true, Bool.false_or, Bool.true_or, Bool.and_true, Bool.true_and, Bool.not_true, Bool.not_false, Bool.and_false, Bool.false_and, Option.map_some, reduceCtorEq, and_true, true_and, and_self]
  cases d <;> simp_all [D.isTy, D.truth, isNum, D.isBox]
theorem b_law_is_name {ds : List D} (h : fsName ds n Q E) : wB T ir_law_is_name (ent0 ["_law_matter", "_law_sign"] ds) n (eQ Q E) := by
  obtain ⟨d, rfl, hb, q⟩ := h
  unfold ir_law_is_name ent0
  simp only [wB, wS, wE, wA, wAnd, wOr, wAndT, wOrT, wP, wI, tru, eQ, exAt_eq, IAs.isNil, List.map_cons, List.map_nil, List.cons_append, List.nil_append, List.getElem?_cons_zero, List.getElem?_cons_succ, List.set_cons_zero, List.set_cons_succ, Bool.false_eq_true, if_false, if_true, if_pos, List.any_cons, List.any_nil, ofO_some, ofO_none, setMany, bindT, D.truth, D.isTy, D.isBox, bi_len_tup, bi_len_list, bi_len_str, bi_tuple_list, bi_tuple_tup, bi_list_list, bi_list_tup, bi_int_int, eq_int, ne_int, lt_int, le_int, gt_int, ge_int, Bool.or_false, Bool.or_true, Bool.false_or, Bool.true_or, Bool.and_true, Bool.true_and, Bool.not_true, Bool.not_false, Bool.and_false, Bool.false_and, Option.map_some, reduceCtorEq, and_true, true_and, and_self, List.length_cons, List.length_nil, List.replicate]
  refine ⟨hb, ?_⟩
  cases d with
  | str z =>
    simp only [wB, wS, wE, wA, wAnd, wOr, wAndT, wOrT, wP, wI, tru, eQ, exAt_eq, IAs.isNil, List.map_cons, List.map_nil, List.cons_append, List.nil_append, List.getElem?_cons_zero, List.getElem?_cons_succ, List.set_cons_zero, List.set_cons_succ, Bool.false_eq_true, if_false, if_true, if_pos, List.any_cons, List.any_nil, ofO_some, ofO_none, setMany, bindT, D.truth, D.isTy, D.isBox, bi_len_tup, bi_len_list, bi_len_str, bi_tuple_list, bi_tuple_tup, bi_list_list, bi_list_tup, bi_int_int, eq_int, ne_int, lt_int, le_int, gt_int, ge_int, Bool.or_false, Bool.or_true, Bool.false_or, Bool.true_or, Bool.and_true, Bool.true_and, Bool.not_true, Bool.not_false, Bool.and_false, Bool.false_and, Option.map_some, reduceCtorEq, and_true, true_and, and_self, itemsD]
    by_cases h1 : 0 < (z.length : Int)
    · rw [decide_eq_true h1]
      simp only [wB, wS, wE, wA, wAnd, wOr, wAndT, wOrT, wP, wI, tru, eQ, exAt_eq, IAs.isNil, List.map_cons, List.map_nil, List.cons_append, List.nil_append, List.getElem?_cons_zero, List.getElem?_cons_succ, List.set_cons_zero, List.set_cons_succ, Bool.false_eq_true, if_false, if_true, if_pos, List.any_cons, List.any_nil, ofO_some, ofO_none, setMany, bindT, D.truth, D.isTy, D.isBox, bi_len_tup, bi_len_list, bi_len_str, bi_tuple_list, bi_tuple_tup, bi_list_list, bi_list_tup, bi_int_int, eq_int, ne_int, lt_int, le_int, gt_int, ge_int, Bool.or_false, Bool.or_true, Bool.false_or, Bool.true_or, Bool.and_true, Bool.true_and, Bool.not_true, Bool.not_false, Bool.and_false, Bool.false_and, Option.map_some, reduceCtorEq, and_true, true_and, and_self]
      by_cases h2 : (z.length : Int) ≤ 8
      · rw [decide_eq_true (show (z.length : Int) < 9 by omega)]
        simp only [wB, wS, wE, wA, wAnd, wOr, wAndT, wOrT, wP, wI, tru, eQ, exAt_eq, IAs.isNil, List.map_cons, List.map_nil, List.cons_append, List.nil_append, List.getElem?_cons_zero, List.getElem?_cons_succ, List.set_cons_zero, List.set_cons_succ, Bool.false_eq_true, if_false, if_true, if_pos, List.any_cons, List.any_nil, ofO_some, ofO_none, setMany, bindT, D.truth, D.isTy, D.isBox, bi_len_tup, bi_len_list, bi_len_str, bi_tuple_list, bi_tuple_tup, bi_list_list, bi_list_tup, bi_int_int, eq_int, ne_int, lt_int, le_int, gt_int, ge_int, Bool.or_false, Bool.or_true, Bool.false_or, Bool.true_or, Bool.and_true, Bool.true_and, Bool.not_true, Bool.not_false, Bool.and_false, Bool.false_and, Option.map_some, reduceCtorEq, and_true, true_and, and_self]
        refine all_comp (f := fun d => match d with
          | .str y => inS y lettersS
          | _ => false) (fun d hd n k hk => ?_) ?_
        · obtain ⟨c, _, rfl⟩ := List.mem_map.mp hd
          exact hk
        · rw [nameD, nameS, decide_eq_true h1, decide_eq_true h2, Bool.true_and, Bool.true_and] at q
          exact q
      · rw [decide_eq_false (show ¬ (z.length : Int) < 9 by omega)]
        simp only [wB, wS, wE, wA, wAnd, wOr, wAndT, wOrT, wP, wI, tru, eQ, exAt_eq, IAs.isNil, List.map_cons, List.map_nil, List.cons_append, List.nil_append, List.getElem?_cons_zero, List.getElem?_cons_succ, List.set_cons_zero, List.set_cons_succ, Bool.false_eq_true, if_false, if_true, if_pos, List.any_cons, List.any_nil, ofO_some, ofO_none, setMany, bindT, D.truth, D.isTy, D.isBox, bi_len_tup, bi_len_list, bi_len_str, bi_tuple_list, bi_tuple_tup, bi_list_list, bi_list_tup, bi_int_int, eq_int, ne_int, lt_int, le_int, gt_int, ge_int, Bool.or_false, Bool.or_true, Bool.false_or, Bool.true_or, Bool.and_true, Bool.true_and, Bool.not_true, Bool.not_false, Bool.and_false, Bool.false_and, Option.map_some, reduceCtorEq, and_true, true_and, and_self]
        rw [nameD, nameS, decide_eq_true h1, decide_eq_false h2, Bool.true_and, Bool.false_and] at q
        exact q
    · rw [decide_eq_false h1]
      simp only [wB, wS, wE, wA, wAnd, wOr, wAndT, wOrT, wP, wI, tru, eQ, exAt_eq, IAs.isNil, List.map_cons, List.map_nil, List.cons_append, List.nil_append, List.getElem?_cons_zero, List.getElem?_cons_succ, List.set_cons_zero, List.set_cons_succ, Bool.false_eq_true, if_false, if_true, if_pos, List.any_cons, List.any_nil, ofO_some, ofO_none, setMany, bindT, D.truth, D.isTy, D.isBox, bi_len_tup, bi_len_list, bi_len_str, bi_tuple_list, bi_tuple_tup, bi_list_list, bi_list_tup, bi_int_int, eq_int, ne_int, lt_int, le_int, gt_int, ge_int, Bool.or_false, Bool.or_true, Bool.false_or, Bool.true_or, Bool.and_true, Bool.true_and, Bool.not_true, Bool.not_false, Bool.and_false, Bool.false_and, Option.map_some, reduceCtorEq, and_true, true_and, and_self]
      rw [nameD, nameS, decide_eq_false h1, Bool.false_and] at q
      exact q
  | _ =>
    simp only [wB, wS, wE, wA, wAnd, wOr, wAndT, wOrT, wP, wI, tru, eQ, exAt_eq, IAs.isNil, List.map_cons, List.map_nil, List.cons_append, List.nil_append, List.getElem?_cons_zero, List.getElem?_cons_succ, List.set_cons_zero, List.set_cons_succ, Bool.false_eq_true, if_false, if_true, if_pos, List.any_cons, List.any_nil, ofO_some, ofO_none, setMany, bindT, D.truth, D.isTy, D.isBox, bi_len_tup, bi_len_list, bi_len_str, bi_tuple_list, bi_tuple_tup, bi_list_list, bi_list_tup, bi_int_int, eq_int, ne_int, lt_int, le_int, gt_int, ge_int, Bool.or_false, Bool.or_true, Bool.false_or, Bool.true_or, Bool.and_true, Bool.true_and, Bool.not_true, Bool.not_false, Bool.and_false, Bool.false_and, Option.map_some, reduceCtorEq, and_true, true_and, and_self]
    exact q
theorem b_law_is_term {ds : List D} (f1 : T.fs "_law_is_number" = some fsNum) (h : fsTermL ds n Q E) : wB T ir_law_is_term (ent0 ["_law_matter", "_law_names_so"] ds) n (eQ Q E) := by
  obtain ⟨d, ns, rfl, hb, q⟩ := h
  unfold ir_law_is_term ent0
  simp only [wB, wS, wE, wA, wAnd, wOr, wAndT, wOrT, wP, wI, tru, eQ, exAt_eq, IAs.isNil, List.map_cons, List.map_nil, List.cons_append, List.nil_append, List.getElem?_cons_zero, List.getElem?_cons_succ, List.set_cons_zero, List.set_cons_succ, Bool.false_eq_true, if_false, if_true, if_pos, List.any_cons, List.any_nil, ofO_some, ofO_none, setMany, bindT, D.truth, D.isTy, D.isBox, bi_len_tup, bi_len_list, bi_len_str, bi_tuple_list, bi_tuple_tup, bi_list_list, bi_list_tup, bi_int_int, eq_int, ne_int, lt_int, le_int, gt_int, ge_int, Bool.or_false, Bool.or_true, Bool.false_or, Bool.true_or, Bool.and_true, Bool.true_and, Bool.not_true, Bool.not_false, Bool.and_false, Bool.false_and, Option.map_some, reduceCtorEq, and_true, true_and, and_self, f1, List.length_cons, List.length_nil, List.replicate]
  refine ⟨d, rfl, hb, ?_⟩
  cases d with
  | str z =>
    simp only [isNum, wB, wS, wE, wA, wAnd, wOr, wAndT, wOrT, wP, wI, tru, eQ, exAt_eq, IAs.isNil, List.map_cons, List.map_nil, List.cons_append, List.nil_append, List.getElem?_cons_zero, List.getElem?_cons_succ, List.set_cons_zero, List.set_cons_succ, Bool.false_eq_true, if_false, if_true, if_pos, List.any_cons, List.any_nil, ofO_some, ofO_none, setMany, bindT, D.truth, D.isTy, D.isBox, bi_len_tup, bi_len_list, bi_len_str, bi_tuple_list, bi_tuple_tup, bi_list_list, bi_list_tup, bi_int_int, eq_int, ne_int, lt_int, le_int, gt_int, ge_int, Bool.or_false, Bool.or_true, Bool.false_or, Bool.true_or, Bool.and_true, Bool.true_and, Bool.not_true, Bool.not_false, Bool.and_false, Bool.false_and, Option.map_some, reduceCtorEq, and_true, true_and, and_self]
    rw [in_strs_list (x := .str z) rfl]
    exact q
  | int i => exact q
  | box => cases hb
  | _ => simp only [isNum, wB, wS, wE, wA, wAnd, wOr, wAndT, wOrT, wP, wI, tru, eQ, exAt_eq, IAs.isNil, List.map_cons, List.map_nil, List.cons_append, List.nil_append, List.getElem?_cons_zero, List.getElem?_cons_succ, List.set_cons_zero, List.set_cons_succ, Bool.false_eq_true, if_false, if_true, if_pos, List.any_cons, List.any_nil, ofO_some, ofO_none, setMany, bindT, D.truth, D.isTy, D.isBox, bi_len_tup, bi_len_list, bi_len_str, bi_tuple_list, bi_tuple_tup, bi_list_list, bi_list_tup, bi_int_int, eq_int, ne_int, lt_int, le_int, gt_int, ge_int, Bool.or_false, Bool.or_true, Bool.false_or, Bool.true_or, Bool.and_true, Bool.true_and, Bool.not_true, Bool.not_false, Bool.and_false, Bool.false_and, Option.map_some, reduceCtorEq, and_true, true_and, and_self]; exact q
theorem b_law_is_change {ds : List D} (f1 : T.fs "_law_is_term" = some fsTermL) (h : fsChangeL ds n Q E) : wB T ir_law_is_change (ent0 ["_law_fields_so", "_law_matter", "_law_names_so", "_law_bit"] ds) n (eQ Q E) := by
  obtain ⟨fs, d, ns, m, rfl, hd, q⟩ := h
  unfold ir_law_is_change ent0
  simp only [wB, wS, wE, wA, wAnd, wOr, wAndT, wOrT, wP, wI, tru, eQ, exAt_eq, IAs.isNil, List.map_cons, List.map_nil, List.cons_append, List.nil_append, List.getElem?_cons_zero, List.getElem?_cons_succ, List.set_cons_zero, List.set_cons_succ, Bool.false_eq_true, if_false, if_true, if_pos, List.any_cons, List.any_nil, ofO_some, ofO_none, setMany, bindT, D.truth, D.isTy, D.isBox, bi_len_tup, bi_len_list, bi_len_str, bi_tuple_list, bi_tuple_tup, bi_list_list, bi_list_tup, bi_int_int, eq_int, ne_int, lt_int, le_int, gt_int, ge_int, Bool.or_false, Bool.or_true, Bool.false_or, Bool.true_or, Bool.and_true, Bool.true_and, Bool.not_true, Bool.not_false, Bool.and_false, Bool.false_and, Option.map_some, reduceCtorEq, and_true, true_and, and_self, f1, List.length_cons, List.length_nil, List.replicate]
  refine ⟨dp_nb hd, ?_⟩
  cases d with
  | tup xs =>
    obtain ⟨j, rfl, hx⟩ := dp_tup hd
    have h3 : (3 : Nat) ≤ sizeLine := by rw [sizeLine_eq]; omega
    have e3 : ∀ k : Int, cmpop .notin (.int k) (.tup [.int 2, .int 3, .int 4]) = some (!hasA [.int 2, .int 3, .int 4] (.int k)) := fun k => nin_atoms_tup rfl rfl
    have no : ∀ k : Int, ¬ k = 2 → ¬ k = 3 → ¬ k = 4 → hasA [.int 2, .int 3, .int 4] (.int k) = false := fun k a b c => by
      have e : ∀ i : Int, (D.int i).eqb (.int k) = (i == k) := fun i => rfl
      have c2 : ((2 : Int) == k) = false := by rw [beq_eq_false_iff_ne]; omega
      have c3 : ((3 : Int) == k) = false := by rw [beq_eq_false_iff_ne]; omega
      have c4 : ((4 : Int) == k) = false := by rw [beq_eq_false_iff_ne]; omega
      simp only [hasA, List.any_cons, List.any_nil, e, c2, c3, c4, Bool.or_false]
    simp only [wB, wS, wE, wA, wAnd, wOr, wAndT, wOrT, wP, wI, tru, eQ, exAt_eq, IAs.isNil, List.map_cons, List.map_nil, List.cons_append, List.nil_append, List.getElem?_cons_zero, List.getElem?_cons_succ, List.set_cons_zero, List.set_cons_succ, Bool.false_eq_true, if_false, if_true, if_pos, List.any_cons, List.any_nil, ofO_some, ofO_none, setMany, bindT, D.truth, D.isTy, D.isBox, bi_len_tup, bi_len_list, bi_len_str, bi_tuple_list, bi_tuple_tup, bi_list_list, bi_list_tup, bi_int_int, eq_int, ne_int, lt_int, le_int, gt_int, ge_int, Bool.or_false, Bool.or_true, Bool.false_or, Bool.true_or, Bool.and_true, Bool.true_and, Bool.not_true, Bool.not_false, Bool.and_false, Bool.false_and, Option.map_some, reduceCtorEq, and_true, true_and, and_self, e3]
    match xs, hx, q with
    | [], _, q =>
      rw [no _ (by simp) (by simp) (by simp)]
      exact ⟨h3, q⟩
    | [a], _, q =>
      rw [no _ (by simp) (by simp) (by simp)]
      exact ⟨h3, q⟩
    | [a, t], hx, q =>
      have na : a.isBox = false := dp_nb (hx a (by simp))
      have nt : t.isBox = false := dp_nb (hx t (by simp))
      rw [show hasA [.int 2, .int 3, .int 4] (.int (([a, t] : List D).length : Int)) = true from rfl]
      simp only [wB, wS, wE, wA, wAnd, wOr, wAndT, wOrT, wP, wI, tru, eQ, exAt_eq, IAs.isNil, List.map_cons, List.map_nil, List.cons_append, List.nil_append, List.getElem?_cons_zero, List.getElem?_cons_succ, List.set_cons_zero, List.set_cons_succ, Bool.false_eq_true, if_false, if_true, if_pos, List.any_cons, List.any_nil, ofO_some, ofO_none, setMany, bindT, D.truth, D.isTy, D.isBox, bi_len_tup, bi_len_list, bi_len_str, bi_tuple_list, bi_tuple_tup, bi_list_list, bi_list_tup, bi_int_int, eq_int, ne_int, lt_int, le_int, gt_int, ge_int, Bool.or_false, Bool.or_true, Bool.false_or, Bool.true_or, Bool.and_true, Bool.true_and, Bool.not_true, Bool.not_false, Bool.and_false, Bool.false_and, Option.map_some, reduceCtorEq, and_true, true_and, and_self, ix0, ix1, eq_w na, ne_w na]
      refine ⟨h3, t, ns, rfl, nt, ?_⟩
      rw [changeD] at q
      cases ht : termD ns t with
      | false =>
        rw [ht, Bool.false_and] at q
        simp only [wB, wS, wE, wA, wAnd, wOr, wAndT, wOrT, wP, wI, tru, eQ, exAt_eq, IAs.isNil, List.map_cons, List.map_nil, List.cons_append, List.nil_append, List.getElem?_cons_zero, List.getElem?_cons_succ, List.set_cons_zero, List.set_cons_succ, Bool.false_eq_true, if_false, if_true, if_pos, List.any_cons, List.any_nil, ofO_some, ofO_none, setMany, bindT, D.truth, D.isTy, D.isBox, bi_len_tup, bi_len_list, bi_len_str, bi_tuple_list, bi_tuple_tup, bi_list_list, bi_list_tup, bi_int_int, eq_int, ne_int, lt_int, le_int, gt_int, ge_int, Bool.or_false, Bool.or_true, Bool.false_or, Bool.true_or, Bool.and_true, Bool.true_and, Bool.not_true, Bool.not_false, Bool.and_false, Bool.false_and, Option.map_some, reduceCtorEq, and_true, true_and, and_self]
        exact q
      | true =>
        rw [ht, Bool.true_and] at q
        simp only [wB, wS, wE, wA, wAnd, wOr, wAndT, wOrT, wP, wI, tru, eQ, exAt_eq, IAs.isNil, List.map_cons, List.map_nil, List.cons_append, List.nil_append, List.getElem?_cons_zero, List.getElem?_cons_succ, List.set_cons_zero, List.set_cons_succ, Bool.false_eq_true, if_false, if_true, if_pos, List.any_cons, List.any_nil, ofO_some, ofO_none, setMany, bindT, D.truth, D.isTy, D.isBox, bi_len_tup, bi_len_list, bi_len_str, bi_tuple_list, bi_tuple_tup, bi_list_list, bi_list_tup, bi_int_int, eq_int, ne_int, lt_int, le_int, gt_int, ge_int, Bool.or_false, Bool.or_true, Bool.false_or, Bool.true_or, Bool.and_true, Bool.true_and, Bool.not_true, Bool.not_false, Bool.and_false, Bool.false_and, Option.map_some, reduceCtorEq, and_true, true_and, and_self]
        exact q
    | [a, t, v], hx, q =>
      have na : a.isBox = false := dp_nb (hx a (by simp))
      have nt : t.isBox = false := dp_nb (hx t (by simp))
      have nv : v.isBox = false := dp_nb (hx v (by simp))
      have dv := hx v (by simp)
      rw [show hasA [.int 2, .int 3, .int 4] (.int (([a, t, v] : List D).length : Int)) = true from rfl]
      simp only [wB, wS, wE, wA, wAnd, wOr, wAndT, wOrT, wP, wI, tru, eQ, exAt_eq, IAs.isNil, List.map_cons, List.map_nil, List.cons_append, List.nil_append, List.getElem?_cons_zero, List.getElem?_cons_succ, List.set_cons_zero, List.set_cons_succ, Bool.false_eq_true, if_false, if_true, if_pos, List.any_cons, List.any_nil, ofO_some, ofO_none, setMany, bindT, D.truth, D.isTy, D.isBox, bi_len_tup, bi_len_list, bi_len_str, bi_tuple_list, bi_tuple_tup, bi_list_list, bi_list_tup, bi_int_int, eq_int, ne_int, lt_int, le_int, gt_int, ge_int, Bool.or_false, Bool.or_true, Bool.false_or, Bool.true_or, Bool.and_true, Bool.true_and, Bool.not_true, Bool.not_false, Bool.and_false, Bool.false_and, Option.map_some, reduceCtorEq, and_true, true_and, and_self, ix0, ix1, ix2, eq_w na, ne_w na]
      refine ⟨h3, t, ns, rfl, nt, ?_⟩
      rw [changeD] at q
      cases ht : termD ns t with
      | false =>
        rw [ht, Bool.false_and] at q
        simp only [wB, wS, wE, wA, wAnd, wOr, wAndT, wOrT, wP, wI, tru, eQ, exAt_eq, IAs.isNil, List.map_cons, List.map_nil, List.cons_append, List.nil_append, List.getElem?_cons_zero, List.getElem?_cons_succ, List.set_cons_zero, List.set_cons_succ, Bool.false_eq_true, if_false, if_true, if_pos, List.any_cons, List.any_nil, ofO_some, ofO_none, setMany, bindT, D.truth, D.isTy, D.isBox, bi_len_tup, bi_len_list, bi_len_str, bi_tuple_list, bi_tuple_tup, bi_list_list, bi_list_tup, bi_int_int, eq_int, ne_int, lt_int, le_int, gt_int, ge_int, Bool.or_false, Bool.or_true, Bool.false_or, Bool.true_or, Bool.and_true, Bool.true_and, Bool.not_true, Bool.not_false, Bool.and_false, Bool.false_and, Option.map_some, reduceCtorEq, and_true, true_and, and_self]
        exact q
      | true =>
        rw [ht, Bool.true_and] at q
        simp only [wB, wS, wE, wA, wAnd, wOr, wAndT, wOrT, wP, wI, tru, eQ, exAt_eq, IAs.isNil, List.map_cons, List.map_nil, List.cons_append, List.nil_append, List.getElem?_cons_zero, List.getElem?_cons_succ, List.set_cons_zero, List.set_cons_succ, Bool.false_eq_true, if_false, if_true, if_pos, List.any_cons, List.any_nil, ofO_some, ofO_none, setMany, bindT, D.truth, D.isTy, D.isBox, bi_len_tup, bi_len_list, bi_len_str, bi_tuple_list, bi_tuple_tup, bi_list_list, bi_list_tup, bi_int_int, eq_int, ne_int, lt_int, le_int, gt_int, ge_int, Bool.or_false, Bool.or_true, Bool.false_or, Bool.true_or, Bool.and_true, Bool.true_and, Bool.not_true, Bool.not_false, Bool.and_false, Bool.false_and, Option.map_some, reduceCtorEq, and_true, true_and, and_self]
        rw [if_neg (show ¬ ((([a, t, v] : List D).length : Int) == 2) = true from by show ¬ ((3 : Int) == 2) = true; decide), if_neg (show ¬ ((([a, t, v] : List D).length : Int) == 4) = true from by show ¬ ((3 : Int) == 4) = true; decide)]
        cases h1 : isW "make" a with
        | false =>
          rw [h1, Bool.false_and] at q
          simp only [wB, wS, wE, wA, wAnd, wOr, wAndT, wOrT, wP, wI, tru, eQ, exAt_eq, IAs.isNil, List.map_cons, List.map_nil, List.cons_append, List.nil_append, List.getElem?_cons_zero, List.getElem?_cons_succ, List.set_cons_zero, List.set_cons_succ, Bool.false_eq_true, if_false, if_true, if_pos, List.any_cons, List.any_nil, ofO_some, ofO_none, setMany, bindT, D.truth, D.isTy, D.isBox, bi_len_tup, bi_len_list, bi_len_str, bi_tuple_list, bi_tuple_tup, bi_list_list, bi_list_tup, bi_int_int, eq_int, ne_int, lt_int, le_int, gt_int, ge_int, Bool.or_false, Bool.or_true, Bool.false_or, Bool.true_or, Bool.and_true, Bool.true_and, Bool.not_true, Bool.not_false, Bool.and_false, Bool.false_and, Option.map_some, reduceCtorEq, and_true, true_and, and_self]
          exact q
        | true =>
          rw [h1, Bool.true_and] at q
          simp only [wB, wS, wE, wA, wAnd, wOr, wAndT, wOrT, wP, wI, tru, eQ, exAt_eq, IAs.isNil, List.map_cons, List.map_nil, List.cons_append, List.nil_append, List.getElem?_cons_zero, List.getElem?_cons_succ, List.set_cons_zero, List.set_cons_succ, Bool.false_eq_true, if_false, if_true, if_pos, List.any_cons, List.any_nil, ofO_some, ofO_none, setMany, bindT, D.truth, D.isTy, D.isBox, bi_len_tup, bi_len_list, bi_len_str, bi_tuple_list, bi_tuple_tup, bi_list_list, bi_list_tup, bi_int_int, eq_int, ne_int, lt_int, le_int, gt_int, ge_int, Bool.or_false, Bool.or_true, Bool.false_or, Bool.true_or, Bool.and_true, Bool.true_and, Bool.not_true, Bool.not_false, Bool.and_false, Bool.false_and, Option.map_some, reduceCtorEq, and_true, true_and, and_self]
          refine ⟨nv, ?_⟩
          cases v with
          | tup ys =>
            obtain ⟨j', _, hy⟩ := dp_tup dv
            rw [partD] at q
            simp only [wB, wS, wE, wA, wAnd, wOr, wAndT, wOrT, wP, wI, tru, eQ, exAt_eq, IAs.isNil, List.map_cons, List.map_nil, List.cons_append, List.nil_append, List.getElem?_cons_zero, List.getElem?_cons_succ, List.set_cons_zero, List.set_cons_succ, Bool.false_eq_true, if_false, if_true, if_pos, List.any_cons, List.any_nil, ofO_some, ofO_none, setMany, bindT, D.truth, D.isTy, D.isBox, bi_len_tup, bi_len_list, bi_len_str, bi_tuple_list, bi_tuple_tup, bi_list_list, bi_list_tup, bi_int_int, eq_int, ne_int, lt_int, le_int, gt_int, ge_int, Bool.or_false, Bool.or_true, Bool.false_or, Bool.true_or, Bool.and_true, Bool.true_and, Bool.not_true, Bool.not_false, Bool.and_false, Bool.false_and, Option.map_some, reduceCtorEq, and_true, true_and, and_self, List.length_map, itemsD]
            rw [int_len]
            cases h4 : (ys.length == fs.length) with
            | true =>
              simp only [wB, wS, wE, wA, wAnd, wOr, wAndT, wOrT, wP, wI, tru, eQ, exAt_eq, IAs.isNil, List.map_cons, List.map_nil, List.cons_append, List.nil_append, List.getElem?_cons_zero, List.getElem?_cons_succ, List.set_cons_zero, List.set_cons_succ, Bool.false_eq_true, if_false, if_true, if_pos, List.any_cons, List.any_nil, ofO_some, ofO_none, setMany, bindT, D.truth, D.isTy, D.isBox, bi_len_tup, bi_len_list, bi_len_str, bi_tuple_list, bi_tuple_tup, bi_list_list, bi_list_tup, bi_int_int, eq_int, ne_int, lt_int, le_int, gt_int, ge_int, Bool.or_false, Bool.or_true, Bool.false_or, Bool.true_or, Bool.and_true, Bool.true_and, Bool.not_true, Bool.not_false, Bool.and_false, Bool.false_and, Option.map_some, reduceCtorEq, and_true, true_and, and_self]
              rw [h4, Bool.true_and] at q
              exact all_comp (f := termD ns) (fun d hd n k hk => ⟨d, ns, rfl, dp_nb (hy d hd), hk⟩) q
            | false =>
              rw [h4, Bool.false_and] at q
              simp only [wB, wS, wE, wA, wAnd, wOr, wAndT, wOrT, wP, wI, tru, eQ, exAt_eq, IAs.isNil, List.map_cons, List.map_nil, List.cons_append, List.nil_append, List.getElem?_cons_zero, List.getElem?_cons_succ, List.set_cons_zero, List.set_cons_succ, Bool.false_eq_true, if_false, if_true, if_pos, List.any_cons, List.any_nil, ofO_some, ofO_none, setMany, bindT, D.truth, D.isTy, D.isBox, bi_len_tup, bi_len_list, bi_len_str, bi_tuple_list, bi_tuple_tup, bi_list_list, bi_list_tup, bi_int_int, eq_int, ne_int, lt_int, le_int, gt_int, ge_int, Bool.or_false, Bool.or_true, Bool.false_or, Bool.true_or, Bool.and_true, Bool.true_and, Bool.not_true, Bool.not_false, Bool.and_false, Bool.false_and, Option.map_some, reduceCtorEq, and_true, true_and, and_self]
              exact q
          | _ =>
            simp only [wB, wS, wE, wA, wAnd, wOr, wAndT, wOrT, wP, wI, tru, eQ, exAt_eq, IAs.isNil, List.map_cons, List.map_nil, List.cons_append, List.nil_append, List.getElem?_cons_zero, List.getElem?_cons_succ, List.set_cons_zero, List.set_cons_succ, Bool.false_eq_true, if_false, if_true, if_pos, List.any_cons, List.any_nil, ofO_some, ofO_none, setMany, bindT, D.truth, D.isTy, D.isBox, bi_len_tup, bi_len_list, bi_len_str, bi_tuple_list, bi_tuple_tup, bi_list_list, bi_list_tup, bi_int_int, eq_int, ne_int, lt_int, le_int, gt_int, ge_int, Bool.or_false, Bool.or_true, Bool.false_or, Bool.true_or, Bool.and_true, Bool.true_and, Bool.not_true, Bool.not_false, Bool.and_false, Bool.false_and, Option.map_some, reduceCtorEq, and_true, true_and, and_self]
            exact q
    | [a, t, f, v], hx, q =>
      have na : a.isBox = false := dp_nb (hx a (by simp))
      have nt : t.isBox = false := dp_nb (hx t (by simp))
      have nf : f.isBox = false := dp_nb (hx f (by simp))
      have nv : v.isBox = false := dp_nb (hx v (by simp))
      rw [show hasA [.int 2, .int 3, .int 4] (.int (([a, t, f, v] : List D).length : Int)) = true from rfl]
      simp only [wB, wS, wE, wA, wAnd, wOr, wAndT, wOrT, wP, wI, tru, eQ, exAt_eq, IAs.isNil, List.map_cons, List.map_nil, List.cons_append, List.nil_append, List.getElem?_cons_zero, List.getElem?_cons_succ, List.set_cons_zero, List.set_cons_succ, Bool.false_eq_true, if_false, if_true, if_pos, List.any_cons, List.any_nil, ofO_some, ofO_none, setMany, bindT, D.truth, D.isTy, D.isBox, bi_len_tup, bi_len_list, bi_len_str, bi_tuple_list, bi_tuple_tup, bi_list_list, bi_list_tup, bi_int_int, eq_int, ne_int, lt_int, le_int, gt_int, ge_int, Bool.or_false, Bool.or_true, Bool.false_or, Bool.true_or, Bool.and_true, Bool.true_and, Bool.not_true, Bool.not_false, Bool.and_false, Bool.false_and, Option.map_some, reduceCtorEq, and_true, true_and, and_self, ix0, ix1, ix2, ix3, eq_w na, ne_w na, in_strs_tup nf]
      refine ⟨h3, t, ns, rfl, nt, ?_⟩
      rw [changeD] at q
      cases ht : termD ns t with
      | false =>
        rw [ht, Bool.false_and] at q
        simp only [wB, wS, wE, wA, wAnd, wOr, wAndT, wOrT, wP, wI, tru, eQ, exAt_eq, IAs.isNil, List.map_cons, List.map_nil, List.cons_append, List.nil_append, List.getElem?_cons_zero, List.getElem?_cons_succ, List.set_cons_zero, List.set_cons_succ, Bool.false_eq_true, if_false, if_true, if_pos, List.any_cons, List.any_nil, ofO_some, ofO_none, setMany, bindT, D.truth, D.isTy, D.isBox, bi_len_tup, bi_len_list, bi_len_str, bi_tuple_list, bi_tuple_tup, bi_list_list, bi_list_tup, bi_int_int, eq_int, ne_int, lt_int, le_int, gt_int, ge_int, Bool.or_false, Bool.or_true, Bool.false_or, Bool.true_or, Bool.and_true, Bool.true_and, Bool.not_true, Bool.not_false, Bool.and_false, Bool.false_and, Option.map_some, reduceCtorEq, and_true, true_and, and_self]
        exact q
      | true =>
        rw [ht, Bool.true_and] at q
        simp only [wB, wS, wE, wA, wAnd, wOr, wAndT, wOrT, wP, wI, tru, eQ, exAt_eq, IAs.isNil, List.map_cons, List.map_nil, List.cons_append, List.nil_append, List.getElem?_cons_zero, List.getElem?_cons_succ, List.set_cons_zero, List.set_cons_succ, Bool.false_eq_true, if_false, if_true, if_pos, List.any_cons, List.any_nil, ofO_some, ofO_none, setMany, bindT, D.truth, D.isTy, D.isBox, bi_len_tup, bi_len_list, bi_len_str, bi_tuple_list, bi_tuple_tup, bi_list_list, bi_list_tup, bi_int_int, eq_int, ne_int, lt_int, le_int, gt_int, ge_int, Bool.or_false, Bool.or_true, Bool.false_or, Bool.true_or, Bool.and_true, Bool.true_and, Bool.not_true, Bool.not_false, Bool.and_false, Bool.false_and, Option.map_some, reduceCtorEq, and_true, true_and, and_self]
        rw [if_neg (show ¬ ((([a, t, f, v] : List D).length : Int) == 2) = true from by show ¬ ((4 : Int) == 2) = true; decide), if_pos (show ((([a, t, f, v] : List D).length : Int) == 4) = true from rfl)]
        cases h1 : isW "set" a with
        | false =>
          rw [h1, Bool.false_and] at q
          simp only [wB, wS, wE, wA, wAnd, wOr, wAndT, wOrT, wP, wI, tru, eQ, exAt_eq, IAs.isNil, List.map_cons, List.map_nil, List.cons_append, List.nil_append, List.getElem?_cons_zero, List.getElem?_cons_succ, List.set_cons_zero, List.set_cons_succ, Bool.false_eq_true, if_false, if_true, if_pos, List.any_cons, List.any_nil, ofO_some, ofO_none, setMany, bindT, D.truth, D.isTy, D.isBox, bi_len_tup, bi_len_list, bi_len_str, bi_tuple_list, bi_tuple_tup, bi_list_list, bi_list_tup, bi_int_int, eq_int, ne_int, lt_int, le_int, gt_int, ge_int, Bool.or_false, Bool.or_true, Bool.false_or, Bool.true_or, Bool.and_true, Bool.true_and, Bool.not_true, Bool.not_false, Bool.and_false, Bool.false_and, Option.map_some, reduceCtorEq, and_true, true_and, and_self]
          exact q
        | true =>
          rw [h1, Bool.true_and] at q
          simp only [wB, wS, wE, wA, wAnd, wOr, wAndT, wOrT, wP, wI, tru, eQ, exAt_eq, IAs.isNil, List.map_cons, List.map_nil, List.cons_append, List.nil_append, List.getElem?_cons_zero, List.getElem?_cons_succ, List.set_cons_zero, List.set_cons_succ, Bool.false_eq_true, if_false, if_true, if_pos, List.any_cons, List.any_nil, ofO_some, ofO_none, setMany, bindT, D.truth, D.isTy, D.isBox, bi_len_tup, bi_len_list, bi_len_str, bi_tuple_list, bi_tuple_tup, bi_list_list, bi_list_tup, bi_int_int, eq_int, ne_int, lt_int, le_int, gt_int, ge_int, Bool.or_false, Bool.or_true, Bool.false_or, Bool.true_or, Bool.and_true, Bool.true_and, Bool.not_true, Bool.not_false, Bool.and_false, Bool.false_and, Option.map_some, reduceCtorEq, and_true, true_and, and_self]
          cases h2 : hasS fs f with
          | false =>
            rw [h2, Bool.false_and] at q
            simp only [wB, wS, wE, wA, wAnd, wOr, wAndT, wOrT, wP, wI, tru, eQ, exAt_eq, IAs.isNil, List.map_cons, List.map_nil, List.cons_append, List.nil_append, List.getElem?_cons_zero, List.getElem?_cons_succ, List.set_cons_zero, List.set_cons_succ, Bool.false_eq_true, if_false, if_true, if_pos, List.any_cons, List.any_nil, ofO_some, ofO_none, setMany, bindT, D.truth, D.isTy, D.isBox, bi_len_tup, bi_len_list, bi_len_str, bi_tuple_list, bi_tuple_tup, bi_list_list, bi_list_tup, bi_int_int, eq_int, ne_int, lt_int, le_int, gt_int, ge_int, Bool.or_false, Bool.or_true, Bool.false_or, Bool.true_or, Bool.and_true, Bool.true_and, Bool.not_true, Bool.not_false, Bool.and_false, Bool.false_and, Option.map_some, reduceCtorEq, and_true, true_and, and_self]
            exact q
          | true =>
            rw [h2, Bool.true_and] at q
            simp only [wB, wS, wE, wA, wAnd, wOr, wAndT, wOrT, wP, wI, tru, eQ, exAt_eq, IAs.isNil, List.map_cons, List.map_nil, List.cons_append, List.nil_append, List.getElem?_cons_zero, List.getElem?_cons_succ, List.set_cons_zero, List.set_cons_succ, Bool.false_eq_true, if_false, if_true, if_pos, List.any_cons, List.any_nil, ofO_some, ofO_none, setMany, bindT, D.truth, D.isTy, D.isBox, bi_len_tup, bi_len_list, bi_len_str, bi_tuple_list, bi_tuple_tup, bi_list_list, bi_list_tup, bi_int_int, eq_int, ne_int, lt_int, le_int, gt_int, ge_int, Bool.or_false, Bool.or_true, Bool.false_or, Bool.true_or, Bool.and_true, Bool.true_and, Bool.not_true, Bool.not_false, Bool.and_false, Bool.false_and, Option.map_some, reduceCtorEq, and_true, true_and, and_self]
            exact ⟨v, ns, rfl, nv, q⟩
    | x1 :: x2 :: x3 :: x4 :: x5 :: r, _, q =>
      rw [no _ (by simp only [List.length_cons]; omega) (by simp only [List.length_cons]; omega) (by simp only [List.length_cons]; omega)]
      exact ⟨h3, q⟩
  | _ =>
    simp only [wB, wS, wE, wA, wAnd, wOr, wAndT, wOrT, wP, wI, tru, eQ, exAt_eq, IAs.isNil, List.map_cons, List.map_nil, List.cons_append, List.nil_append, List.getElem?_cons_zero, List.getElem?_cons_succ, List.set_cons_zero, List.set_cons_succ, Bool.false_eq_true, if_false, if_true, if_pos, List.any_cons, List.any_nil, ofO_some, ofO_none, setMany, bindT, D.truth, D.isTy, D.isBox, bi_len_tup, bi_len_list, bi_len_str, bi_tuple_list, bi_tuple_tup, bi_list_list, bi_list_tup, bi_int_int, eq_int, ne_int, lt_int, le_int, gt_int, ge_int, Bool.or_false, Bool.or_true, Bool.false_or, Bool.true_or, Bool.and_true, Bool.true_and, Bool.not_true, Bool.not_false, Bool.and_false, Bool.false_and, Option.map_some, reduceCtorEq, and_true, true_and, and_self]
    exact q
theorem b_law_is_say {ds : List D} (f1 : T.fs "_law_is_name" = some fsName) (f2 : T.fs "_law_is_change" = some fsChangeL) (h : fsSayL ds n Q E) : wB T ir_law_is_say (ent0 ["_law_fields_so", "_law_matter", "_law_names_so", "_law_own"] ds) n (eQ Q E) := by
  obtain ⟨fs, ns, w, c, nm, m, rfl, dc, dn, q⟩ := h
  unfold ir_law_is_say ent0
  simp only [wB, wS, wE, wA, wAnd, wOr, wAndT, wOrT, wP, wI, tru, eQ, exAt_eq, IAs.isNil, List.map_cons, List.map_nil, List.cons_append, List.nil_append, List.getElem?_cons_zero, List.getElem?_cons_succ, List.set_cons_zero, List.set_cons_succ, Bool.false_eq_true, if_false, if_true, if_pos, List.any_cons, List.any_nil, ofO_some, ofO_none, setMany, bindT, D.truth, D.isTy, D.isBox, bi_len_tup, bi_len_list, bi_len_str, bi_tuple_list, bi_tuple_tup, bi_list_list, bi_list_tup, bi_int_int, eq_int, ne_int, lt_int, le_int, gt_int, ge_int, Bool.or_false, Bool.or_true, Bool.false_or, Bool.true_or, Bool.and_true, Bool.true_and, Bool.not_true, Bool.not_false, Bool.and_false, Bool.false_and, Option.map_some, reduceCtorEq, and_true, true_and, and_self, f1, f2, ix1, ix2, List.length_cons, List.length_nil, List.replicate]
  refine ⟨nm, rfl, dp_nb dn, ?_⟩
  cases h2 : nameD nm with
  | false =>
    rw [h2, Bool.false_and] at q
    simp only [wB, wS, wE, wA, wAnd, wOr, wAndT, wOrT, wP, wI, tru, eQ, exAt_eq, IAs.isNil, List.map_cons, List.map_nil, List.cons_append, List.nil_append, List.getElem?_cons_zero, List.getElem?_cons_succ, List.set_cons_zero, List.set_cons_succ, Bool.false_eq_true, if_false, if_true, if_pos, List.any_cons, List.any_nil, ofO_some, ofO_none, setMany, bindT, D.truth, D.isTy, D.isBox, bi_len_tup, bi_len_list, bi_len_str, bi_tuple_list, bi_tuple_tup, bi_list_list, bi_list_tup, bi_int_int, eq_int, ne_int, lt_int, le_int, gt_int, ge_int, Bool.or_false, Bool.or_true, Bool.false_or, Bool.true_or, Bool.and_true, Bool.true_and, Bool.not_true, Bool.not_false, Bool.and_false, Bool.false_and, Option.map_some, reduceCtorEq, and_true, true_and, and_self]
    exact q
  | true =>
    rw [h2, Bool.true_and] at q
    simp only [wB, wS, wE, wA, wAnd, wOr, wAndT, wOrT, wP, wI, tru, eQ, exAt_eq, IAs.isNil, List.map_cons, List.map_nil, List.cons_append, List.nil_append, List.getElem?_cons_zero, List.getElem?_cons_succ, List.set_cons_zero, List.set_cons_succ, Bool.false_eq_true, if_false, if_true, if_pos, List.any_cons, List.any_nil, ofO_some, ofO_none, setMany, bindT, D.truth, D.isTy, D.isBox, bi_len_tup, bi_len_list, bi_len_str, bi_tuple_list, bi_tuple_tup, bi_list_list, bi_list_tup, bi_int_int, eq_int, ne_int, lt_int, le_int, gt_int, ge_int, Bool.or_false, Bool.or_true, Bool.false_or, Bool.true_or, Bool.and_true, Bool.true_and, Bool.not_true, Bool.not_false, Bool.and_false, Bool.false_and, Option.map_some, reduceCtorEq, and_true, true_and, and_self]
    refine ⟨dp_nb dc, ?_⟩
    cases c with
    | tup cs =>
      obtain ⟨j', _, hy⟩ := dp_tup dc
      simp only [wB, wS, wE, wA, wAnd, wOr, wAndT, wOrT, wP, wI, tru, eQ, exAt_eq, IAs.isNil, List.map_cons, List.map_nil, List.cons_append, List.nil_append, List.getElem?_cons_zero, List.getElem?_cons_succ, List.set_cons_zero, List.set_cons_succ, Bool.false_eq_true, if_false, if_true, if_pos, List.any_cons, List.any_nil, ofO_some, ofO_none, setMany, bindT, D.truth, D.isTy, D.isBox, bi_len_tup, bi_len_list, bi_len_str, bi_tuple_list, bi_tuple_tup, bi_list_list, bi_list_tup, bi_int_int, eq_int, ne_int, lt_int, le_int, gt_int, ge_int, Bool.or_false, Bool.or_true, Bool.false_or, Bool.true_or, Bool.and_true, Bool.true_and, Bool.not_true, Bool.not_false, Bool.and_false, Bool.false_and, Option.map_some, reduceCtorEq, and_true, true_and, and_self, itemsD]
      exact all_comp (f := changeD fs ns) (fun d hd n k hk => ⟨fs, d, ns, j', rfl, hy d hd, hk⟩) q
    | _ =>
      simp only [wB, wS, wE, wA, wAnd, wOr, wAndT, wOrT, wP, wI, tru, eQ, exAt_eq, IAs.isNil, List.map_cons, List.map_nil, List.cons_append, List.nil_append, List.getElem?_cons_zero, List.getElem?_cons_succ, List.set_cons_zero, List.set_cons_succ, Bool.false_eq_true, if_false, if_true, if_pos, List.any_cons, List.any_nil, ofO_some, ofO_none, setMany, bindT, D.truth, D.isTy, D.isBox, bi_len_tup, bi_len_list, bi_len_str, bi_tuple_list, bi_tuple_tup, bi_list_list, bi_list_tup, bi_int_int, eq_int, ne_int, lt_int, le_int, gt_int, ge_int, Bool.or_false, Bool.or_true, Bool.false_or, Bool.true_or, Bool.and_true, Bool.true_and, Bool.not_true, Bool.not_false, Bool.and_false, Bool.false_and, Option.map_some, reduceCtorEq, and_true, true_and, and_self]
      exact q
end
end Dl

set_option Elab.async false
set_option linter.all false
set_option maxRecDepth 100000
set_option maxHeartbeats 4000000
/-! The law's own tests of bodies and KINDs. -/
namespace Dl
open PySem PySem.Spec PyProof.Rows L2
def fsKindL (m : Nat) : FS := fun ds n Q _ => ∃ fs d, ds = [.tup (fs.map .str), d] ∧ d.dp (m + 1) = true ∧ Q (.bl (kindD fs m d)) n
section
variable {T : Tab} {n : Nat} {Q : D → Nat → Prop} {E : QX}
theorem b_law_is_body (m : Nat) {ds : List D} (f1 : T.fs "_law_is_name" = some fsName) (f2 : T.fs "_law_is_term" = some fsTermL) (f3 : T.fs "_law_is_say" = some fsSayL) (f4 : ∀ j, m = j + 1 → T.fs "_law_is_body" = some (fsBodyL j)) (h : fsBodyL m ds n Q E) :
    wB T ir_law_is_body (ent0 ["_law_fields_so", "_law_matter", "_law_names_so", "_law_sure_so", "_law_word_so", "_law_size_so", "_law_own"] ds) n (eQ Q E) := by
  obtain ⟨fs, d, ns, th, rfl, hd, ha, l1, l2, q⟩ := h
  unfold ir_law_is_body ent0
  simp only [wB, wS, wE, wA, wAnd, wOr, wAndT, wOrT, wP, wI, tru, eQ, exAt_eq, IAs.isNil, List.map_cons, List.map_nil, List.cons_append, List.nil_append, List.getElem?_cons_zero, List.getElem?_cons_succ, List.set_cons_zero, List.set_cons_succ, Bool.false_eq_true, if_false, if_true, if_pos, List.any_cons, List.any_nil, ofO_some, ofO_none, setMany, bindT, D.truth, D.isTy, D.isBox, bi_len_tup, bi_len_list, bi_len_str, bi_tuple_list, bi_tuple_tup, bi_list_list, bi_list_tup, bi_int_int, eq_int, ne_int, lt_int, le_int, gt_int, ge_int, Bool.or_false, Bool.or_true, Bool.false_or, Bool.true_or, Bool.and_true, Bool.true_and, Bool.not_true, Bool.not_false, Bool.and_false, Bool.false_and, Option.map_some, reduceCtorEq, and_true, true_and, and_self, f1, f2, f3, List.length_cons, List.length_nil, List.replicate]
  refine ⟨dp_nb hd, ?_⟩
  cases d with
  | tup xs =>
    obtain ⟨j, rfl, hx⟩ := dp_tup hd
    have f4 := f4 j rfl
    simp only [wB, wS, wE, wA, wAnd, wOr, wAndT, wOrT, wP, wI, tru, eQ, exAt_eq, IAs.isNil, List.map_cons, List.map_nil, List.cons_append, List.nil_append, List.getElem?_cons_zero, List.getElem?_cons_succ, List.set_cons_zero, List.set_cons_succ, Bool.false_eq_true, if_false, if_true, if_pos, List.any_cons, List.any_nil, ofO_some, ofO_none, setMany, bindT, D.truth, D.isTy, D.isBox, bi_len_tup, bi_len_list, bi_len_str, bi_tuple_list, bi_tuple_tup, bi_list_list, bi_list_tup, bi_int_int, eq_int, ne_int, lt_int, le_int, gt_int, ge_int, Bool.or_false, Bool.or_true, Bool.false_or, Bool.true_or, Bool.and_true, Bool.true_and, Bool.not_true, Bool.not_false, Bool.and_false, Bool.false_and, Option.map_some, reduceCtorEq, and_true, true_and, and_self, f4, eq_nil]
    match xs, hx, q with
    | [], _, q => exact ⟨Nat.zero_le _, q⟩
    | a :: r, hx, q =>
      have na : a.isBox = false := dp_nb (hx a (by simp))
      refine ⟨Nat.zero_le _, ?_⟩
      simp only [wB, wS, wE, wA, wAnd, wOr, wAndT, wOrT, wP, wI, tru, eQ, exAt_eq, IAs.isNil, List.map_cons, List.map_nil, List.cons_append, List.nil_append, List.getElem?_cons_zero, List.getElem?_cons_succ, List.set_cons_zero, List.set_cons_succ, Bool.false_eq_true, if_false, if_true, if_pos, List.any_cons, List.any_nil, ofO_some, ofO_none, setMany, bindT, D.truth, D.isTy, D.isBox, bi_len_tup, bi_len_list, bi_len_str, bi_tuple_list, bi_tuple_tup, bi_list_list, bi_list_tup, bi_int_int, eq_int, ne_int, lt_int, le_int, gt_int, ge_int, Bool.or_false, Bool.or_true, Bool.false_or, Bool.true_or, Bool.and_true, Bool.true_and, Bool.not_true, Bool.not_false, Bool.and_false, Bool.false_and, Option.map_some, reduceCtorEq, and_true, true_and, and_self, ix0, List.isEmpty_cons]
      refine ⟨na, ?_⟩
      cases a with
      | str w =>
        simp only [wB, wS, wE, wA, wAnd, wOr, wAndT, wOrT, wP, wI, tru, eQ, exAt_eq, IAs.isNil, List.map_cons, List.map_nil, List.cons_append, List.nil_append, List.getElem?_cons_zero, List.getElem?_cons_succ, List.set_cons_zero, List.set_cons_succ, Bool.false_eq_true, if_false, if_true, if_pos, List.any_cons, List.any_nil, ofO_some, ofO_none, setMany, bindT, D.truth, D.isTy, D.isBox, bi_len_tup, bi_len_list, bi_len_str, bi_tuple_list, bi_tuple_tup, bi_list_list, bi_list_tup, bi_int_int, eq_int, ne_int, lt_int, le_int, gt_int, ge_int, Bool.or_false, Bool.or_true, Bool.false_or, Bool.true_or, Bool.and_true, Bool.true_and, Bool.not_true, Bool.not_false, Bool.and_false, Bool.false_and, Option.map_some, reduceCtorEq, and_true, true_and, and_self, eq_w (x := D.str w) rfl, ne_w (x := D.str w) rfl, isW_str]
        cases h1 : (w == Str.ofString "say") with
        | true =>
          rw [beq_iff_eq] at h1
          subst h1
          simp only [wB, wS, wE, wA, wAnd, wOr, wAndT, wOrT, wP, wI, tru, eQ, exAt_eq, IAs.isNil, List.map_cons, List.map_nil, List.cons_append, List.nil_append, List.getElem?_cons_zero, List.getElem?_cons_succ, List.set_cons_zero, List.set_cons_succ, Bool.false_eq_true, if_false, if_true, if_pos, List.any_cons, List.any_nil, ofO_some, ofO_none, setMany, bindT, D.truth, D.isTy, D.isBox, bi_len_tup, bi_len_list, bi_len_str, bi_tuple_list, bi_tuple_tup, bi_list_list, bi_list_tup, bi_int_int, eq_int, ne_int, lt_int, le_int, gt_int, ge_int, Bool.or_false, Bool.or_true, Bool.false_or, Bool.true_or, Bool.and_true, Bool.true_and, Bool.not_true, Bool.not_false, Bool.and_false, Bool.false_and, Option.map_some, reduceCtorEq, and_true, true_and, and_self]
          match r, hx, q with
          | [c, nm], hx, q =>
            rw [if_pos (show (((([D.str "say", c, nm] : List D).length : Int) == 3)) = true from rfl)]
            exact ⟨fs, ns, _, c, nm, j, rfl, hx c (by simp), hx nm (by simp), q⟩
          | [], _, q => exact q
          | [_], _, q => exact q
          | x1 :: x2 :: x3 :: r, _, q =>
            rw [if_neg (show ¬ (((D.str "say" :: x1 :: x2 :: x3 :: r).length : Int) == 3) = true from by
              rw [beq_iff_eq]
              simp only [List.length_cons]
              omega)]
            have e : (((D.str "say" :: x1 :: x2 :: x3 :: r).length : Int) == 3) = false := by
              rw [beq_eq_false_iff_ne]
              simp only [List.length_cons]
              omega
            rw [e]
            exact q
        | false =>
          simp only [wB, wS, wE, wA, wAnd, wOr, wAndT, wOrT, wP, wI, tru, eQ, exAt_eq, IAs.isNil, List.map_cons, List.map_nil, List.cons_append, List.nil_append, List.getElem?_cons_zero, List.getElem?_cons_succ, List.set_cons_zero, List.set_cons_succ, Bool.false_eq_true, if_false, if_true, if_pos, List.any_cons, List.any_nil, ofO_some, ofO_none, setMany, bindT, D.truth, D.isTy, D.isBox, bi_len_tup, bi_len_list, bi_len_str, bi_tuple_list, bi_tuple_tup, bi_list_list, bi_list_tup, bi_int_int, eq_int, ne_int, lt_int, le_int, gt_int, ge_int, Bool.or_false, Bool.or_true, Bool.false_or, Bool.true_or, Bool.and_true, Bool.true_and, Bool.not_true, Bool.not_false, Bool.and_false, Bool.false_and, Option.map_some, reduceCtorEq, and_true, true_and, and_self]
          cases h2 : (w == Str.ofString "has") with
          | true =>
            rw [beq_iff_eq] at h2
            subst h2
            simp only [wB, wS, wE, wA, wAnd, wOr, wAndT, wOrT, wP, wI, tru, eQ, exAt_eq, IAs.isNil, List.map_cons, List.map_nil, List.cons_append, List.nil_append, List.getElem?_cons_zero, List.getElem?_cons_succ, List.set_cons_zero, List.set_cons_succ, Bool.false_eq_true, if_false, if_true, if_pos, List.any_cons, List.any_nil, ofO_some, ofO_none, setMany, bindT, D.truth, D.isTy, D.isBox, bi_len_tup, bi_len_list, bi_len_str, bi_tuple_list, bi_tuple_tup, bi_list_list, bi_list_tup, bi_int_int, eq_int, ne_int, lt_int, le_int, gt_int, ge_int, Bool.or_false, Bool.or_true, Bool.false_or, Bool.true_or, Bool.and_true, Bool.true_and, Bool.not_true, Bool.not_false, Bool.and_false, Bool.false_and, Option.map_some, reduceCtorEq, and_true, true_and, and_self]
            match r, hx, q with
            | [t, a, b], hx, q =>
              rw [if_neg (show ¬ (!((([D.str "has", t, a, b] : List D).length : Int) == 4)) = true from by show ¬ (!((4 : Int) == 4)) = true; decide)]
              have nt : t.isBox = false := dp_nb (hx t (by simp))
              have q : Q (.bl (termD ns t && (bodyD fs j ns (th ++ [t]) a && bodyD fs j ns th b))) n := q
              simp only [wB, wS, wE, wA, wAnd, wOr, wAndT, wOrT, wP, wI, tru, eQ, exAt_eq, IAs.isNil, List.map_cons, List.map_nil, List.cons_append, List.nil_append, List.getElem?_cons_zero, List.getElem?_cons_succ, List.set_cons_zero, List.set_cons_succ, Bool.false_eq_true, if_false, if_true, if_pos, List.any_cons, List.any_nil, ofO_some, ofO_none, setMany, bindT, D.truth, D.isTy, D.isBox, bi_len_tup, bi_len_list, bi_len_str, bi_tuple_list, bi_tuple_tup, bi_list_list, bi_list_tup, bi_int_int, eq_int, ne_int, lt_int, le_int, gt_int, ge_int, Bool.or_false, Bool.or_true, Bool.false_or, Bool.true_or, Bool.and_true, Bool.true_and, Bool.not_true, Bool.not_false, Bool.and_false, Bool.false_and, Option.map_some, reduceCtorEq, and_true, true_and, and_self, ix1, ix2, ix3]
              refine ⟨t, ns, rfl, nt, ?_⟩
              cases h3 : termD ns t with
              | false =>
                rw [h3, Bool.false_and] at q
                simp only [wB, wS, wE, wA, wAnd, wOr, wAndT, wOrT, wP, wI, tru, eQ, exAt_eq, IAs.isNil, List.map_cons, List.map_nil, List.cons_append, List.nil_append, List.getElem?_cons_zero, List.getElem?_cons_succ, List.set_cons_zero, List.set_cons_succ, Bool.false_eq_true, if_false, if_true, if_pos, List.any_cons, List.any_nil, ofO_some, ofO_none, setMany, bindT, D.truth, D.isTy, D.isBox, bi_len_tup, bi_len_list, bi_len_str, bi_tuple_list, bi_tuple_tup, bi_list_list, bi_list_tup, bi_int_int, eq_int, ne_int, lt_int, le_int, gt_int, ge_int, Bool.or_false, Bool.or_true, Bool.false_or, Bool.true_or, Bool.and_true, Bool.true_and, Bool.not_true, Bool.not_false, Bool.and_false, Bool.false_and, Option.map_some, reduceCtorEq, and_true, true_and, and_self]
                exact q
              | true =>
                rw [h3, Bool.true_and] at q
                have la : th.length + ([t] : List D).length ≤ sizeLine := by
                  rw [sizeLine_eq, List.length_singleton]
                  omega
                simp only [wB, wS, wE, wA, wAnd, wOr, wAndT, wOrT, wP, wI, tru, eQ, exAt_eq, IAs.isNil, List.map_cons, List.map_nil, List.cons_append, List.nil_append, List.getElem?_cons_zero, List.getElem?_cons_succ, List.set_cons_zero, List.set_cons_succ, Bool.false_eq_true, if_false, if_true, if_pos, List.any_cons, List.any_nil, ofO_some, ofO_none, setMany, bindT, D.truth, D.isTy, D.isBox, bi_len_tup, bi_len_list, bi_len_str, bi_tuple_list, bi_tuple_tup, bi_list_list, bi_list_tup, bi_int_int, eq_int, ne_int, lt_int, le_int, gt_int, ge_int, Bool.or_false, Bool.or_true, Bool.false_or, Bool.true_or, Bool.and_true, Bool.true_and, Bool.not_true, Bool.not_false, Bool.and_false, Bool.false_and, Option.map_some, reduceCtorEq, and_true, true_and, and_self, add_list la]
                refine ⟨by rw [sizeLine_eq]; simp, fs, a, ns, th ++ [t], rfl, hx a (by simp), ?_, ?_, by omega, ?_⟩
                · rw [List.all_append, ha]
                  simp [term_atom h3]
                · rw [List.length_append, List.length_singleton]
                  omega
                · cases h4 : bodyD fs j ns (th ++ [t]) a with
                  | false =>
                    rw [h4, Bool.false_and] at q
                    simp only [wB, wS, wE, wA, wAnd, wOr, wAndT, wOrT, wP, wI, tru, eQ, exAt_eq, IAs.isNil, List.map_cons, List.map_nil, List.cons_append, List.nil_append, List.getElem?_cons_zero, List.getElem?_cons_succ, List.set_cons_zero, List.set_cons_succ, Bool.false_eq_true, if_false, if_true, if_pos, List.any_cons, List.any_nil, ofO_some, ofO_none, setMany, bindT, D.truth, D.isTy, D.isBox, bi_len_tup, bi_len_list, bi_len_str, bi_tuple_list, bi_tuple_tup, bi_list_list, bi_list_tup, bi_int_int, eq_int, ne_int, lt_int, le_int, gt_int, ge_int, Bool.or_false, Bool.or_true, Bool.false_or, Bool.true_or, Bool.and_true, Bool.true_and, Bool.not_true, Bool.not_false, Bool.and_false, Bool.false_and, Option.map_some, reduceCtorEq, and_true, true_and, and_self]
                    exact q
                  | true =>
                    rw [h4, Bool.true_and] at q
                    simp only [wB, wS, wE, wA, wAnd, wOr, wAndT, wOrT, wP, wI, tru, eQ, exAt_eq, IAs.isNil, List.map_cons, List.map_nil, List.cons_append, List.nil_append, List.getElem?_cons_zero, List.getElem?_cons_succ, List.set_cons_zero, List.set_cons_succ, Bool.false_eq_true, if_false, if_true, if_pos, List.any_cons, List.any_nil, ofO_some, ofO_none, setMany, bindT, D.truth, D.isTy, D.isBox, bi_len_tup, bi_len_list, bi_len_str, bi_tuple_list, bi_tuple_tup, bi_list_list, bi_list_tup, bi_int_int, eq_int, ne_int, lt_int, le_int, gt_int, ge_int, Bool.or_false, Bool.or_true, Bool.false_or, Bool.true_or, Bool.and_true, Bool.true_and, Bool.not_true, Bool.not_false, Bool.and_false, Bool.false_and, Option.map_some, reduceCtorEq, and_true, true_and, and_self]
                    exact ⟨fs, b, ns, th, rfl, hx b (by simp), ha, by omega, by omega, q⟩
            | [], _, q => exact q
            | [_], _, q => exact q
            | [_, _], _, q => exact q
            | x1 :: x2 :: x3 :: x4 :: r, _, q =>
              rw [if_pos (show (!(((D.str "has" :: x1 :: x2 :: x3 :: x4 :: r).length : Int) == 4)) = true from by
                rw [Bool.not_eq_true', beq_eq_false_iff_ne]
                simp only [List.length_cons]
                omega)]
              exact q
          | false =>
            simp only [wB, wS, wE, wA, wAnd, wOr, wAndT, wOrT, wP, wI, tru, eQ, exAt_eq, IAs.isNil, List.map_cons, List.map_nil, List.cons_append, List.nil_append, List.getElem?_cons_zero, List.getElem?_cons_succ, List.set_cons_zero, List.set_cons_succ, Bool.false_eq_true, if_false, if_true, if_pos, List.any_cons, List.any_nil, ofO_some, ofO_none, setMany, bindT, D.truth, D.isTy, D.isBox, bi_len_tup, bi_len_list, bi_len_str, bi_tuple_list, bi_tuple_tup, bi_list_list, bi_list_tup, bi_int_int, eq_int, ne_int, lt_int, le_int, gt_int, ge_int, Bool.or_false, Bool.or_true, Bool.false_or, Bool.true_or, Bool.and_true, Bool.true_and, Bool.not_true, Bool.not_false, Bool.and_false, Bool.false_and, Option.map_some, reduceCtorEq, and_true, true_and, and_self]
            cases h3 : (w == Str.ofString "is") with
            | true =>
              rw [beq_iff_eq] at h3
              subst h3
              simp only [wB, wS, wE, wA, wAnd, wOr, wAndT, wOrT, wP, wI, tru, eQ, exAt_eq, IAs.isNil, List.map_cons, List.map_nil, List.cons_append, List.nil_append, List.getElem?_cons_zero, List.getElem?_cons_succ, List.set_cons_zero, List.set_cons_succ, Bool.false_eq_true, if_false, if_true, if_pos, List.any_cons, List.any_nil, ofO_some, ofO_none, setMany, bindT, D.truth, D.isTy, D.isBox, bi_len_tup, bi_len_list, bi_len_str, bi_tuple_list, bi_tuple_tup, bi_list_list, bi_list_tup, bi_int_int, eq_int, ne_int, lt_int, le_int, gt_int, ge_int, Bool.or_false, Bool.or_true, Bool.false_or, Bool.true_or, Bool.and_true, Bool.true_and, Bool.not_true, Bool.not_false, Bool.and_false, Bool.false_and, Option.map_some, reduceCtorEq, and_true, true_and, and_self]
              match r, hx, q with
              | [t, f, v, a, b], hx, q =>
                rw [if_neg (show ¬ (!((([D.str "is", t, f, v, a, b] : List D).length : Int) == 6)) = true from by show ¬ (!((6 : Int) == 6)) = true; decide)]
                have nt : t.isBox = false := dp_nb (hx t (by simp))
                have nf : f.isBox = false := dp_nb (hx f (by simp))
                have nv : v.isBox = false := dp_nb (hx v (by simp))
                have e2 : slcD (.tup [D.str "is", t, f, v, a, b]) (some 4) none = some (.tup [a, b]) := rfl
                have q : Q (.bl (termD ns t && (hasA th t && (hasS fs f && (termD ns v && (bodyD fs j ns th a && bodyD fs j ns th b)))))) n := q
                simp only [wB, wS, wE, wA, wAnd, wOr, wAndT, wOrT, wP, wI, tru, eQ, exAt_eq, IAs.isNil, List.map_cons, List.map_nil, List.cons_append, List.nil_append, List.getElem?_cons_zero, List.getElem?_cons_succ, List.set_cons_zero, List.set_cons_succ, Bool.false_eq_true, if_false, if_true, if_pos, List.any_cons, List.any_nil, ofO_some, ofO_none, setMany, bindT, D.truth, D.isTy, D.isBox, bi_len_tup, bi_len_list, bi_len_str, bi_tuple_list, bi_tuple_tup, bi_list_list, bi_list_tup, bi_int_int, eq_int, ne_int, lt_int, le_int, gt_int, ge_int, Bool.or_false, Bool.or_true, Bool.false_or, Bool.true_or, Bool.and_true, Bool.true_and, Bool.not_true, Bool.not_false, Bool.and_false, Bool.false_and, Option.map_some, reduceCtorEq, and_true, true_and, and_self, e2, itemsD, ix1, ix2, ix3]
                refine ⟨t, ns, rfl, nt, ?_⟩
                cases h4 : termD ns t with
                | false =>
                  rw [h4, Bool.false_and] at q
                  simp only [wB, wS, wE, wA, wAnd, wOr, wAndT, wOrT, wP, wI, tru, eQ, exAt_eq, IAs.isNil, List.map_cons, List.map_nil, List.cons_append, List.nil_append, List.getElem?_cons_zero, List.getElem?_cons_succ, List.set_cons_zero, List.set_cons_succ, Bool.false_eq_true, if_false, if_true, if_pos, List.any_cons, List.any_nil, ofO_some, ofO_none, setMany, bindT, D.truth, D.isTy, D.isBox, bi_len_tup, bi_len_list, bi_len_str, bi_tuple_list, bi_tuple_tup, bi_list_list, bi_list_tup, bi_int_int, eq_int, ne_int, lt_int, le_int, gt_int, ge_int, Bool.or_false, Bool.or_true, Bool.false_or, Bool.true_or, Bool.and_true, Bool.true_and, Bool.not_true, Bool.not_false, Bool.and_false, Bool.false_and, Option.map_some, reduceCtorEq, and_true, true_and, and_self]
                  exact q
                | true =>
                  rw [h4, Bool.true_and] at q
                  simp only [wB, wS, wE, wA, wAnd, wOr, wAndT, wOrT, wP, wI, tru, eQ, exAt_eq, IAs.isNil, List.map_cons, List.map_nil, List.cons_append, List.nil_append, List.getElem?_cons_zero, List.getElem?_cons_succ, List.set_cons_zero, List.set_cons_succ, Bool.false_eq_true, if_false, if_true, if_pos, List.any_cons, List.any_nil, ofO_some, ofO_none, setMany, bindT, D.truth, D.isTy, D.isBox, bi_len_tup, bi_len_list, bi_len_str, bi_tuple_list, bi_tuple_tup, bi_list_list, bi_list_tup, bi_int_int, eq_int, ne_int, lt_int, le_int, gt_int, ge_int, Bool.or_false, Bool.or_true, Bool.false_or, Bool.true_or, Bool.and_true, Bool.true_and, Bool.not_true, Bool.not_false, Bool.and_false, Bool.false_and, Option.map_some, reduceCtorEq, and_true, true_and, and_self, nin_atoms_list (term_atom h4) ha, nin_strs_tup nf]
                  refine ⟨v, ns, rfl, nv, ?_⟩
                  cases h7 : termD ns v with
                  | false =>
                    simp only [h7, wB, wS, wE, wA, wAnd, wOr, wAndT, wOrT, wP, wI, tru, eQ, exAt_eq, IAs.isNil, List.map_cons, List.map_nil, List.cons_append, List.nil_append, List.getElem?_cons_zero, List.getElem?_cons_succ, List.set_cons_zero, List.set_cons_succ, Bool.false_eq_true, if_false, if_true, if_pos, List.any_cons, List.any_nil, ofO_some, ofO_none, setMany, bindT, D.truth, D.isTy, D.isBox, bi_len_tup, bi_len_list, bi_len_str, bi_tuple_list, bi_tuple_tup, bi_list_list, bi_list_tup, bi_int_int, eq_int, ne_int, lt_int, le_int, gt_int, ge_int, Bool.or_false, Bool.or_true, Bool.false_or, Bool.true_or, Bool.and_true, Bool.true_and, Bool.not_true, Bool.not_false, Bool.and_false, Bool.false_and, Option.map_some, reduceCtorEq, and_true, true_and, and_self] at q ⊢
                    exact q
                  | true =>
                    simp only [h7, wB, wS, wE, wA, wAnd, wOr, wAndT, wOrT, wP, wI, tru, eQ, exAt_eq, IAs.isNil, List.map_cons, List.map_nil, List.cons_append, List.nil_append, List.getElem?_cons_zero, List.getElem?_cons_succ, List.set_cons_zero, List.set_cons_succ, Bool.false_eq_true, if_false, if_true, if_pos, List.any_cons, List.any_nil, ofO_some, ofO_none, setMany, bindT, D.truth, D.isTy, D.isBox, bi_len_tup, bi_len_list, bi_len_str, bi_tuple_list, bi_tuple_tup, bi_list_list, bi_list_tup, bi_int_int, eq_int, ne_int, lt_int, le_int, gt_int, ge_int, Bool.or_false, Bool.or_true, Bool.false_or, Bool.true_or, Bool.and_true, Bool.true_and, Bool.not_true, Bool.not_false, Bool.and_false, Bool.false_and, Option.map_some, reduceCtorEq, and_true, true_and, and_self] at q ⊢
                    cases h5 : hasA th t with
                    | false =>
                      simp only [h5, wB, wS, wE, wA, wAnd, wOr, wAndT, wOrT, wP, wI, tru, eQ, exAt_eq, IAs.isNil, List.map_cons, List.map_nil, List.cons_append, List.nil_append, List.getElem?_cons_zero, List.getElem?_cons_succ, List.set_cons_zero, List.set_cons_succ, Bool.false_eq_true, if_false, if_true, if_pos, List.any_cons, List.any_nil, ofO_some, ofO_none, setMany, bindT, D.truth, D.isTy, D.isBox, bi_len_tup, bi_len_list, bi_len_str, bi_tuple_list, bi_tuple_tup, bi_list_list, bi_list_tup, bi_int_int, eq_int, ne_int, lt_int, le_int, gt_int, ge_int, Bool.or_false, Bool.or_true, Bool.false_or, Bool.true_or, Bool.and_true, Bool.true_and, Bool.not_true, Bool.not_false, Bool.and_false, Bool.false_and, Option.map_some, reduceCtorEq, and_true, true_and, and_self] at q ⊢
                      exact q
                    | true =>
                      simp only [h5, wB, wS, wE, wA, wAnd, wOr, wAndT, wOrT, wP, wI, tru, eQ, exAt_eq, IAs.isNil, List.map_cons, List.map_nil, List.cons_append, List.nil_append, List.getElem?_cons_zero, List.getElem?_cons_succ, List.set_cons_zero, List.set_cons_succ, Bool.false_eq_true, if_false, if_true, if_pos, List.any_cons, List.any_nil, ofO_some, ofO_none, setMany, bindT, D.truth, D.isTy, D.isBox, bi_len_tup, bi_len_list, bi_len_str, bi_tuple_list, bi_tuple_tup, bi_list_list, bi_list_tup, bi_int_int, eq_int, ne_int, lt_int, le_int, gt_int, ge_int, Bool.or_false, Bool.or_true, Bool.false_or, Bool.true_or, Bool.and_true, Bool.true_and, Bool.not_true, Bool.not_false, Bool.and_false, Bool.false_and, Option.map_some, reduceCtorEq, and_true, true_and, and_self] at q ⊢
                      cases h6 : hasS fs f with
                      | false =>
                        simp only [h6, wB, wS, wE, wA, wAnd, wOr, wAndT, wOrT, wP, wI, tru, eQ, exAt_eq, IAs.isNil, List.map_cons, List.map_nil, List.cons_append, List.nil_append, List.getElem?_cons_zero, List.getElem?_cons_succ, List.set_cons_zero, List.set_cons_succ, Bool.false_eq_true, if_false, if_true, if_pos, List.any_cons, List.any_nil, ofO_some, ofO_none, setMany, bindT, D.truth, D.isTy, D.isBox, bi_len_tup, bi_len_list, bi_len_str, bi_tuple_list, bi_tuple_tup, bi_list_list, bi_list_tup, bi_int_int, eq_int, ne_int, lt_int, le_int, gt_int, ge_int, Bool.or_false, Bool.or_true, Bool.false_or, Bool.true_or, Bool.and_true, Bool.true_and, Bool.not_true, Bool.not_false, Bool.and_false, Bool.false_and, Option.map_some, reduceCtorEq, and_true, true_and, and_self] at q ⊢
                        exact q
                      | true =>
                        simp only [h6, wB, wS, wE, wA, wAnd, wOr, wAndT, wOrT, wP, wI, tru, eQ, exAt_eq, IAs.isNil, List.map_cons, List.map_nil, List.cons_append, List.nil_append, List.getElem?_cons_zero, List.getElem?_cons_succ, List.set_cons_zero, List.set_cons_succ, Bool.false_eq_true, if_false, if_true, if_pos, List.any_cons, List.any_nil, ofO_some, ofO_none, setMany, bindT, D.truth, D.isTy, D.isBox, bi_len_tup, bi_len_list, bi_len_str, bi_tuple_list, bi_tuple_tup, bi_list_list, bi_list_tup, bi_int_int, eq_int, ne_int, lt_int, le_int, gt_int, ge_int, Bool.or_false, Bool.or_true, Bool.false_or, Bool.true_or, Bool.and_true, Bool.true_and, Bool.not_true, Bool.not_false, Bool.and_false, Bool.false_and, Option.map_some, reduceCtorEq, and_true, true_and, and_self] at q ⊢
                        refine all_comp (f := bodyD fs j ns th) (fun d hd n k hk => ⟨fs, d, ns, th, rfl, ?_, ha, by omega, by omega, hk⟩) ?_
                        · rcases List.mem_cons.mp hd with z | z
                          · rw [z]; exact hx a (by simp)
                          · rw [List.mem_singleton.mp z]; exact hx b (by simp)
                        · simpa using q
              | [], _, q => exact q
              | [_], _, q => exact q
              | [_, _], _, q => exact q
              | [_, _, _], _, q => exact q
              | [_, _, _, _], _, q => exact q
              | x1 :: x2 :: x3 :: x4 :: x5 :: x6 :: r, _, q =>
                rw [if_pos (show (!(((D.str "is" :: x1 :: x2 :: x3 :: x4 :: x5 :: x6 :: r).length : Int) == 6)) = true from by
                  rw [Bool.not_eq_true', beq_eq_false_iff_ne]
                  simp only [List.length_cons]
                  omega)]
                exact q
            | false =>
              simp only [wB, wS, wE, wA, wAnd, wOr, wAndT, wOrT, wP, wI, tru, eQ, exAt_eq, IAs.isNil, List.map_cons, List.map_nil, List.cons_append, List.nil_append, List.getElem?_cons_zero, List.getElem?_cons_succ, List.set_cons_zero, List.set_cons_succ, Bool.false_eq_true, if_false, if_true, if_pos, List.any_cons, List.any_nil, ofO_some, ofO_none, setMany, bindT, D.truth, D.isTy, D.isBox, bi_len_tup, bi_len_list, bi_len_str, bi_tuple_list, bi_tuple_tup, bi_list_list, bi_list_tup, bi_int_int, eq_int, ne_int, lt_int, le_int, gt_int, ge_int, Bool.or_false, Bool.or_true, Bool.false_or, Bool.true_or, Bool.and_true, Bool.true_and, Bool.not_true, Bool.not_false, Bool.and_false, Bool.false_and, Option.map_some, reduceCtorEq, and_true, true_and, and_self]
              cases h4 : (w == Str.ofString "let") with
              | true =>
                rw [beq_iff_eq] at h4
                subst h4
                simp only [wB, wS, wE, wA, wAnd, wOr, wAndT, wOrT, wP, wI, tru, eQ, exAt_eq, IAs.isNil, List.map_cons, List.map_nil, List.cons_append, List.nil_append, List.getElem?_cons_zero, List.getElem?_cons_succ, List.set_cons_zero, List.set_cons_succ, Bool.false_eq_true, if_false, if_true, if_pos, List.any_cons, List.any_nil, ofO_some, ofO_none, setMany, bindT, D.truth, D.isTy, D.isBox, bi_len_tup, bi_len_list, bi_len_str, bi_tuple_list, bi_tuple_tup, bi_list_list, bi_list_tup, bi_int_int, eq_int, ne_int, lt_int, le_int, gt_int, ge_int, Bool.or_false, Bool.or_true, Bool.false_or, Bool.true_or, Bool.and_true, Bool.true_and, Bool.not_true, Bool.not_false, Bool.and_false, Bool.false_and, Option.map_some, reduceCtorEq, and_true, true_and, and_self]
                match r, hx, q with
                | [nm, t, f, b], hx, q =>
                  rw [if_neg (show ¬ (!((([D.str "let", nm, t, f, b] : List D).length : Int) == 5)) = true from by show ¬ (!((5 : Int) == 5)) = true; decide)]
                  have nn : nm.isBox = false := dp_nb (hx nm (by simp))
                  have nt : t.isBox = false := dp_nb (hx t (by simp))
                  have nf : f.isBox = false := dp_nb (hx f (by simp))
                  have q : Q (.bl (match newD ns nm with
                    | some z => termD ns t && (hasA th t && (hasS fs f && bodyD fs j (ns ++ [z]) th b))
                    | none => false)) n := q
                  simp only [wB, wS, wE, wA, wAnd, wOr, wAndT, wOrT, wP, wI, tru, eQ, exAt_eq, IAs.isNil, List.map_cons, List.map_nil, List.cons_append, List.nil_append, List.getElem?_cons_zero, List.getElem?_cons_succ, List.set_cons_zero, List.set_cons_succ, Bool.false_eq_true, if_false, if_true, if_pos, List.any_cons, List.any_nil, ofO_some, ofO_none, setMany, bindT, D.truth, D.isTy, D.isBox, bi_len_tup, bi_len_list, bi_len_str, bi_tuple_list, bi_tuple_tup, bi_list_list, bi_list_tup, bi_int_int, eq_int, ne_int, lt_int, le_int, gt_int, ge_int, Bool.or_false, Bool.or_true, Bool.false_or, Bool.true_or, Bool.and_true, Bool.true_and, Bool.not_true, Bool.not_false, Bool.and_false, Bool.false_and, Option.map_some, reduceCtorEq, and_true, true_and, and_self, ix1, ix2, ix3, ix4]
                  refine ⟨nm, rfl, nn, ?_⟩
                  cases nm with
                  | str z =>
                    rw [newD] at q
                    simp only [nameD]
                    cases h5 : nameS z with
                    | false =>
                      rw [h5] at q
                      simp only [wB, wS, wE, wA, wAnd, wOr, wAndT, wOrT, wP, wI, tru, eQ, exAt_eq, IAs.isNil, List.map_cons, List.map_nil, List.cons_append, List.nil_append, List.getElem?_cons_zero, List.getElem?_cons_succ, List.set_cons_zero, List.set_cons_succ, Bool.false_eq_true, if_false, if_true, if_pos, List.any_cons, List.any_nil, ofO_some, ofO_none, setMany, bindT, D.truth, D.isTy, D.isBox, bi_len_tup, bi_len_list, bi_len_str, bi_tuple_list, bi_tuple_tup, bi_list_list, bi_list_tup, bi_int_int, eq_int, ne_int, lt_int, le_int, gt_int, ge_int, Bool.or_false, Bool.or_true, Bool.false_or, Bool.true_or, Bool.and_true, Bool.true_and, Bool.not_true, Bool.not_false, Bool.and_false, Bool.false_and, Option.map_some, reduceCtorEq, and_true, true_and, and_self]
                      exact q
                    | true =>
                      simp only [wB, wS, wE, wA, wAnd, wOr, wAndT, wOrT, wP, wI, tru, eQ, exAt_eq, IAs.isNil, List.map_cons, List.map_nil, List.cons_append, List.nil_append, List.getElem?_cons_zero, List.getElem?_cons_succ, List.set_cons_zero, List.set_cons_succ, Bool.false_eq_true, if_false, if_true, if_pos, List.any_cons, List.any_nil, ofO_some, ofO_none, setMany, bindT, D.truth, D.isTy, D.isBox, bi_len_tup, bi_len_list, bi_len_str, bi_tuple_list, bi_tuple_tup, bi_list_list, bi_list_tup, bi_int_int, eq_int, ne_int, lt_int, le_int, gt_int, ge_int, Bool.or_false, Bool.or_true, Bool.false_or, Bool.true_or, Bool.and_true, Bool.true_and, Bool.not_true, Bool.not_false, Bool.and_false, Bool.false_and, Option.map_some, reduceCtorEq, and_true, true_and, and_self, in_strs_list (x := D.str z) rfl]
                      have e5 : hasS ns (.str z) = ns.contains z := rfl
                      rw [e5]
                      cases h6 : ns.contains z with
                      | true =>
                        rw [h5, h6] at q
                        simp only [wB, wS, wE, wA, wAnd, wOr, wAndT, wOrT, wP, wI, tru, eQ, exAt_eq, IAs.isNil, List.map_cons, List.map_nil, List.cons_append, List.nil_append, List.getElem?_cons_zero, List.getElem?_cons_succ, List.set_cons_zero, List.set_cons_succ, Bool.false_eq_true, if_false, if_true, if_pos, List.any_cons, List.any_nil, ofO_some, ofO_none, setMany, bindT, D.truth, D.isTy, D.isBox, bi_len_tup, bi_len_list, bi_len_str, bi_tuple_list, bi_tuple_tup, bi_list_list, bi_list_tup, bi_int_int, eq_int, ne_int, lt_int, le_int, gt_int, ge_int, Bool.or_false, Bool.or_true, Bool.false_or, Bool.true_or, Bool.and_true, Bool.true_and, Bool.not_true, Bool.not_false, Bool.and_false, Bool.false_and, Option.map_some, reduceCtorEq, and_true, true_and, and_self]
                        exact q
                      | false =>
                        rw [h5, h6] at q
                        simp only [wB, wS, wE, wA, wAnd, wOr, wAndT, wOrT, wP, wI, tru, eQ, exAt_eq, IAs.isNil, List.map_cons, List.map_nil, List.cons_append, List.nil_append, List.getElem?_cons_zero, List.getElem?_cons_succ, List.set_cons_zero, List.set_cons_succ, Bool.false_eq_true, if_false, if_true, if_pos, List.any_cons, List.any_nil, ofO_some, ofO_none, setMany, bindT, D.truth, D.isTy, D.isBox, bi_len_tup, bi_len_list, bi_len_str, bi_tuple_list, bi_tuple_tup, bi_list_list, bi_list_tup, bi_int_int, eq_int, ne_int, lt_int, le_int, gt_int, ge_int, Bool.or_false, Bool.or_true, Bool.false_or, Bool.true_or, Bool.and_true, Bool.true_and, Bool.not_true, Bool.not_false, Bool.and_false, Bool.false_and, Option.map_some, reduceCtorEq, and_true, true_and, and_self] at q ⊢
                        refine ⟨t, ns, rfl, nt, ?_⟩
                        cases h7 : termD ns t with
                        | false =>
                          rw [h7, Bool.false_and] at q
                          simp only [wB, wS, wE, wA, wAnd, wOr, wAndT, wOrT, wP, wI, tru, eQ, exAt_eq, IAs.isNil, List.map_cons, List.map_nil, List.cons_append, List.nil_append, List.getElem?_cons_zero, List.getElem?_cons_succ, List.set_cons_zero, List.set_cons_succ, Bool.false_eq_true, if_false, if_true, if_pos, List.any_cons, List.any_nil, ofO_some, ofO_none, setMany, bindT, D.truth, D.isTy, D.isBox, bi_len_tup, bi_len_list, bi_len_str, bi_tuple_list, bi_tuple_tup, bi_list_list, bi_list_tup, bi_int_int, eq_int, ne_int, lt_int, le_int, gt_int, ge_int, Bool.or_false, Bool.or_true, Bool.false_or, Bool.true_or, Bool.and_true, Bool.true_and, Bool.not_true, Bool.not_false, Bool.and_false, Bool.false_and, Option.map_some, reduceCtorEq, and_true, true_and, and_self]
                          exact q
                        | true =>
                          rw [h7, Bool.true_and] at q
                          simp only [wB, wS, wE, wA, wAnd, wOr, wAndT, wOrT, wP, wI, tru, eQ, exAt_eq, IAs.isNil, List.map_cons, List.map_nil, List.cons_append, List.nil_append, List.getElem?_cons_zero, List.getElem?_cons_succ, List.set_cons_zero, List.set_cons_succ, Bool.false_eq_true, if_false, if_true, if_pos, List.any_cons, List.any_nil, ofO_some, ofO_none, setMany, bindT, D.truth, D.isTy, D.isBox, bi_len_tup, bi_len_list, bi_len_str, bi_tuple_list, bi_tuple_tup, bi_list_list, bi_list_tup, bi_int_int, eq_int, ne_int, lt_int, le_int, gt_int, ge_int, Bool.or_false, Bool.or_true, Bool.false_or, Bool.true_or, Bool.and_true, Bool.true_and, Bool.not_true, Bool.not_false, Bool.and_false, Bool.false_and, Option.map_some, reduceCtorEq, and_true, true_and, and_self, nin_atoms_list (term_atom h7) ha, nin_strs_tup nf]
                          cases h8 : hasA th t with
                          | false =>
                            rw [h8, Bool.false_and] at q
                            simp only [wB, wS, wE, wA, wAnd, wOr, wAndT, wOrT, wP, wI, tru, eQ, exAt_eq, IAs.isNil, List.map_cons, List.map_nil, List.cons_append, List.nil_append, List.getElem?_cons_zero, List.getElem?_cons_succ, List.set_cons_zero, List.set_cons_succ, Bool.false_eq_true, if_false, if_true, if_pos, List.any_cons, List.any_nil, ofO_some, ofO_none, setMany, bindT, D.truth, D.isTy, D.isBox, bi_len_tup, bi_len_list, bi_len_str, bi_tuple_list, bi_tuple_tup, bi_list_list, bi_list_tup, bi_int_int, eq_int, ne_int, lt_int, le_int, gt_int, ge_int, Bool.or_false, Bool.or_true, Bool.false_or, Bool.true_or, Bool.and_true, Bool.true_and, Bool.not_true, Bool.not_false, Bool.and_false, Bool.false_and, Option.map_some, reduceCtorEq, and_true, true_and, and_self]
                            exact q
                          | true =>
                            rw [h8, Bool.true_and] at q
                            simp only [wB, wS, wE, wA, wAnd, wOr, wAndT, wOrT, wP, wI, tru, eQ, exAt_eq, IAs.isNil, List.map_cons, List.map_nil, List.cons_append, List.nil_append, List.getElem?_cons_zero, List.getElem?_cons_succ, List.set_cons_zero, List.set_cons_succ, Bool.false_eq_true, if_false, if_true, if_pos, List.any_cons, List.any_nil, ofO_some, ofO_none, setMany, bindT, D.truth, D.isTy, D.isBox, bi_len_tup, bi_len_list, bi_len_str, bi_tuple_list, bi_tuple_tup, bi_list_list, bi_list_tup, bi_int_int, eq_int, ne_int, lt_int, le_int, gt_int, ge_int, Bool.or_false, Bool.or_true, Bool.false_or, Bool.true_or, Bool.and_true, Bool.true_and, Bool.not_true, Bool.not_false, Bool.and_false, Bool.false_and, Option.map_some, reduceCtorEq, and_true, true_and, and_self]
                            cases h9 : hasS fs f with
                            | false =>
                              rw [h9, Bool.false_and] at q
                              simp only [wB, wS, wE, wA, wAnd, wOr, wAndT, wOrT, wP, wI, tru, eQ, exAt_eq, IAs.isNil, List.map_cons, List.map_nil, List.cons_append, List.nil_append, List.getElem?_cons_zero, List.getElem?_cons_succ, List.set_cons_zero, List.set_cons_succ, Bool.false_eq_true, if_false, if_true, if_pos, List.any_cons, List.any_nil, ofO_some, ofO_none, setMany, bindT, D.truth, D.isTy, D.isBox, bi_len_tup, bi_len_list, bi_len_str, bi_tuple_list, bi_tuple_tup, bi_list_list, bi_list_tup, bi_int_int, eq_int, ne_int, lt_int, le_int, gt_int, ge_int, Bool.or_false, Bool.or_true, Bool.false_or, Bool.true_or, Bool.and_true, Bool.true_and, Bool.not_true, Bool.not_false, Bool.and_false, Bool.false_and, Option.map_some, reduceCtorEq, and_true, true_and, and_self]
                              exact q
                            | true =>
                              rw [h9, Bool.true_and] at q
                              have la : (ns.map D.str).length + ([D.str z] : List D).length ≤ sizeLine := by
                                rw [sizeLine_eq, List.length_singleton, List.length_map]
                                omega
                              simp only [wB, wS, wE, wA, wAnd, wOr, wAndT, wOrT, wP, wI, tru, eQ, exAt_eq, IAs.isNil, List.map_cons, List.map_nil, List.cons_append, List.nil_append, List.getElem?_cons_zero, List.getElem?_cons_succ, List.set_cons_zero, List.set_cons_succ, Bool.false_eq_true, if_false, if_true, if_pos, List.any_cons, List.any_nil, ofO_some, ofO_none, setMany, bindT, D.truth, D.isTy, D.isBox, bi_len_tup, bi_len_list, bi_len_str, bi_tuple_list, bi_tuple_tup, bi_list_list, bi_list_tup, bi_int_int, eq_int, ne_int, lt_int, le_int, gt_int, ge_int, Bool.or_false, Bool.or_true, Bool.false_or, Bool.true_or, Bool.and_true, Bool.true_and, Bool.not_true, Bool.not_false, Bool.and_false, Bool.false_and, Option.map_some, reduceCtorEq, and_true, true_and, and_self, add_list la]
                              refine ⟨by rw [sizeLine_eq]; simp, fs, b, ns ++ [z], th, by simp, hx b (by simp), ha, by omega, ?_, q⟩
                              rw [List.length_append, List.length_singleton]
                              omega
                  | _ =>
                    simp only [nameD, wB, wS, wE, wA, wAnd, wOr, wAndT, wOrT, wP, wI, tru, eQ, exAt_eq, IAs.isNil, List.map_cons, List.map_nil, List.cons_append, List.nil_append, List.getElem?_cons_zero, List.getElem?_cons_succ, List.set_cons_zero, List.set_cons_succ, Bool.false_eq_true, if_false, if_true, if_pos, List.any_cons, List.any_nil, ofO_some, ofO_none, setMany, bindT, D.truth, D.isTy, D.isBox, bi_len_tup, bi_len_list, bi_len_str, bi_tuple_list, bi_tuple_tup, bi_list_list, bi_list_tup, bi_int_int, eq_int, ne_int, lt_int, le_int, gt_int, ge_int, Bool.or_false, Bool.or_true, Bool.false_or, Bool.true_or, Bool.and_true, Bool.true_and, Bool.not_true, Bool.not_false, Bool.and_false, Bool.false_and, Option.map_some, reduceCtorEq, and_true, true_and, and_self]
                    exact q
                | [], _, q => exact q
                | [_], _, q => exact q
                | [_, _], _, q => exact q
                | [_, _, _], _, q => exact q
                | x1 :: x2 :: x3 :: x4 :: x5 :: r, _, q =>
                  rw [if_pos (show (!(((D.str "let" :: x1 :: x2 :: x3 :: x4 :: x5 :: r).length : Int) == 5)) = true from by
                    rw [Bool.not_eq_true', beq_eq_false_iff_ne]
                    simp only [List.length_cons]
                    omega)]
                  exact q
              | false =>
                simp only [wB, wS, wE, wA, wAnd, wOr, wAndT, wOrT, wP, wI, tru, eQ, exAt_eq, IAs.isNil, List.map_cons, List.map_nil, List.cons_append, List.nil_append, List.getElem?_cons_zero, List.getElem?_cons_succ, List.set_cons_zero, List.set_cons_succ, Bool.false_eq_true, if_false, if_true, if_pos, List.any_cons, List.any_nil, ofO_some, ofO_none, setMany, bindT, D.truth, D.isTy, D.isBox, bi_len_tup, bi_len_list, bi_len_str, bi_tuple_list, bi_tuple_tup, bi_list_list, bi_list_tup, bi_int_int, eq_int, ne_int, lt_int, le_int, gt_int, ge_int, Bool.or_false, Bool.or_true, Bool.false_or, Bool.true_or, Bool.and_true, Bool.true_and, Bool.not_true, Bool.not_false, Bool.and_false, Bool.false_and, Option.map_some, reduceCtorEq, and_true, true_and, and_self]
                rw [bodyD.eq_def] at q
                dsimp only at q
                rw [if_neg (by rw [h1]; decide), if_neg (by rw [h2]; decide), if_neg (by rw [h3]; decide), if_neg (by rw [h4]; decide)] at q
                exact q
      | _ =>
        simp only [wB, wS, wE, wA, wAnd, wOr, wAndT, wOrT, wP, wI, tru, eQ, exAt_eq, IAs.isNil, List.map_cons, List.map_nil, List.cons_append, List.nil_append, List.getElem?_cons_zero, List.getElem?_cons_succ, List.set_cons_zero, List.set_cons_succ, Bool.false_eq_true, if_false, if_true, if_pos, List.any_cons, List.any_nil, ofO_some, ofO_none, setMany, bindT, D.truth, D.isTy, D.isBox, bi_len_tup, bi_len_list, bi_len_str, bi_tuple_list, bi_tuple_tup, bi_list_list, bi_list_tup, bi_int_int, eq_int, ne_int, lt_int, le_int, gt_int, ge_int, Bool.or_false, Bool.or_true, Bool.false_or, Bool.true_or, Bool.and_true, Bool.true_and, Bool.not_true, Bool.not_false, Bool.and_false, Bool.false_and, Option.map_some, reduceCtorEq, and_true, true_and, and_self]
        exact q
  | _ =>
    simp only [wB, wS, wE, wA, wAnd, wOr, wAndT, wOrT, wP, wI, tru, eQ, exAt_eq, IAs.isNil, List.map_cons, List.map_nil, List.cons_append, List.nil_append, List.getElem?_cons_zero, List.getElem?_cons_succ, List.set_cons_zero, List.set_cons_succ, Bool.false_eq_true, if_false, if_true, if_pos, List.any_cons, List.any_nil, ofO_some, ofO_none, setMany, bindT, D.truth, D.isTy, D.isBox, bi_len_tup, bi_len_list, bi_len_str, bi_tuple_list, bi_tuple_tup, bi_list_list, bi_list_tup, bi_int_int, eq_int, ne_int, lt_int, le_int, gt_int, ge_int, Bool.or_false, Bool.or_true, Bool.false_or, Bool.true_or, Bool.and_true, Bool.true_and, Bool.not_true, Bool.not_false, Bool.and_false, Bool.false_and, Option.map_some, reduceCtorEq, and_true, true_and, and_self]
    cases m with
    | zero => exact q
    | succ j => exact q
theorem b_law_is_kind (m : Nat) (hm : m ≤ 900) {ds : List D} (f1 : T.fs "_law_is_name" = some fsName) (f3 : T.fs "_law_is_body" = some (fsBodyL m)) (h : fsKindL m ds n Q E) :
    wB T ir_law_is_kind (ent0 ["_law_fields_so", "_law_matter", "_law_names_so", "_law_own"] ds) n (eQ Q E) := by
  obtain ⟨fs, d, rfl, hd, q⟩ := h
  unfold ir_law_is_kind ent0
  simp only [wB, wS, wE, wA, wAnd, wOr, wAndT, wOrT, wP, wI, tru, eQ, exAt_eq, IAs.isNil, List.map_cons, List.map_nil, List.cons_append, List.nil_append, List.getElem?_cons_zero, List.getElem?_cons_succ, List.set_cons_zero, List.set_cons_succ, Bool.false_eq_true, if_false, if_true, if_pos, List.any_cons, List.any_nil, ofO_some, ofO_none, setMany, bindT, D.truth, D.isTy, D.isBox, bi_len_tup, bi_len_list, bi_len_str, bi_tuple_list, bi_tuple_tup, bi_list_list, bi_list_tup, bi_int_int, eq_int, ne_int, lt_int, le_int, gt_int, ge_int, Bool.or_false, Bool.or_true, Bool.false_or, Bool.true_or, Bool.and_true, Bool.true_and, Bool.not_true, Bool.not_false, Bool.and_false, Bool.false_and, Option.map_some, reduceCtorEq, and_true, true_and, and_self, f1, f3, List.length_cons, List.length_nil, List.replicate]
  refine ⟨dp_nb hd, ?_⟩
  cases d with
  | tup xs =>
    obtain ⟨j, e, hx⟩ := dp_tup hd
    obtain rfl : m = j := by omega
    simp only [wB, wS, wE, wA, wAnd, wOr, wAndT, wOrT, wP, wI, tru, eQ, exAt_eq, IAs.isNil, List.map_cons, List.map_nil, List.cons_append, List.nil_append, List.getElem?_cons_zero, List.getElem?_cons_succ, List.set_cons_zero, List.set_cons_succ, Bool.false_eq_true, if_false, if_true, if_pos, List.any_cons, List.any_nil, ofO_some, ofO_none, setMany, bindT, D.truth, D.isTy, D.isBox, bi_len_tup, bi_len_list, bi_len_str, bi_tuple_list, bi_tuple_tup, bi_list_list, bi_list_tup, bi_int_int, eq_int, ne_int, lt_int, le_int, gt_int, ge_int, Bool.or_false, Bool.or_true, Bool.false_or, Bool.true_or, Bool.and_true, Bool.true_and, Bool.not_true, Bool.not_false, Bool.and_false, Bool.false_and, Option.map_some, reduceCtorEq, and_true, true_and, and_self]
    match xs, hx, q with
    | [nm, ps, b], hx, q =>
      rw [if_neg (show ¬ (!((([nm, ps, b] : List D).length : Int) == 3)) = true from by show ¬ (!((3 : Int) == 3)) = true; decide)]
      have q : Q (.bl (nameD nm && (match parsD ps with
        | some ns => bodyD fs m ns [] b
        | none => false))) n := q
      simp only [wB, wS, wE, wA, wAnd, wOr, wAndT, wOrT, wP, wI, tru, eQ, exAt_eq, IAs.isNil, List.map_cons, List.map_nil, List.cons_append, List.nil_append, List.getElem?_cons_zero, List.getElem?_cons_succ, List.set_cons_zero, List.set_cons_succ, Bool.false_eq_true, if_false, if_true, if_pos, List.any_cons, List.any_nil, ofO_some, ofO_none, setMany, bindT, D.truth, D.isTy, D.isBox, bi_len_tup, bi_len_list, bi_len_str, bi_tuple_list, bi_tuple_tup, bi_list_list, bi_list_tup, bi_int_int, eq_int, ne_int, lt_int, le_int, gt_int, ge_int, Bool.or_false, Bool.or_true, Bool.false_or, Bool.true_or, Bool.and_true, Bool.true_and, Bool.not_true, Bool.not_false, Bool.and_false, Bool.false_and, Option.map_some, reduceCtorEq, and_true, true_and, and_self, ix0, ix1, ix2]
      refine ⟨nm, rfl, dp_nb (hx nm (by simp)), ?_⟩
      cases h1 : nameD nm with
      | false =>
        rw [h1, Bool.false_and] at q
        simp only [wB, wS, wE, wA, wAnd, wOr, wAndT, wOrT, wP, wI, tru, eQ, exAt_eq, IAs.isNil, List.map_cons, List.map_nil, List.cons_append, List.nil_append, List.getElem?_cons_zero, List.getElem?_cons_succ, List.set_cons_zero, List.set_cons_succ, Bool.false_eq_true, if_false, if_true, if_pos, List.any_cons, List.any_nil, ofO_some, ofO_none, setMany, bindT, D.truth, D.isTy, D.isBox, bi_len_tup, bi_len_list, bi_len_str, bi_tuple_list, bi_tuple_tup, bi_list_list, bi_list_tup, bi_int_int, eq_int, ne_int, lt_int, le_int, gt_int, ge_int, Bool.or_false, Bool.or_true, Bool.false_or, Bool.true_or, Bool.and_true, Bool.true_and, Bool.not_true, Bool.not_false, Bool.and_false, Bool.false_and, Option.map_some, reduceCtorEq, and_true, true_and, and_self]
        exact q
      | true =>
        rw [h1, Bool.true_and] at q
        simp only [wB, wS, wE, wA, wAnd, wOr, wAndT, wOrT, wP, wI, tru, eQ, exAt_eq, IAs.isNil, List.map_cons, List.map_nil, List.cons_append, List.nil_append, List.getElem?_cons_zero, List.getElem?_cons_succ, List.set_cons_zero, List.set_cons_succ, Bool.false_eq_true, if_false, if_true, if_pos, List.any_cons, List.any_nil, ofO_some, ofO_none, setMany, bindT, D.truth, D.isTy, D.isBox, bi_len_tup, bi_len_list, bi_len_str, bi_tuple_list, bi_tuple_tup, bi_list_list, bi_list_tup, bi_int_int, eq_int, ne_int, lt_int, le_int, gt_int, ge_int, Bool.or_false, Bool.or_true, Bool.false_or, Bool.true_or, Bool.and_true, Bool.true_and, Bool.not_true, Bool.not_false, Bool.and_false, Bool.false_and, Option.map_some, reduceCtorEq, and_true, true_and, and_self]
        have dps := hx ps (by simp)
        refine ⟨dp_nb dps, ?_⟩
        cases ps with
        | tup xs =>
          obtain ⟨j', _, hy⟩ := dp_tup dps
          rw [parsD] at q
          simp only [wB, wS, wE, wA, wAnd, wOr, wAndT, wOrT, wP, wI, tru, eQ, exAt_eq, IAs.isNil, List.map_cons, List.map_nil, List.cons_append, List.nil_append, List.getElem?_cons_zero, List.getElem?_cons_succ, List.set_cons_zero, List.set_cons_succ, Bool.false_eq_true, if_false, if_true, if_pos, List.any_cons, List.any_nil, ofO_some, ofO_none, setMany, bindT, D.truth, D.isTy, D.isBox, bi_len_tup, bi_len_list, bi_len_str, bi_tuple_list, bi_tuple_tup, bi_list_list, bi_list_tup, bi_int_int, eq_int, ne_int, lt_int, le_int, gt_int, ge_int, Bool.or_false, Bool.or_true, Bool.false_or, Bool.true_or, Bool.and_true, Bool.true_and, Bool.not_true, Bool.not_false, Bool.and_false, Bool.false_and, Option.map_some, reduceCtorEq, and_true, true_and, and_self, itemsD]
          by_cases h2 : (xs.length : Int) ≤ 2
          · rw [decide_eq_false (show ¬ (2 : Int) < (xs.length : Int) by omega)]
            simp only [wB, wS, wE, wA, wAnd, wOr, wAndT, wOrT, wP, wI, tru, eQ, exAt_eq, IAs.isNil, List.map_cons, List.map_nil, List.cons_append, List.nil_append, List.getElem?_cons_zero, List.getElem?_cons_succ, List.set_cons_zero, List.set_cons_succ, Bool.false_eq_true, if_false, if_true, if_pos, List.any_cons, List.any_nil, ofO_some, ofO_none, setMany, bindT, D.truth, D.isTy, D.isBox, bi_len_tup, bi_len_list, bi_len_str, bi_tuple_list, bi_tuple_tup, bi_list_list, bi_list_tup, bi_int_int, eq_int, ne_int, lt_int, le_int, gt_int, ge_int, Bool.or_false, Bool.or_true, Bool.false_or, Bool.true_or, Bool.and_true, Bool.true_and, Bool.not_true, Bool.not_false, Bool.and_false, Bool.false_and, Option.map_some, reduceCtorEq, and_true, true_and, and_self]
            refine all_comp (f := nameD) (Q := fun z n => _) (fun d hd n k hk => ⟨d, rfl, dp_nb (hy d hd), hk⟩) ?_
            cases h3 : xs.all nameD with
            | false =>
              simp only [wB, wS, wE, wA, wAnd, wOr, wAndT, wOrT, wP, wI, tru, eQ, exAt_eq, IAs.isNil, List.map_cons, List.map_nil, List.cons_append, List.nil_append, List.getElem?_cons_zero, List.getElem?_cons_succ, List.set_cons_zero, List.set_cons_succ, Bool.false_eq_true, if_false, if_true, if_pos, List.any_cons, List.any_nil, ofO_some, ofO_none, setMany, bindT, D.truth, D.isTy, D.isBox, bi_len_tup, bi_len_list, bi_len_str, bi_tuple_list, bi_tuple_tup, bi_list_list, bi_list_tup, bi_int_int, eq_int, ne_int, lt_int, le_int, gt_int, ge_int, Bool.or_false, Bool.or_true, Bool.false_or, Bool.true_or, Bool.and_true, Bool.true_and, Bool.not_true, Bool.not_false, Bool.and_false, Bool.false_and, Option.map_some, reduceCtorEq, and_true, true_and, and_self]
              rw [namesD, h3, Bool.false_and, Bool.and_false, Bool.and_false] at q
              exact q
            | true =>
              obtain ⟨ys, e1, e2⟩ := strs_names h3
              have l1 : ys.length = xs.length := by rw [e2, List.length_map]
              simp only [wB, wS, wE, wA, wAnd, wOr, wAndT, wOrT, wP, wI, tru, eQ, exAt_eq, IAs.isNil, List.map_cons, List.map_nil, List.cons_append, List.nil_append, List.getElem?_cons_zero, List.getElem?_cons_succ, List.set_cons_zero, List.set_cons_succ, Bool.false_eq_true, if_false, if_true, if_pos, List.any_cons, List.any_nil, ofO_some, ofO_none, setMany, bindT, D.truth, D.isTy, D.isBox, bi_len_tup, bi_len_list, bi_len_str, bi_tuple_list, bi_tuple_tup, bi_list_list, bi_list_tup, bi_int_int, eq_int, ne_int, lt_int, le_int, gt_int, ge_int, Bool.or_false, Bool.or_true, Bool.false_or, Bool.true_or, Bool.and_true, Bool.true_and, Bool.not_true, Bool.not_false, Bool.and_false, Bool.false_and, Option.map_some, reduceCtorEq, and_true, true_and, and_self, e1]
              refine ⟨by omega, ?_⟩
              have e3 : ((((unlike ys).length : Nat) : Int) == ((xs.length : Nat) : Int)) = ((unlike ys).length == ys.length) := by
                rw [l1]
                exact int_len _ _
              rw [e3]
              rw [namesD, decide_eq_true (show (0 : Int) ≤ (xs.length : Int) by omega), decide_eq_true h2, h3, e1, Bool.true_and, Bool.true_and, Bool.true_and] at q
              cases h4 : ((unlike ys).length == ys.length) with
              | false =>
                have q : Q (.bl (match (if ((unlike ys).length == ys.length) = true then some ys else none) with
                  | some ns => bodyD fs m ns [] b
                  | none => false)) n := q
                rw [h4] at q
                simp only [wB, wS, wE, wA, wAnd, wOr, wAndT, wOrT, wP, wI, tru, eQ, exAt_eq, IAs.isNil, List.map_cons, List.map_nil, List.cons_append, List.nil_append, List.getElem?_cons_zero, List.getElem?_cons_succ, List.set_cons_zero, List.set_cons_succ, Bool.false_eq_true, if_false, if_true, if_pos, List.any_cons, List.any_nil, ofO_some, ofO_none, setMany, bindT, D.truth, D.isTy, D.isBox, bi_len_tup, bi_len_list, bi_len_str, bi_tuple_list, bi_tuple_tup, bi_list_list, bi_list_tup, bi_int_int, eq_int, ne_int, lt_int, le_int, gt_int, ge_int, Bool.or_false, Bool.or_true, Bool.false_or, Bool.true_or, Bool.and_true, Bool.true_and, Bool.not_true, Bool.not_false, Bool.and_false, Bool.false_and, Option.map_some, reduceCtorEq, and_true, true_and, and_self]
                exact q
              | true =>
                have q : Q (.bl (match (if ((unlike ys).length == ys.length) = true then some ys else none) with
                  | some ns => bodyD fs m ns [] b
                  | none => false)) n := q
                rw [h4, if_pos rfl] at q
                have q9 : Q (.bl (bodyD fs m ys [] b)) n := q
                simp only [wB, wS, wE, wA, wAnd, wOr, wAndT, wOrT, wP, wI, tru, eQ, exAt_eq, IAs.isNil, List.map_cons, List.map_nil, List.cons_append, List.nil_append, List.getElem?_cons_zero, List.getElem?_cons_succ, List.set_cons_zero, List.set_cons_succ, Bool.false_eq_true, if_false, if_true, if_pos, List.any_cons, List.any_nil, ofO_some, ofO_none, setMany, bindT, D.truth, D.isTy, D.isBox, bi_len_tup, bi_len_list, bi_len_str, bi_tuple_list, bi_tuple_tup, bi_list_list, bi_list_tup, bi_int_int, eq_int, ne_int, lt_int, le_int, gt_int, ge_int, Bool.or_false, Bool.or_true, Bool.false_or, Bool.true_or, Bool.and_true, Bool.true_and, Bool.not_true, Bool.not_false, Bool.and_false, Bool.false_and, Option.map_some, reduceCtorEq, and_true, true_and, and_self]
                rw [e2]
                exact ⟨Nat.zero_le _, fs, b, ys, [], rfl, hx b (by simp), rfl, by simp; omega, by omega, q9⟩
          · rw [decide_eq_true (show (2 : Int) < (xs.length : Int) by omega)]
            simp only [wB, wS, wE, wA, wAnd, wOr, wAndT, wOrT, wP, wI, tru, eQ, exAt_eq, IAs.isNil, List.map_cons, List.map_nil, List.cons_append, List.nil_append, List.getElem?_cons_zero, List.getElem?_cons_succ, List.set_cons_zero, List.set_cons_succ, Bool.false_eq_true, if_false, if_true, if_pos, List.any_cons, List.any_nil, ofO_some, ofO_none, setMany, bindT, D.truth, D.isTy, D.isBox, bi_len_tup, bi_len_list, bi_len_str, bi_tuple_list, bi_tuple_tup, bi_list_list, bi_list_tup, bi_int_int, eq_int, ne_int, lt_int, le_int, gt_int, ge_int, Bool.or_false, Bool.or_true, Bool.false_or, Bool.true_or, Bool.and_true, Bool.true_and, Bool.not_true, Bool.not_false, Bool.and_false, Bool.false_and, Option.map_some, reduceCtorEq, and_true, true_and, and_self]
            rw [namesD, decide_eq_false h2, Bool.false_and, Bool.and_false] at q
            exact q
        | _ =>
          simp only [wB, wS, wE, wA, wAnd, wOr, wAndT, wOrT, wP, wI, tru, eQ, exAt_eq, IAs.isNil, List.map_cons, List.map_nil, List.cons_append, List.nil_append, List.getElem?_cons_zero, List.getElem?_cons_succ, List.set_cons_zero, List.set_cons_succ, Bool.false_eq_true, if_false, if_true, if_pos, List.any_cons, List.any_nil, ofO_some, ofO_none, setMany, bindT, D.truth, D.isTy, D.isBox, bi_len_tup, bi_len_list, bi_len_str, bi_tuple_list, bi_tuple_tup, bi_list_list, bi_list_tup, bi_int_int, eq_int, ne_int, lt_int, le_int, gt_int, ge_int, Bool.or_false, Bool.or_true, Bool.false_or, Bool.true_or, Bool.and_true, Bool.true_and, Bool.not_true, Bool.not_false, Bool.and_false, Bool.false_and, Option.map_some, reduceCtorEq, and_true, true_and, and_self]
          exact q
    | [], _, q => exact q
    | [_], _, q => exact q
    | [_, _], _, q => exact q
    | x1 :: x2 :: x3 :: x4 :: r, _, q =>
      rw [if_pos (show (!(((x1 :: x2 :: x3 :: x4 :: r).length : Int) == 3)) = true from by
        rw [Bool.not_eq_true', beq_eq_false_iff_ne]
        simp only [List.length_cons]
        omega)]
      exact q
  | _ =>
    simp only [wB, wS, wE, wA, wAnd, wOr, wAndT, wOrT, wP, wI, tru, eQ, exAt_eq, IAs.isNil, List.map_cons, List.map_nil, List.cons_append, List.nil_append, List.getElem?_cons_zero, List.getElem?_cons_succ, List.set_cons_zero, List.set_cons_succ, Bool.false_eq_true, if_false, if_true, if_pos, List.any_cons, List.any_nil, ofO_some, ofO_none, setMany, bindT, D.truth, D.isTy, D.isBox, bi_len_tup, bi_len_list, bi_len_str, bi_tuple_list, bi_tuple_tup, bi_list_list, bi_list_tup, bi_int_int, eq_int, ne_int, lt_int, le_int, gt_int, ge_int, Bool.or_false, Bool.or_true, Bool.false_or, Bool.true_or, Bool.and_true, Bool.true_and, Bool.not_true, Bool.not_false, Bool.and_false, Bool.false_and, Option.map_some, reduceCtorEq, and_true, true_and, and_self]
    exact q
end
end Dl

set_option Elab.async false
set_option linter.all false
set_option maxRecDepth 100000
set_option maxHeartbeats 4000000
/-! What is drawn. -/
namespace Dl
open PySem PySem.Spec PyProof.Rows L2
def B9 : Nat := 1000000000
def fsTake : FS := fun ds n Q _ => ∃ m : Int, ds = [.box, .int m] ∧ 0 < m ∧ m ≤ 1000 ∧ n < B9 ∧ ∀ r : Int, 0 ≤ r → r < m → Q (.int r) (n + 1)
def fsOf : FS := fun ds n Q _ => ∃ x xs, ds = [.box, x] ∧ (x = .list xs ∨ x = .tup xs ∨ ∃ z, x = .str z ∧ xs = signs z) ∧ 0 < xs.length ∧ xs.length ≤ 1000 ∧ n < B9 ∧ ∀ d ∈ xs, Q d (n + 1)
theorem forL_rule {F : D → List Ent → Nat → (List Ent → Nat → Prop) → Prop} {Q : List Ent → Nat → Prop} (I : List D → List Ent → Nat → Prop) (turn : ∀ d rest r n, I (d :: rest) r n → ∀ k : List Ent → Nat → Prop, (∀ r' n', I rest r' n' → k r' n') → F d r n k) (fin : ∀ r n, I [] r n → Q r n) : ∀ (ds : List D) (r : List Ent) (n : Nat), I ds r n → forL F ds r n Q
  | [], r, n, h => fin r n h
  | d :: ds, r, n, h => turn d ds r n h _ fun r' n' h' => forL_rule I turn fin ds r' n' h'
theorem compL_rule {F : D → Nat → (Option D → Nat → Prop) → Prop} {Q : List D → Nat → Prop} (I : List D → List D → Nat → Prop) (turn : ∀ d rest acc n, I (d :: rest) acc n → ∀ k : Option D → Nat → Prop, (∀ y n', I rest (acc ++ [y]) n' → k (some y) n') → F d n k) (fin : ∀ acc n, I [] acc n → Q acc n) : ∀ (ds acc : List D) (n : Nat), I ds acc n → compL F ds acc n Q
  | [], acc, n, h => fin acc n h
  | d :: ds, acc, n, h => turn d ds acc n h _ fun y n' h' => compL_rule I turn fin ds (acc ++ [y]) n' h'
theorem strsD_map (zs : List Str) : strsD (zs.map .str) = some zs := by
  induction zs with
  | nil => rfl
  | cons z zs ih => rw [List.map_cons, strsD, ih]; rfl
theorem atI_of {α : Type} {xs : List α} {i : Int} (h0 : 0 ≤ i) (h1 : i < xs.length) : ∃ v ∈ xs, L2.atI xs i = some v := by
  have hj : i.toNat < xs.length := by omega
  refine ⟨xs[i.toNat], List.getElem_mem hj, ?_⟩
  unfold L2.atI L2.ixN
  rw [if_pos h0, if_pos h1]
  exact List.getElem?_eq_getElem hj
theorem sum_ones : ∀ {zs : List Str}, (∀ z ∈ zs, z.length = 1) → (zs.map (·.length)).sum = zs.length
  | [], _ => rfl
  | z :: zs, h => by
    rw [List.map_cons, List.sum_cons, h z (List.mem_cons_self ..), sum_ones fun y hy => h y (List.mem_cons_of_mem _ hy), List.length_cons]
    omega
theorem iota_len (lo : Int) : ∀ k, (iotaI lo k).length = k
  | 0 => rfl
  | k + 1 => by rw [iotaI, List.length_cons, iota_len]
def fsNamesG : FS := fun ds n Q _ => ∃ many : Nat, ds = [.box, .int many] ∧ many ≤ 20 ∧ n + 6 * many ≤ B9 ∧ ∀ (ys : List Str) n', ys.length = many → n' ≤ n + 6 * many → Q (.list (ys.map .str)) n'
theorem join_small {zs : List Str} (h : ∀ z ∈ zs, z.length = 1) (l : zs.length ≤ 1000) : ∃ w, joinD "" (.list (zs.map .str)) = some (.str w) ∧ w.length ≤ zs.length := by
  have e0 : (Str.ofString "").length = 0 := rfl
  refine ⟨Txt.join (Str.ofString "") zs, ?_, ?_⟩
  · have e : joinD (Str.ofString "") (.list (zs.map .str)) = (match strsD (zs.map .str) with
      | some ys => if (ys.map (·.length)).sum + ys.length * (Str.ofString "").length ≤ 16777216 then some (.str (Txt.join (Str.ofString "") ys)) else none
      | none => none) := rfl
    rw [e, strsD_map]
    simp only
    rw [if_pos]
    rw [sum_ones h, e0]
    omega
  · rw [TL.join_eq]
    have := join_len (Str.ofString "") zs
    rw [sum_ones h, e0] at this
    omega
theorem add_str {a c : Str} (h : a.length + c.length ≤ sizeLine) : binop .add (.str a) (.str c) = some (.str (a ++ c)) := by
  show (if a.length + c.length ≤ sizeLine then some (D.str (a ++ c)) else none) = _
  rw [if_pos h]
theorem twice_sign (c : Nat) : binop .mul (.str ⟨#[c]⟩) (.int 2) = some (.str (repS ⟨#[c]⟩ 2)) ∧ (repS ⟨#[c]⟩ 2).length = 2 := by
  have e : (repS ⟨#[c]⟩ 2).length = 2 := rfl
  refine ⟨?_, e⟩
  show (if (decide ((2 : Int) ≤ 2) && decide ((2 : Int) ≤ 1000) && decide (1 ≤ (⟨#[c]⟩ : Str).length) && decide ((⟨#[c]⟩ : Str).length ≤ 1000) && decide ((repS ⟨#[c]⟩ (2 : Int).toNat).length ≤ sizeLine)) = true then some (D.str (repS ⟨#[c]⟩ (2 : Int).toNat)) else none) = _
  have e2 : (repS ⟨#[c]⟩ (2 : Int).toNat).length ≤ sizeLine := by
    show (2 : Nat) ≤ sizeLine
    rw [sizeLine_eq]
    omega
  rw [decide_eq_true e2]
  rfl
section
variable {T : Tab} {n : Nat} {Q : D → Nat → Prop} {E : QX}
theorem b_law_of {ds : List D} (f1 : T.fs "_law_take" = some fsTake) (h : fsOf ds n Q E) : wB T ir_law_of (ent0 ["_law_box_here", "_law_some"] ds) n (eQ Q E) := by
  obtain ⟨x, xs, rfl, hx, l0, l1, hn, q⟩ := h
  unfold ir_law_of ent0
  simp only [wB, wS, wE, wA, wAnd, wOr, wAndT, wOrT, wP, wI, tru, eQ, exAt_eq, IAs.isNil, List.map_cons, List.map_nil, List.cons_append, List.nil_append, List.getElem?_cons_zero, List.getElem?_cons_succ, List.set_cons_zero, List.set_cons_succ, Bool.false_eq_true, if_false, if_true, if_pos, List.any_cons, List.any_nil, ofO_some, ofO_none, setMany, bindT, D.truth, D.isTy, D.isBox, bi_len_tup, bi_len_list, bi_len_str, bi_tuple_list, bi_tuple_tup, bi_list_list, bi_list_tup, bi_int_int, eq_int, ne_int, lt_int, le_int, gt_int, ge_int, Bool.or_false, Bool.or_true, Bool.false_or, Bool.true_or, Bool.and_true, Bool.true_and, Bool.not_true, Bool.not_false, Bool.and_false, Bool.false_and, Option.map_some, reduceCtorEq, and_true, true_and, and_self, f1, List.length_cons, List.length_nil, List.replicate]
  rcases hx with rfl | rfl | ⟨z, rfl, rfl⟩
  · simp only [wB, wS, wE, wA, wAnd, wOr, wAndT, wOrT, wP, wI, tru, eQ, exAt_eq, IAs.isNil, List.map_cons, List.map_nil, List.cons_append, List.nil_append, List.getElem?_cons_zero, List.getElem?_cons_succ, List.set_cons_zero, List.set_cons_succ, Bool.false_eq_true, if_false, if_true, if_pos, List.any_cons, List.any_nil, ofO_some, ofO_none, setMany, bindT, D.truth, D.isTy, D.isBox, bi_len_tup, bi_len_list, bi_len_str, bi_tuple_list, bi_tuple_tup, bi_list_list, bi_list_tup, bi_int_int, eq_int, ne_int, lt_int, le_int, gt_int, ge_int, Bool.or_false, Bool.or_true, Bool.false_or, Bool.true_or, Bool.and_true, Bool.true_and, Bool.not_true, Bool.not_false, Bool.and_false, Bool.false_and, Option.map_some, reduceCtorEq, and_true, true_and, and_self]
    refine ⟨_, rfl, by omega, by omega, hn, fun r h0 h1 => ?_⟩
    obtain ⟨v, hv, e⟩ := atI_of h0 h1
    rw [show getI (.list xs) (.int r) = some v from e]
    exact q v hv
  · simp only [wB, wS, wE, wA, wAnd, wOr, wAndT, wOrT, wP, wI, tru, eQ, exAt_eq, IAs.isNil, List.map_cons, List.map_nil, List.cons_append, List.nil_append, List.getElem?_cons_zero, List.getElem?_cons_succ, List.set_cons_zero, List.set_cons_succ, Bool.false_eq_true, if_false, if_true, if_pos, List.any_cons, List.any_nil, ofO_some, ofO_none, setMany, bindT, D.truth, D.isTy, D.isBox, bi_len_tup, bi_len_list, bi_len_str, bi_tuple_list, bi_tuple_tup, bi_list_list, bi_list_tup, bi_int_int, eq_int, ne_int, lt_int, le_int, gt_int, ge_int, Bool.or_false, Bool.or_true, Bool.false_or, Bool.true_or, Bool.and_true, Bool.true_and, Bool.not_true, Bool.not_false, Bool.and_false, Bool.false_and, Option.map_some, reduceCtorEq, and_true, true_and, and_self]
    refine ⟨_, rfl, by omega, by omega, hn, fun r h0 h1 => ?_⟩
    obtain ⟨v, hv, e⟩ := atI_of h0 h1
    rw [show getI (.tup xs) (.int r) = some v from e]
    exact q v hv
  · have e : (signs z).length = z.length := by
      unfold signs
      rw [List.length_map]
      simp [Str.length]
    rw [e] at l0 l1
    simp only [wB, wS, wE, wA, wAnd, wOr, wAndT, wOrT, wP, wI, tru, eQ, exAt_eq, IAs.isNil, List.map_cons, List.map_nil, List.cons_append, List.nil_append, List.getElem?_cons_zero, List.getElem?_cons_succ, List.set_cons_zero, List.set_cons_succ, Bool.false_eq_true, if_false, if_true, if_pos, List.any_cons, List.any_nil, ofO_some, ofO_none, setMany, bindT, D.truth, D.isTy, D.isBox, bi_len_tup, bi_len_list, bi_len_str, bi_tuple_list, bi_tuple_tup, bi_list_list, bi_list_tup, bi_int_int, eq_int, ne_int, lt_int, le_int, gt_int, ge_int, Bool.or_false, Bool.or_true, Bool.false_or, Bool.true_or, Bool.and_true, Bool.true_and, Bool.not_true, Bool.not_false, Bool.and_false, Bool.false_and, Option.map_some, reduceCtorEq, and_true, true_and, and_self]
    refine ⟨_, rfl, by omega, by omega, hn, fun r h0 h1 => ?_⟩
    have e3 : z.cps.toList.length = z.length := by simp [Str.length]
    obtain ⟨c, hc, e2⟩ := atI_of (xs := z.cps.toList) h0 (by rw [e3]; exact h1)
    have e4 : getI (.str z) (.int r) = some (.str ⟨#[c]⟩) := by
      show (L2.atI z.cps.toList r).map _ = _
      rw [e2]
      rfl
    show ofO (getI (D.str z) (D.int r)) _
    rw [e4]
    exact q _ (List.mem_map.mpr ⟨c, hc, rfl⟩)
theorem b_law_names {ds : List D} (f1 : T.fs "_law_take" = some fsTake) (f2 : T.fs "_law_of" = some fsOf) (h : fsNamesG ds n Q E) : wB T ir_law_names (ent0 ["_law_box_here", "_law_many", "_law_found", "_law_k", "_law_word_so", "_law_lap"] ds) n (eQ Q E) := by
  obtain ⟨many, rfl, l0, l1, q⟩ := h
  unfold ir_law_names ent0
  simp only [wB, wS, wE, wA, wAnd, wOr, wAndT, wOrT, wP, wI, tru, eQ, exAt_eq, IAs.isNil, List.map_cons, List.map_nil, List.cons_append, List.nil_append, List.getElem?_cons_zero, List.getElem?_cons_succ, List.set_cons_zero, List.set_cons_succ, Bool.false_eq_true, if_false, if_true, if_pos, List.any_cons, List.any_nil, ofO_some, ofO_none, setMany, bindT, D.truth, D.isTy, D.isBox, bi_len_tup, bi_len_list, bi_len_str, bi_tuple_list, bi_tuple_tup, bi_list_list, bi_list_tup, bi_int_int, eq_int, ne_int, lt_int, le_int, gt_int, ge_int, Bool.or_false, Bool.or_true, Bool.false_or, Bool.true_or, Bool.and_true, Bool.true_and, Bool.not_true, Bool.not_false, Bool.and_false, Bool.false_and, Option.map_some, reduceCtorEq, and_true, true_and, and_self, f1, f2, List.length_cons, List.length_nil, List.replicate]
  refine ⟨Nat.zero_le _, by omega, by omega, ?_⟩
  refine forL_rule (fun rest r n1 => ∃ (ys : List Str) (x3 x4 x5 : Ent), ys.length ≤ many ∧ rest = iotaI ys.length (many - ys.length) ∧ n1 ≤ n + 6 * ys.length ∧ r = [.sh .box, .sh (.int many), .ow (.list (ys.map .str)), x3, x4, x5]) ?_ ?_ _ _ _ ⟨[], .no, .no, .no, Nat.zero_le _, by simp, by omega, rfl⟩
  · rintro d rest r n1 ⟨ys, x3, x4, x5, hl, er, hn, rfl⟩ k hk
    obtain ⟨j, ej⟩ : ∃ j, many - ys.length = j + 1 := by
      cases h : many - ys.length with
      | zero => rw [h] at er; cases er
      | succ j => exact ⟨j, rfl⟩
    rw [ej, iotaI] at er
    obtain ⟨rfl, rfl⟩ := List.cons.inj er
    simp only [wB, wS, wE, wA, wAnd, wOr, wAndT, wOrT, wP, wI, tru, eQ, exAt_eq, IAs.isNil, List.map_cons, List.map_nil, List.cons_append, List.nil_append, List.getElem?_cons_zero, List.getElem?_cons_succ, List.set_cons_zero, List.set_cons_succ, Bool.false_eq_true, if_false, if_true, if_pos, List.any_cons, List.any_nil, ofO_some, ofO_none, setMany, bindT, D.truth, D.isTy, D.isBox, bi_len_tup, bi_len_list, bi_len_str, bi_tuple_list, bi_tuple_tup, bi_list_list, bi_list_tup, bi_int_int, eq_int, ne_int, lt_int, le_int, gt_int, ge_int, Bool.or_false, Bool.or_true, Bool.false_or, Bool.true_or, Bool.and_true, Bool.true_and, Bool.not_true, Bool.not_false, Bool.and_false, Bool.false_and, Option.map_some, reduceCtorEq, and_true, true_and, and_self]
    refine ⟨4, rfl, by decide, by decide, by omega, fun r h0 h1 => ?_⟩
    have eb : binop .add (.int 1) (.int r) = some (.int (1 + r)) := rfl
    simp only [wB, wS, wE, wA, wAnd, wOr, wAndT, wOrT, wP, wI, tru, eQ, exAt_eq, IAs.isNil, List.map_cons, List.map_nil, List.cons_append, List.nil_append, List.getElem?_cons_zero, List.getElem?_cons_succ, List.set_cons_zero, List.set_cons_succ, Bool.false_eq_true, if_false, if_true, if_pos, List.any_cons, List.any_nil, ofO_some, ofO_none, setMany, bindT, D.truth, D.isTy, D.isBox, bi_len_tup, bi_len_list, bi_len_str, bi_tuple_list, bi_tuple_tup, bi_list_list, bi_list_tup, bi_int_int, eq_int, ne_int, lt_int, le_int, gt_int, ge_int, Bool.or_false, Bool.or_true, Bool.false_or, Bool.true_or, Bool.and_true, Bool.true_and, Bool.not_true, Bool.not_false, Bool.and_false, Bool.false_and, Option.map_some, reduceCtorEq, and_true, true_and, and_self, eb]
    refine ⟨by omega, by omega, ?_⟩
    refine compL_rule (fun rest acc n2 => ∃ zs : List Str, acc = zs.map .str ∧ (∀ z ∈ zs, z.length = 1) ∧ zs.length + rest.length ≤ 4 ∧ n2 ≤ n1 + 1 + zs.length) ?_ ?_ _ _ _ ⟨[], rfl, (fun z hz => by cases hz), ?_, by simp⟩
    · rintro d rest acc n2 ⟨zs, rfl, hz, hzl, hn2⟩ k2 hk2
      rw [List.length_cons] at hzl
      refine ⟨_, _, rfl, .inr (.inr ⟨_, rfl, rfl⟩), by decide, by decide, by omega, fun d hd => ?_⟩
      obtain ⟨c, _, rfl⟩ := List.mem_map.mp hd
      refine hk2 _ _ ⟨zs ++ [⟨#[c]⟩], by simp, fun z hz' => ?_, ?_, ?_⟩
      · rcases List.mem_append.mp hz' with z1 | z1
        · exact hz z z1
        · rw [List.mem_singleton.mp z1]; rfl
      · rw [List.length_append, List.length_singleton]
        omega
      · rw [List.length_append, List.length_singleton]
        omega
    · rintro acc n2 ⟨zs, rfl, hz, hzl, hn2⟩
      obtain ⟨w, ew, lw⟩ := join_small hz (by simp at hzl; omega)
      simp only [List.length_nil] at hzl
      simp only [wB, wS, wE, wA, wAnd, wOr, wAndT, wOrT, wP, wI, tru, eQ, exAt_eq, IAs.isNil, List.map_cons, List.map_nil, List.cons_append, List.nil_append, List.getElem?_cons_zero, List.getElem?_cons_succ, List.set_cons_zero, List.set_cons_succ, Bool.false_eq_true, if_false, if_true, if_pos, List.any_cons, List.any_nil, ofO_some, ofO_none, setMany, bindT, D.truth, D.isTy, D.isBox, bi_len_tup, bi_len_list, bi_len_str, bi_tuple_list, bi_tuple_tup, bi_list_list, bi_list_tup, bi_int_int, eq_int, ne_int, lt_int, le_int, gt_int, ge_int, Bool.or_false, Bool.or_true, Bool.false_or, Bool.true_or, Bool.and_true, Bool.true_and, Bool.not_true, Bool.not_false, Bool.and_false, Bool.false_and, Option.map_some, reduceCtorEq, and_true, true_and, and_self, ew, owL]
      refine ⟨inOk_strs (x := .str w) rfl ys, ?_⟩
      have hmany : ys.length < sizeLine := by rw [sizeLine_eq]; omega
      have nxt : ∀ (w' : Str) (x5' : Ent), k [.sh .box, .sh (.int many), .ow (.list (ys.map .str ++ [.str w'])), .sh (.int ys.length), .sh (.str w'), x5'] n2 := fun w' x5' =>
        hk _ _ ⟨ys ++ [w'], .sh (.int ys.length), .sh (.str w'), x5', by rw [List.length_append, List.length_singleton]; omega, by
          rw [List.length_append, List.length_singleton]
          have e1 : many - (ys.length + 1) = j := by omega
          rw [e1]
          congr 1, by
          rw [List.length_append, List.length_singleton]
          omega, by simp⟩
      split
      · have l4 : w.length + (Str.ofString "jjjj").length ≤ sizeLine := by
          have : (Str.ofString "jjjj").length = 4 := rfl
          rw [sizeLine_eq]
          omega
        have e5 : slcD (.str (w ++ Str.ofString "jjjj")) none (some 4) = some (.str (cutS (w ++ Str.ofString "jjjj") none (some 4))) := rfl
        obtain ⟨c, hc, e6⟩ := atI_of (xs := (Str.ofString "abcdefghijklmnopqrstuvwxyz").cps.toList) (i := (ys.length : Int)) (by omega) (by
          show (ys.length : Int) < 26
          omega)
        have e7 : getI (.str (Str.ofString "abcdefghijklmnopqrstuvwxyz")) (.int (ys.length : Int)) = some (.str ⟨#[c]⟩) := by
          show (L2.atI (Str.ofString "abcdefghijklmnopqrstuvwxyz").cps.toList _).map _ = _
          rw [e6]
          rfl
        obtain ⟨e8, e9⟩ := twice_sign c
        have l5 : (cutS (w ++ Str.ofString "jjjj") none (some 4)).length + (repS ⟨#[c]⟩ 2).length ≤ sizeLine := by
          have h1 := cutS_length (w ++ Str.ofString "jjjj") none (some 4)
          have h2 : (w ++ Str.ofString "jjjj").length = w.length + 4 := by
            rw [Str.length_append]
            rfl
          rw [sizeLine_eq, e9]
          omega
        simp only [wB, wS, wE, wA, wAnd, wOr, wAndT, wOrT, wP, wI, tru, eQ, exAt_eq, IAs.isNil, List.map_cons, List.map_nil, List.cons_append, List.nil_append, List.getElem?_cons_zero, List.getElem?_cons_succ, List.set_cons_zero, List.set_cons_succ, Bool.false_eq_true, if_false, if_true, if_pos, List.any_cons, List.any_nil, ofO_some, ofO_none, setMany, bindT, D.truth, D.isTy, D.isBox, bi_len_tup, bi_len_list, bi_len_str, bi_tuple_list, bi_tuple_tup, bi_list_list, bi_list_tup, bi_int_int, eq_int, ne_int, lt_int, le_int, gt_int, ge_int, Bool.or_false, Bool.or_true, Bool.false_or, Bool.true_or, Bool.and_true, Bool.true_and, Bool.not_true, Bool.not_false, Bool.and_false, Bool.false_and, Option.map_some, reduceCtorEq, and_true, true_and, and_self, add_str l4, e5, e7, e8, add_str l5, owD]
        refine ⟨by rw [List.length_map]; exact hmany, nxt _ _⟩
      · simp only [wB, wS, wE, wA, wAnd, wOr, wAndT, wOrT, wP, wI, tru, eQ, exAt_eq, IAs.isNil, List.map_cons, List.map_nil, List.cons_append, List.nil_append, List.getElem?_cons_zero, List.getElem?_cons_succ, List.set_cons_zero, List.set_cons_succ, Bool.false_eq_true, if_false, if_true, if_pos, List.any_cons, List.any_nil, ofO_some, ofO_none, setMany, bindT, D.truth, D.isTy, D.isBox, bi_len_tup, bi_len_list, bi_len_str, bi_tuple_list, bi_tuple_tup, bi_list_list, bi_list_tup, bi_int_int, eq_int, ne_int, lt_int, le_int, gt_int, ge_int, Bool.or_false, Bool.or_true, Bool.false_or, Bool.true_or, Bool.and_true, Bool.true_and, Bool.not_true, Bool.not_false, Bool.and_false, Bool.false_and, Option.map_some, reduceCtorEq, and_true, true_and, and_self, owD]
        refine ⟨by rw [List.length_map]; exact hmany, nxt _ _⟩
    · rw [iota_len]
      simp
      omega
  · rintro r n1 ⟨ys, x3, x4, x5, hl, er, hn, rfl⟩
    have : many - ys.length = 0 := by
      cases h : many - ys.length with
      | zero => rfl
      | succ j => rw [h, iotaI] at er; cases er
    simp only [wB, wS, wE, wA, wAnd, wOr, wAndT, wOrT, wP, wI, tru, eQ, exAt_eq, IAs.isNil, List.map_cons, List.map_nil, List.cons_append, List.nil_append, List.getElem?_cons_zero, List.getElem?_cons_succ, List.set_cons_zero, List.set_cons_succ, Bool.false_eq_true, if_false, if_true, if_pos, List.any_cons, List.any_nil, ofO_some, ofO_none, setMany, bindT, D.truth, D.isTy, D.isBox, bi_len_tup, bi_len_list, bi_len_str, bi_tuple_list, bi_tuple_tup, bi_list_list, bi_list_tup, bi_int_int, eq_int, ne_int, lt_int, le_int, gt_int, ge_int, Bool.or_false, Bool.or_true, Bool.false_or, Bool.true_or, Bool.and_true, Bool.true_and, Bool.not_true, Bool.not_false, Bool.and_false, Bool.false_and, Option.map_some, reduceCtorEq, and_true, true_and, and_self, freeze]
    exact q ys n1 (by omega) (by omega)
end
end Dl

set_option Elab.async false
set_option linter.all false
set_option maxRecDepth 100000
set_option maxHeartbeats 4000000
/-! What is drawn: bodies, KINDs. -/
namespace Dl
open PySem PySem.Spec PyProof.Rows L2
/-! ### no dict, no box, so deep at most, at most 100 wide -/
mutual
def D.nr : Nat → D → Bool
  | _, .non => true
  | _, .bl _ => true
  | _, .int _ => true
  | _, .str _ => true
  | 0, .list _ => false
  | 0, .tup _ => false
  | k + 1, .list xs => decide (xs.length ≤ 100) && D.nrs k xs
  | k + 1, .tup xs => decide (xs.length ≤ 100) && D.nrs k xs
  | _, .dict _ => false
  | _, .box => false
def D.nrs : Nat → List D → Bool
  | _, [] => true
  | k, x :: xs => D.nr k x && D.nrs k xs
end
theorem nrs_mem {k : Nat} : ∀ {xs : List D}, D.nrs k xs = true → ∀ x ∈ xs, x.nr k = true
  | [], _, x, h => by cases h
  | y :: ys, q, x, h => by
    rw [D.nrs, Bool.and_eq_true] at q
    rcases List.mem_cons.mp h with z | z
    · rw [z]; exact q.1
    · exact nrs_mem q.2 x z
theorem nrs_of {k : Nat} : ∀ {xs : List D}, (∀ x ∈ xs, x.nr k = true) → D.nrs k xs = true
  | [], _ => by rw [D.nrs]
  | y :: ys, h => by
    rw [D.nrs, Bool.and_eq_true]
    exact ⟨h y (List.mem_cons_self ..), nrs_of fun x hx => h x (List.mem_cons_of_mem _ hx)⟩
theorem nr_tup {k : Nat} {xs : List D} (h : (D.tup xs).nr k = true) : ∃ j, k = j + 1 ∧ xs.length ≤ 100 ∧ ∀ x ∈ xs, x.nr j = true := by
  cases k with
  | zero => rw [D.nr] at h; cases h
  | succ j => rw [D.nr, Bool.and_eq_true, decide_eq_true_eq] at h; exact ⟨j, rfl, h.1, nrs_mem h.2⟩
theorem nr_list {k : Nat} {xs : List D} (h : (D.list xs).nr k = true) : ∃ j, k = j + 1 ∧ xs.length ≤ 100 ∧ ∀ x ∈ xs, x.nr j = true := by
  cases k with
  | zero => rw [D.nr] at h; cases h
  | succ j => rw [D.nr, Bool.and_eq_true, decide_eq_true_eq] at h; exact ⟨j, rfl, h.1, nrs_mem h.2⟩
theorem nr_of_tup {k : Nat} {xs : List D} (l : xs.length ≤ 100) (h : ∀ x ∈ xs, x.nr k = true) : (D.tup xs).nr (k + 1) = true := by
  rw [D.nr, Bool.and_eq_true, decide_eq_true_eq]
  exact ⟨l, nrs_of h⟩
theorem nr_of_list {k : Nat} {xs : List D} (l : xs.length ≤ 100) (h : ∀ x ∈ xs, x.nr k = true) : (D.list xs).nr (k + 1) = true := by
  rw [D.nr, Bool.and_eq_true, decide_eq_true_eq]
  exact ⟨l, nrs_of h⟩
mutual
theorem nr_mono {j k : Nat} (l : j ≤ k) : ∀ d : D, d.nr j = true → d.nr k = true
  | .non, _ => by rw [D.nr]
  | .bl _, _ => by rw [D.nr]
  | .int _, _ => by rw [D.nr]
  | .str _, _ => by rw [D.nr]
  | .dict _, h => by rw [D.nr] at h; cases h
  | .box, h => by rw [D.nr] at h; cases h
  | .list xs, h => by
    cases j with
    | zero => rw [D.nr] at h; cases h
    | succ j =>
      obtain ⟨k, rfl⟩ : ∃ k', k = k' + 1 := ⟨k - 1, by omega⟩
      rw [D.nr, Bool.and_eq_true] at h ⊢
      exact ⟨h.1, nrs_mono (by omega) xs h.2⟩
  | .tup xs, h => by
    cases j with
    | zero => rw [D.nr] at h; cases h
    | succ j =>
      obtain ⟨k, rfl⟩ : ∃ k', k = k' + 1 := ⟨k - 1, by omega⟩
      rw [D.nr, Bool.and_eq_true] at h ⊢
      exact ⟨h.1, nrs_mono (by omega) xs h.2⟩
theorem nrs_mono {j k : Nat} (l : j ≤ k) : ∀ xs : List D, D.nrs j xs = true → D.nrs k xs = true
  | [], _ => by rw [D.nrs]
  | x :: xs, h => by
    rw [D.nrs, Bool.and_eq_true] at h ⊢
    exact ⟨nr_mono l x h.1, nrs_mono l xs h.2⟩
end
mutual
theorem nr_dp {k : Nat} : ∀ d : D, d.nr k = true → d.dp k = true
  | .non, _ => by rw [D.dp]
  | .bl _, _ => by rw [D.dp]
  | .int _, _ => by rw [D.dp]
  | .str _, _ => by rw [D.dp]
  | .dict _, h => by rw [D.dp]
  | .box, h => by rw [D.nr] at h; cases h
  | .list xs, h => by
    cases k with
    | zero => rw [D.nr] at h; cases h
    | succ j =>
      rw [D.nr, Bool.and_eq_true] at h
      rw [D.dp]
      exact nrs_dps xs h.2
  | .tup xs, h => by
    cases k with
    | zero => rw [D.nr] at h; cases h
    | succ j =>
      rw [D.nr, Bool.and_eq_true] at h
      rw [D.dp]
      exact nrs_dps xs h.2
theorem nrs_dps {k : Nat} : ∀ xs : List D, D.nrs k xs = true → D.dps k xs = true
  | [], _ => by rw [D.dps]
  | x :: xs, h => by
    rw [D.nrs, Bool.and_eq_true] at h
    rw [D.dps, Bool.and_eq_true]
    exact ⟨nr_dp x h.1, nrs_dps xs h.2⟩
end
theorem atom_nr {d : D} (h : d.atom = true) (k : Nat) : d.nr k = true := by
  cases d <;> first | (rw [D.nr]; done) | cases h
theorem str_nr (z : Str) (k : Nat) : (D.str z).nr k = true := by rw [D.nr]
/-! ### lists of atoms -/
def Ats (ts : List D) : Prop := ∀ d ∈ ts, d.atom = true
theorem Ats.all {ts : List D} (h : Ats ts) : ts.all D.atom = true := List.all_eq_true.mpr h
theorem Ats.flats {ts : List D} (h : Ats ts) (k : Nat) : D.flats k ts = true := by
  induction ts with
  | nil => rw [D.flats]
  | cons y ys ih =>
    rw [D.flats, ih fun d hd => h d (List.mem_cons_of_mem _ hd), Bool.and_true]
    have := h y (List.mem_cons_self ..)
    cases y <;> first | rfl | cases this
theorem Ats.app {ts us : List D} (h : Ats ts) (g : Ats us) : Ats (ts ++ us) := fun d hd => by
  rcases List.mem_append.mp hd with z | z
  · exact h d z
  · exact g d z
theorem ats_one {d : D} (h : d.atom = true) : Ats [d] := fun x hx => by rw [List.mem_singleton.mp hx]; exact h
theorem eqb_nil (ts : List D) : (D.list ts).eqb (.list []) = ts.isEmpty := by
  cases ts with
  | nil => rfl
  | cons x xs => rfl
theorem ne_nilL {ts : List D} (h : Ats ts) : cmpop .ne (.list ts) (.list []) = some (!ts.isEmpty) := by
  have h1 : neOk (.list ts) (.list []) = true := by
    unfold neOk
    have e1 : (D.list ts).flat 64 = true := by rw [D.flat]; exact h.flats 63
    have e2 : (D.list []).flat 64 = true := by rw [D.flat, D.flats]
    rw [e1, e2]
    simp
  rw [c_ne, if_pos h1, eqb_nil]
theorem eq_nilL {ts : List D} (h : Ats ts) : cmpop .eq (.list ts) (.list []) = some ts.isEmpty := by
  have h1 : eqOk (.list ts) (.list []) = true := by
    unfold eqOk
    have e1 : (D.list ts).flat 64 = true := by rw [D.flat]; exact h.flats 63
    have e2 : (D.list []).flat 64 = true := by rw [D.flat, D.flats]
    rw [e1, e2]
    simp
  rw [c_eq, if_pos h1, eqb_nil]
theorem add_tup {a c : List D} (h : a.length + c.length ≤ sizeLine) : binop .add (.tup a) (.tup c) = some (.tup (a ++ c)) := by
  show (if a.length + c.length ≤ sizeLine then some (D.tup (a ++ c)) else none) = _
  rw [if_pos h]
theorem le_size {a : Nat} (h : a ≤ 10000) : a ≤ sizeLine := by
  rw [sizeLine_eq]
  omega
/-! ### the promises -/
structure FsOk (fs : List Str) : Prop where
  pos : 0 < fs.length
  few : fs.length ≤ 4
def fsSayG : FS := fun ds n Q _ => ∃ (fs : List Str) (ts : List D) (ws : List Str), ds = [.box, .tup (fs.map .str), .list ts, .list (ws.map .str)] ∧ FsOk fs ∧ Ats ts ∧ ts.length ≤ 100 ∧ 0 < ws.length ∧ ws.length ≤ 100 ∧ n + 30 ≤ B9 ∧ ∀ d n', d.nr 4 = true → n' ≤ n + 30 → Q d n'
section
variable {T : Tab} {n : Nat} {Q : D → Nat → Prop} {E : QX}
/-- one drawn out of terms and 0 -/
theorem of_t0 {ts : List D} {n1 : Nat} {R : D → Nat → Prop} (ha : Ats ts) (hl : ts.length ≤ 100) (hn : n1 < B9) (q : ∀ v, v.atom = true → R v (n1 + 1)) : fsOf [.box, .list (ts ++ [.int 0])] n1 R E :=
  ⟨_, ts ++ [.int 0], rfl, .inl rfl, by simp, by simp; omega, hn, fun d hd => q d ((ha.app (ats_one (d := .int 0) rfl)) d hd)⟩
theorem of_l {ts : List D} {n1 : Nat} {R : D → Nat → Prop} (h0 : 0 < ts.length) (hl : ts.length ≤ 100) (hn : n1 < B9) (q : ∀ v ∈ ts, R v (n1 + 1)) : fsOf [.box, .list ts] n1 R E :=
  ⟨_, ts, rfl, .inl rfl, h0, by omega, hn, q⟩
theorem of_f {fs : List Str} {n1 : Nat} {R : D → Nat → Prop} (h : FsOk fs) (hn : n1 < B9) (q : ∀ z, R (.str z) (n1 + 1)) : fsOf [.box, .tup (fs.map .str)] n1 R E :=
  ⟨_, fs.map .str, rfl, .inr (.inl rfl), by rw [List.length_map]; exact h.pos, by rw [List.length_map]; have := h.few; omega, hn, fun d hd => by
    obtain ⟨z, _, rfl⟩ := List.mem_map.mp hd
    exact q z⟩
theorem of_w {ws : List Str} {n1 : Nat} {R : D → Nat → Prop} (h0 : 0 < ws.length) (hl : ws.length ≤ 100) (hn : n1 < B9) (q : ∀ z, R (.str z) (n1 + 1)) : fsOf [.box, .list (ws.map .str)] n1 R E :=
  ⟨_, ws.map .str, rfl, .inl rfl, by rw [List.length_map]; exact h0, by rw [List.length_map]; omega, hn, fun d hd => by
    obtain ⟨z, _, rfl⟩ := List.mem_map.mp hd
    exact q z⟩
theorem b_law_say {ds : List D} (f1 : T.fs "_law_take" = some fsTake) (f2 : T.fs "_law_of" = some fsOf) (h : fsSayG ds n Q E) : wB T ir_law_say (ent0 ["_law_box_here", "_law_fields_so", "_law_terms_so", "_law_words_so", "_law_changes_so", "_law_lap", "_law_key_so", "_law_sort_so", "_law_own"] ds) n (eQ Q E) := by
  obtain ⟨fs, ts, ws, rfl, hf, ha, l1, l2, l3, l4, q⟩ := h
  have hf2 := hf.few
  unfold ir_law_say ent0
  simp only [wB, wS, wE, wA, wAnd, wOr, wAndT, wOrT, wP, wI, tru, eQ, exAt_eq, IAs.isNil, List.map_cons, List.map_nil, List.cons_append, List.nil_append, List.getElem?_cons_zero, List.getElem?_cons_succ, List.set_cons_zero, List.set_cons_succ, Bool.false_eq_true, if_false, if_true, if_pos, List.any_cons, List.any_nil, ofO_some, ofO_none, setMany, bindT, D.truth, D.isTy, D.isBox, bi_len_tup, bi_len_list, bi_len_str, bi_tuple_list, bi_tuple_tup, bi_list_list, bi_list_tup, bi_int_int, eq_int, ne_int, lt_int, le_int, gt_int, ge_int, Bool.or_false, Bool.or_true, Bool.false_or, Bool.true_or, Bool.and_true, Bool.true_and, Bool.not_true, Bool.not_false, Bool.and_false, Bool.false_and, Option.map_some, reduceCtorEq, and_true, true_and, and_self, f1, f2, List.length_cons, List.length_nil, List.replicate, ne_nilL ha]
  refine ⟨Nat.zero_le _, Nat.zero_le _, ?_⟩
  have t0 : ts.length + ([D.int 0] : List D).length ≤ sizeLine := le_size (by rw [List.length_singleton]; omega)
  have fin : ∀ (cs : List D) (n1 : Nat), cs.length ≤ 2 → (∀ c ∈ cs, c.nr 2 = true) → n1 ≤ n + 20 → fsOf [.box, .list (ws.map .str)] n1 (fun x n1 => 0 + 1 + 1 + 1 ≤ sizeLine ∧ Q (.tup [.str "say", .tup cs, x]) n1) (fun x n => E x n) := fun cs n1 h1 h2 h3 =>
    of_w l2 l3 (by omega) fun z => ⟨le_size (by omega), q _ _ (nr_of_tup (k := 3) (by simp) fun x hx => by
      rcases List.mem_cons.mp hx with e | hx
      · rw [e]; exact str_nr _ _
      rcases List.mem_cons.mp hx with e | hx
      · rw [e]; exact nr_of_tup (k := 2) (by omega) h2
      · rw [List.mem_singleton.mp hx]; exact str_nr _ _) (by omega)⟩
  cases hts : ts.isEmpty with
  | true =>
    simp only [wB, wS, wE, wA, wAnd, wOr, wAndT, wOrT, wP, wI, tru, eQ, exAt_eq, IAs.isNil, List.map_cons, List.map_nil, List.cons_append, List.nil_append, List.getElem?_cons_zero, List.getElem?_cons_succ, List.set_cons_zero, List.set_cons_succ, Bool.false_eq_true, if_false, if_true, if_pos, List.any_cons, List.any_nil, ofO_some, ofO_none, setMany, bindT, D.truth, D.isTy, D.isBox, bi_len_tup, bi_len_list, bi_len_str, bi_tuple_list, bi_tuple_tup, bi_list_list, bi_list_tup, bi_int_int, eq_int, ne_int, lt_int, le_int, gt_int, ge_int, Bool.or_false, Bool.or_true, Bool.false_or, Bool.true_or, Bool.and_true, Bool.true_and, Bool.not_true, Bool.not_false, Bool.and_false, Bool.false_and, Option.map_some, reduceCtorEq, and_true, true_and, and_self]
    refine ⟨by decide, by decide, ?_⟩
    show forL _ [] _ _ _
    simp only [forL, wB, wS, wE, wA, wAnd, wOr, wAndT, wOrT, wP, wI, tru, eQ, exAt_eq, IAs.isNil, List.map_cons, List.map_nil, List.cons_append, List.nil_append, List.getElem?_cons_zero, List.getElem?_cons_succ, List.set_cons_zero, List.set_cons_succ, Bool.false_eq_true, if_false, if_true, if_pos, List.any_cons, List.any_nil, ofO_some, ofO_none, setMany, bindT, D.truth, D.isTy, D.isBox, bi_len_tup, bi_len_list, bi_len_str, bi_tuple_list, bi_tuple_tup, bi_list_list, bi_list_tup, bi_int_int, eq_int, ne_int, lt_int, le_int, gt_int, ge_int, Bool.or_false, Bool.or_true, Bool.false_or, Bool.true_or, Bool.and_true, Bool.true_and, Bool.not_true, Bool.not_false, Bool.and_false, Bool.false_and, Option.map_some, reduceCtorEq, and_true, true_and, and_self, freeze]
    exact fin [] n (by simp) (fun c hc => by cases hc) (by omega)
  | false =>
    simp only [wB, wS, wE, wA, wAnd, wOr, wAndT, wOrT, wP, wI, tru, eQ, exAt_eq, IAs.isNil, List.map_cons, List.map_nil, List.cons_append, List.nil_append, List.getElem?_cons_zero, List.getElem?_cons_succ, List.set_cons_zero, List.set_cons_succ, Bool.false_eq_true, if_false, if_true, if_pos, List.any_cons, List.any_nil, ofO_some, ofO_none, setMany, bindT, D.truth, D.isTy, D.isBox, bi_len_tup, bi_len_list, bi_len_str, bi_tuple_list, bi_tuple_tup, bi_list_list, bi_list_tup, bi_int_int, eq_int, ne_int, lt_int, le_int, gt_int, ge_int, Bool.or_false, Bool.or_true, Bool.false_or, Bool.true_or, Bool.and_true, Bool.true_and, Bool.not_true, Bool.not_false, Bool.and_false, Bool.false_and, Option.map_some, reduceCtorEq, and_true, true_and, and_self]
    have hpos : 0 < ts.length := by
      cases ts with
      | nil => cases hts
      | cons _ _ => simp
    refine ⟨le_size (by omega), of_l (by simp) (by simp) (by omega) fun d hd => ?_⟩
    obtain ⟨c, rfl, hc⟩ : ∃ c : Nat, d = .int c ∧ c ≤ 2 := by
      simp only [List.mem_cons, List.not_mem_nil, or_false] at hd
      rcases hd with rfl | rfl | rfl | rfl
      · exact ⟨0, rfl, by omega⟩
      · exact ⟨1, rfl, by omega⟩
      · exact ⟨1, rfl, by omega⟩
      · exact ⟨2, rfl, by omega⟩
    refine ⟨by omega, by omega, ?_⟩
    refine forL_rule (fun rest r n1 => ∃ (cs : List D) (x5 x6 x7 x8 : Ent), cs.length + rest.length ≤ 2 ∧ (∀ c ∈ cs, c.nr 2 = true) ∧ n1 ≤ n + 1 + 6 * cs.length ∧ r = [.sh .box, .sh (.tup (fs.map .str)), .sh (.list ts), .sh (.list (ws.map .str)), .ow (.list cs), x5, x6, x7, x8]) ?_ ?_ _ _ _ ⟨[], .no, .no, .no, .no, by rw [iota_len]; simp; omega, (fun c hc => by cases hc), by simp, rfl⟩
    · rintro d rest r n1 ⟨cs, x5, x6, x7, x8, hl, hcs, hn, rfl⟩ k hk
      rw [List.length_cons] at hl
      simp only [wB, wS, wE, wA, wAnd, wOr, wAndT, wOrT, wP, wI, tru, eQ, exAt_eq, IAs.isNil, List.map_cons, List.map_nil, List.cons_append, List.nil_append, List.getElem?_cons_zero, List.getElem?_cons_succ, List.set_cons_zero, List.set_cons_succ, Bool.false_eq_true, if_false, if_true, if_pos, List.any_cons, List.any_nil, ofO_some, ofO_none, setMany, bindT, D.truth, D.isTy, D.isBox, bi_len_tup, bi_len_list, bi_len_str, bi_tuple_list, bi_tuple_tup, bi_list_list, bi_list_tup, bi_int_int, eq_int, ne_int, lt_int, le_int, gt_int, ge_int, Bool.or_false, Bool.or_true, Bool.false_or, Bool.true_or, Bool.and_true, Bool.true_and, Bool.not_true, Bool.not_false, Bool.and_false, Bool.false_and, Option.map_some, reduceCtorEq, and_true, true_and, and_self]
      refine of_l hpos l1 (by omega) fun key hkey => ?_
      have akey := ha key hkey
      refine ⟨4, rfl, by decide, by decide, by omega, fun r h0 h1 => ?_⟩
      have nxt : ∀ (ch : D) (n2 : Nat) (x8' : Ent), ch.nr 2 = true → n2 ≤ n1 + 6 → k [.sh .box, .sh (.tup (fs.map .str)), .sh (.list ts), .sh (.list (ws.map .str)), .ow (.list (cs ++ [ch])), .sh d, .sh key, .sh (.int r), x8'] n2 := fun ch n2 x8' hch hn2 =>
        hk _ _ ⟨cs ++ [ch], .sh d, .sh key, .sh (.int r), x8', by rw [List.length_append, List.length_singleton]; omega, fun c hc => by
          rcases List.mem_append.mp hc with z | z
          · exact hcs c z
          · rw [List.mem_singleton.mp z]; exact hch, by
          rw [List.length_append, List.length_singleton]
          omega, rfl⟩
      simp only [wB, wS, wE, wA, wAnd, wOr, wAndT, wOrT, wP, wI, tru, eQ, exAt_eq, IAs.isNil, List.map_cons, List.map_nil, List.cons_append, List.nil_append, List.getElem?_cons_zero, List.getElem?_cons_succ, List.set_cons_zero, List.set_cons_succ, Bool.false_eq_true, if_false, if_true, if_pos, List.any_cons, List.any_nil, ofO_some, ofO_none, setMany, bindT, D.truth, D.isTy, D.isBox, bi_len_tup, bi_len_list, bi_len_str, bi_tuple_list, bi_tuple_tup, bi_list_list, bi_list_tup, bi_int_int, eq_int, ne_int, lt_int, le_int, gt_int, ge_int, Bool.or_false, Bool.or_true, Bool.false_or, Bool.true_or, Bool.and_true, Bool.true_and, Bool.not_true, Bool.not_false, Bool.and_false, Bool.false_and, Option.map_some, reduceCtorEq, and_true, true_and, and_self, owD, itemsD]
      have hcl : cs.length < sizeLine := by
        have := sizeLine_eq
        omega
      split
      · refine compL_rule (fun rest acc n2 => Ats acc ∧ acc.length + rest.length = fs.length ∧ n2 ≤ n1 + 2 + acc.length) ?_ ?_ _ _ _ ⟨(fun d hd => by cases hd), by simp, by simp⟩
        · rintro d2 rest2 acc n2 ⟨h1, h2, h3⟩ k2 hk2
          rw [List.length_cons] at h2
          simp only [wB, wS, wE, wA, wAnd, wOr, wAndT, wOrT, wP, wI, tru, eQ, exAt_eq, IAs.isNil, List.map_cons, List.map_nil, List.cons_append, List.nil_append, List.getElem?_cons_zero, List.getElem?_cons_succ, List.set_cons_zero, List.set_cons_succ, Bool.false_eq_true, if_false, if_true, if_pos, List.any_cons, List.any_nil, ofO_some, ofO_none, setMany, bindT, D.truth, D.isTy, D.isBox, bi_len_tup, bi_len_list, bi_len_str, bi_tuple_list, bi_tuple_tup, bi_list_list, bi_list_tup, bi_int_int, eq_int, ne_int, lt_int, le_int, gt_int, ge_int, Bool.or_false, Bool.or_true, Bool.false_or, Bool.true_or, Bool.and_true, Bool.true_and, Bool.not_true, Bool.not_false, Bool.and_false, Bool.false_and, Option.map_some, reduceCtorEq, and_true, true_and, and_self, add_list t0]
          refine ⟨le_size (by omega), of_t0 ha l1 (by omega) fun v hv => hk2 _ _ ⟨h1.app (ats_one hv), ?_, ?_⟩⟩
          · rw [List.length_append, List.length_singleton]
            omega
          · rw [List.length_append, List.length_singleton]
            omega
        · rintro acc n2 ⟨h1, h2, h3⟩
          rw [List.length_nil] at h2
          refine ⟨le_size (by omega), hcl, nxt _ _ _ (nr_of_tup (k := 1) (by simp) fun x hx => ?_) (by omega)⟩
          rcases List.mem_cons.mp hx with e | hx
          · rw [e]; exact str_nr _ _
          rcases List.mem_cons.mp hx with e | hx
          · rw [e]; exact atom_nr akey _
          · rw [List.mem_singleton.mp hx]
            exact nr_of_tup (k := 0) (by omega) fun y hy => atom_nr (h1 y hy) _
      · split
        · simp only [wB, wS, wE, wA, wAnd, wOr, wAndT, wOrT, wP, wI, tru, eQ, exAt_eq, IAs.isNil, List.map_cons, List.map_nil, List.cons_append, List.nil_append, List.getElem?_cons_zero, List.getElem?_cons_succ, List.set_cons_zero, List.set_cons_succ, Bool.false_eq_true, if_false, if_true, if_pos, List.any_cons, List.any_nil, ofO_some, ofO_none, setMany, bindT, D.truth, D.isTy, D.isBox, bi_len_tup, bi_len_list, bi_len_str, bi_tuple_list, bi_tuple_tup, bi_list_list, bi_list_tup, bi_int_int, eq_int, ne_int, lt_int, le_int, gt_int, ge_int, Bool.or_false, Bool.or_true, Bool.false_or, Bool.true_or, Bool.and_true, Bool.true_and, Bool.not_true, Bool.not_false, Bool.and_false, Bool.false_and, Option.map_some, reduceCtorEq, and_true, true_and, and_self, add_list t0]
          refine of_f hf (by omega) fun z => ⟨le_size (by omega), of_t0 ha l1 (by omega) fun v hv => ⟨le_size (by omega), hcl, nxt _ _ _ (nr_of_tup (k := 1) (by simp) fun x hx => ?_) (by omega)⟩⟩
          rcases List.mem_cons.mp hx with e | hx
          · rw [e]; exact str_nr _ _
          rcases List.mem_cons.mp hx with e | hx
          · rw [e]; exact atom_nr akey _
          rcases List.mem_cons.mp hx with e | hx
          · rw [e]; exact str_nr _ _
          · rw [List.mem_singleton.mp hx]; exact atom_nr hv _
        · refine ⟨le_size (by omega), hcl, nxt _ _ _ (nr_of_tup (k := 1) (by simp) fun x hx => ?_) (by omega)⟩
          rcases List.mem_cons.mp hx with e | hx
          · rw [e]; exact str_nr _ _
          · rw [List.mem_singleton.mp hx]; exact atom_nr akey _
    · rintro r n1 ⟨cs, x5, x6, x7, x8, hl, hcs, hn, rfl⟩
      rw [List.length_nil] at hl
      simp only [wB, wS, wE, wA, wAnd, wOr, wAndT, wOrT, wP, wI, tru, eQ, exAt_eq, IAs.isNil, List.map_cons, List.map_nil, List.cons_append, List.nil_append, List.getElem?_cons_zero, List.getElem?_cons_succ, List.set_cons_zero, List.set_cons_succ, Bool.false_eq_true, if_false, if_true, if_pos, List.any_cons, List.any_nil, ofO_some, ofO_none, setMany, bindT, D.truth, D.isTy, D.isBox, bi_len_tup, bi_len_list, bi_len_str, bi_tuple_list, bi_tuple_tup, bi_list_list, bi_list_tup, bi_int_int, eq_int, ne_int, lt_int, le_int, gt_int, ge_int, Bool.or_false, Bool.or_true, Bool.false_or, Bool.true_or, Bool.and_true, Bool.true_and, Bool.not_true, Bool.not_false, Bool.and_false, Bool.false_and, Option.map_some, reduceCtorEq, and_true, true_and, and_self, freeze]
      exact fin cs n1 (by omega) hcs (by omega)
end
end Dl

set_option Elab.async false
set_option linter.all false
set_option maxRecDepth 100000
set_option maxHeartbeats 4000000
/-! What is drawn: bodies, KINDs. -/
namespace Dl
open PySem PySem.Spec PyProof.Rows L2
def fsBodyG (t : Nat) : FS := fun ds n Q _ => ∃ (fs : List Str) (ts su : List D) (a b : Nat) (ws : List Str), ds = [.box, .tup (fs.map .str), .list ts, .list su, .int a, .int b, .list (ws.map .str)] ∧ FsOk fs ∧ Ats ts ∧ Ats su ∧ ts.length + t ≤ 100 ∧ su.length + t ≤ 100 ∧ 0 < ws.length ∧ ws.length ≤ 100 ∧ a + b ≤ t ∧ n + 40 * 3 ^ t ≤ B9 ∧ ∀ d n', d.nr (4 + t) = true → n' ≤ n + 40 * 3 ^ t → Q d n'
def fsKindG : FS := fun ds n Q _ => ∃ (fs : List Str) (nm : Str) (ws : List Str) (cs : List D), ds = [.box, .tup (fs.map .str), .str nm, .list (ws.map .str), .int 1, .int 3, .list cs] ∧ FsOk fs ∧ Ats cs ∧ cs.length ≤ 20 ∧ 0 < ws.length ∧ ws.length ≤ 100 ∧ n + 4000 ≤ B9 ∧ ∀ d n', d.nr 9 = true → n' ≤ n + 4000 → Q d n'
theorem sub_nat {a b : Nat} (h : b ≤ a) : binop .sub (.int (a : Int)) (.int (b : Int)) = some (.int ((a - b : Nat) : Int)) := by
  show some (D.int ((a : Int) - (b : Int))) = _
  congr 2
  omega
theorem sub_one {a : Nat} (h : 1 ≤ a) : binop .sub (.int (a : Int)) (.int 1) = some (.int ((a - 1 : Nat) : Int)) := sub_nat (b := 1) h
theorem nr_cons {k : Nat} {x : D} {xs : List D} (h : x.nr k = true) (g : ∀ y ∈ xs, y.nr k = true) : ∀ y ∈ x :: xs, y.nr k = true := fun y hy => by
  rcases List.mem_cons.mp hy with e | e
  · rw [e]; exact h
  · exact g y e
theorem nr_nil {k : Nat} : ∀ y ∈ ([] : List D), y.nr k = true := fun y hy => by cases hy
section
variable {T : Tab} {n : Nat} {Q : D → Nat → Prop} {E : QX}
theorem b_law_body (t : Nat) {ds : List D} (f1 : T.fs "_law_take" = some fsTake) (f2 : T.fs "_law_of" = some fsOf) (f3 : T.fs "_law_say" = some fsSayG) (f4 : ∀ j, t = j + 1 → T.fs "_law_body" = some (fsBodyG j)) (h : fsBodyG t ds n Q E) :
    wB T ir_law_body (ent0 ["_law_box_here", "_law_fields_so", "_law_terms_so", "_law_sure_so", "_law_tests_so", "_law_lets_so", "_law_words_so", "_law_name_so", "_law_spot", "_law_field_so", "_law_rest", "_law_first_so", "_law_head", "_law_one_so", "_law_key_so", "_law_other_so"] ds) n (eQ Q E) := by
  obtain ⟨fs, ts, su, a, b, ws, rfl, hf, ha, hs, l1, l2, l3, l4, l5, l6, q⟩ := h
  have p1 : 1 ≤ 3 ^ t := Nat.one_le_pow _ _ (by decide)
  have t0 : ts.length + ([D.int 0] : List D).length ≤ sizeLine := le_size (by rw [List.length_singleton]; omega)
  have ex : ∀ x : Str, cmpop .notin (.str x) (.list ts) = some (!hasA ts (.str x)) := fun x => nin_atoms_list rfl ha.all
  unfold ir_law_body ent0
  simp only [wB, wS, wE, wA, wAnd, wOr, wAndT, wOrT, wP, wI, tru, eQ, exAt_eq, IAs.isNil, List.map_cons, List.map_nil, List.cons_append, List.nil_append, List.getElem?_cons_zero, List.getElem?_cons_succ, List.set_cons_zero, List.set_cons_succ, Bool.false_eq_true, if_false, if_true, if_pos, List.any_cons, List.any_nil, ofO_some, ofO_none, setMany, bindT, D.truth, D.isTy, D.isBox, bi_len_tup, bi_len_list, bi_len_str, bi_tuple_list, bi_tuple_tup, bi_list_list, bi_list_tup, bi_int_int, eq_int, ne_int, lt_int, le_int, gt_int, ge_int, Bool.or_false, Bool.or_true, Bool.false_or, Bool.true_or, Bool.and_true, Bool.true_and, Bool.not_true, Bool.not_false, Bool.and_false, Bool.false_and, Option.map_some, reduceCtorEq, and_true, true_and, and_self, f1, f2, f3, List.length_cons, List.length_nil, List.replicate, ne_nilL ha, ne_nilL hs, eq_nilL ha, ex, add_list t0]
  refine ⟨Nat.zero_le _, ?_⟩
  cases t with
  | zero =>
    obtain ⟨rfl, rfl⟩ : a = 0 ∧ b = 0 := by omega
    have say : fsSayG [.box, .tup (fs.map .str), .list ts, .list (ws.map .str)] n Q (fun x n => E x n) := ⟨fs, ts, ws, rfl, hf, ha, by omega, l3, l4, by omega, fun d n' h1 h2 => q d n' (nr_mono (by omega) d h1) (by omega)⟩
    have e0 : decide ((0 : Int) < ((0 : Nat) : Int)) = false := rfl
    have e1 : (((0 : Nat) : Int) == 0) = true := rfl
    rw [e0, e1]
    simp only [wB, wS, wE, wA, wAnd, wOr, wAndT, wOrT, wP, wI, tru, eQ, exAt_eq, IAs.isNil, List.map_cons, List.map_nil, List.cons_append, List.nil_append, List.getElem?_cons_zero, List.getElem?_cons_succ, List.set_cons_zero, List.set_cons_succ, Bool.false_eq_true, if_false, if_true, if_pos, List.any_cons, List.any_nil, ofO_some, ofO_none, setMany, bindT, D.truth, D.isTy, D.isBox, bi_len_tup, bi_len_list, bi_len_str, bi_tuple_list, bi_tuple_tup, bi_list_list, bi_list_tup, bi_int_int, eq_int, ne_int, lt_int, le_int, gt_int, ge_int, Bool.or_false, Bool.or_true, Bool.false_or, Bool.true_or, Bool.and_true, Bool.true_and, Bool.not_true, Bool.not_false, Bool.and_false, Bool.false_and, Option.map_some, reduceCtorEq, and_true, true_and, and_self]
    split
    · exact say
    · exact say
  | succ j =>
    have f4 := f4 j rfl
    have p3 : 3 ^ (j + 1) = 3 * 3 ^ j := by rw [Nat.pow_succ]; omega
    have p2 : 1 ≤ 3 ^ j := Nat.one_le_pow _ _ (by decide)
    rw [p3] at l6 q
    simp only [wB, wS, wE, wA, wAnd, wOr, wAndT, wOrT, wP, wI, tru, eQ, exAt_eq, IAs.isNil, List.map_cons, List.map_nil, List.cons_append, List.nil_append, List.getElem?_cons_zero, List.getElem?_cons_succ, List.set_cons_zero, List.set_cons_succ, Bool.false_eq_true, if_false, if_true, if_pos, List.any_cons, List.any_nil, ofO_some, ofO_none, setMany, bindT, D.truth, D.isTy, D.isBox, bi_len_tup, bi_len_list, bi_len_str, bi_tuple_list, bi_tuple_tup, bi_list_list, bi_list_tup, bi_int_int, eq_int, ne_int, lt_int, le_int, gt_int, ge_int, Bool.or_false, Bool.or_true, Bool.false_or, Bool.true_or, Bool.and_true, Bool.true_and, Bool.not_true, Bool.not_false, Bool.and_false, Bool.false_and, Option.map_some, reduceCtorEq, and_true, true_and, and_self, f4]
    cases hsu : su.isEmpty with
    | true =>
      simp only [wB, wS, wE, wA, wAnd, wOr, wAndT, wOrT, wP, wI, tru, eQ, exAt_eq, IAs.isNil, List.map_cons, List.map_nil, List.cons_append, List.nil_append, List.getElem?_cons_zero, List.getElem?_cons_succ, List.set_cons_zero, List.set_cons_succ, Bool.false_eq_true, if_false, if_true, if_pos, List.any_cons, List.any_nil, ofO_some, ofO_none, setMany, bindT, D.truth, D.isTy, D.isBox, bi_len_tup, bi_len_list, bi_len_str, bi_tuple_list, bi_tuple_tup, bi_list_list, bi_list_tup, bi_int_int, eq_int, ne_int, lt_int, le_int, gt_int, ge_int, Bool.or_false, Bool.or_true, Bool.false_or, Bool.true_or, Bool.and_true, Bool.true_and, Bool.not_true, Bool.not_false, Bool.and_false, Bool.false_and, Option.map_some, reduceCtorEq, and_true, true_and, and_self]
      split
      · exact ⟨fs, ts, ws, rfl, hf, ha, by omega, l3, l4, by omega, fun d n' h1 h2 => q d n' (nr_mono (by omega) d h1) (by omega)⟩
      · rename_i hane
        have ha1 : 1 ≤ a := by
          rw [beq_iff_eq] at hane
          omega
        refine ⟨Nat.zero_le _, ?_⟩
        cases hts : ts.isEmpty with
        | true =>
          simp only [wB, wS, wE, wA, wAnd, wOr, wAndT, wOrT, wP, wI, tru, eQ, exAt_eq, IAs.isNil, List.map_cons, List.map_nil, List.cons_append, List.nil_append, List.getElem?_cons_zero, List.getElem?_cons_succ, List.set_cons_zero, List.set_cons_succ, Bool.false_eq_true, if_false, if_true, if_pos, List.any_cons, List.any_nil, ofO_some, ofO_none, setMany, bindT, D.truth, D.isTy, D.isBox, bi_len_tup, bi_len_list, bi_len_str, bi_tuple_list, bi_tuple_tup, bi_list_list, bi_list_tup, bi_int_int, eq_int, ne_int, lt_int, le_int, gt_int, ge_int, Bool.or_false, Bool.or_true, Bool.false_or, Bool.true_or, Bool.and_true, Bool.true_and, Bool.not_true, Bool.not_false, Bool.and_false, Bool.false_and, Option.map_some, reduceCtorEq, and_true, true_and, and_self]
          exact ⟨fs, ts, ws, rfl, hf, ha, by omega, l3, l4, by omega, fun d n' h1 h2 => q d n' (nr_mono (by omega) d h1) (by omega)⟩
        | false =>
          have hpos : 0 < ts.length := by
            cases ts with
            | nil => cases hts
            | cons _ _ => simp
          simp only [wB, wS, wE, wA, wAnd, wOr, wAndT, wOrT, wP, wI, tru, eQ, exAt_eq, IAs.isNil, List.map_cons, List.map_nil, List.cons_append, List.nil_append, List.getElem?_cons_zero, List.getElem?_cons_succ, List.set_cons_zero, List.set_cons_succ, Bool.false_eq_true, if_false, if_true, if_pos, List.any_cons, List.any_nil, ofO_some, ofO_none, setMany, bindT, D.truth, D.isTy, D.isBox, bi_len_tup, bi_len_list, bi_len_str, bi_tuple_list, bi_tuple_tup, bi_list_list, bi_list_tup, bi_int_int, eq_int, ne_int, lt_int, le_int, gt_int, ge_int, Bool.or_false, Bool.or_true, Bool.false_or, Bool.true_or, Bool.and_true, Bool.true_and, Bool.not_true, Bool.not_false, Bool.and_false, Bool.false_and, Option.map_some, reduceCtorEq, and_true, true_and, and_self]
          refine ⟨(a : Int), rfl, by omega, by omega, by omega, fun r h0 h1 => ?_⟩
          obtain ⟨f, rfl⟩ : ∃ f : Nat, r = f := ⟨r.toNat, by omega⟩
          refine ⟨Nat.zero_le _, ?_⟩
          refine of_l hpos (by omega) (by omega) fun key hkey => ?_
          have la : su.length + ([key] : List D).length ≤ sizeLine := le_size (by rw [List.length_singleton]; omega)
          simp only [wB, wS, wE, wA, wAnd, wOr, wAndT, wOrT, wP, wI, tru, eQ, exAt_eq, IAs.isNil, List.map_cons, List.map_nil, List.cons_append, List.nil_append, List.getElem?_cons_zero, List.getElem?_cons_succ, List.set_cons_zero, List.set_cons_succ, Bool.false_eq_true, if_false, if_true, if_pos, List.any_cons, List.any_nil, ofO_some, ofO_none, setMany, bindT, D.truth, D.isTy, D.isBox, bi_len_tup, bi_len_list, bi_len_str, bi_tuple_list, bi_tuple_tup, bi_list_list, bi_list_tup, bi_int_int, eq_int, ne_int, lt_int, le_int, gt_int, ge_int, Bool.or_false, Bool.or_true, Bool.false_or, Bool.true_or, Bool.and_true, Bool.true_and, Bool.not_true, Bool.not_false, Bool.and_false, Bool.false_and, Option.map_some, reduceCtorEq, and_true, true_and, and_self, add_list la]
          refine ⟨le_size (by omega), le_size (by omega), fs, ts, su ++ [key], f, b, ws, rfl, hf, ha, hs.app (ats_one (ha key hkey)), by omega, by rw [List.length_append, List.length_singleton]; omega, l3, l4, by omega, by omega, fun d1 n' h1 h2 => ?_⟩
          simp only [wB, wS, wE, wA, wAnd, wOr, wAndT, wOrT, wP, wI, tru, eQ, exAt_eq, IAs.isNil, List.map_cons, List.map_nil, List.cons_append, List.nil_append, List.getElem?_cons_zero, List.getElem?_cons_succ, List.set_cons_zero, List.set_cons_succ, Bool.false_eq_true, if_false, if_true, if_pos, List.any_cons, List.any_nil, ofO_some, ofO_none, setMany, bindT, D.truth, D.isTy, D.isBox, bi_len_tup, bi_len_list, bi_len_str, bi_tuple_list, bi_tuple_tup, bi_list_list, bi_list_tup, bi_int_int, eq_int, ne_int, lt_int, le_int, gt_int, ge_int, Bool.or_false, Bool.or_true, Bool.false_or, Bool.true_or, Bool.and_true, Bool.true_and, Bool.not_true, Bool.not_false, Bool.and_false, Bool.false_and, Option.map_some, reduceCtorEq, and_true, true_and, and_self, sub_one ha1, sub_nat (show f ≤ a - 1 by omega)]
          refine ⟨fs, ts, su, a - 1 - f, b, ws, rfl, hf, ha, hs, by omega, by omega, l3, l4, by omega, by omega, fun d2 n2 h3 h4 => ?_⟩
          refine ⟨le_size (by omega), ?_⟩
          rw [add_tup (le_size (by simp)), ofO_some]
          refine q _ _ ?_ (by omega)
          exact nr_of_tup (k := 4 + j) (by simp) (nr_cons (str_nr _ _) (nr_cons (atom_nr (ha key hkey) _) (nr_cons h1 (nr_cons h3 nr_nil))))
    | false =>
      have hsp : 0 < su.length := by
        cases su with
        | nil => cases hsu
        | cons _ _ => simp
      simp only [wB, wS, wE, wA, wAnd, wOr, wAndT, wOrT, wP, wI, tru, eQ, exAt_eq, IAs.isNil, List.map_cons, List.map_nil, List.cons_append, List.nil_append, List.getElem?_cons_zero, List.getElem?_cons_succ, List.set_cons_zero, List.set_cons_succ, Bool.false_eq_true, if_false, if_true, if_pos, List.any_cons, List.any_nil, ofO_some, ofO_none, setMany, bindT, D.truth, D.isTy, D.isBox, bi_len_tup, bi_len_list, bi_len_str, bi_tuple_list, bi_tuple_tup, bi_list_list, bi_list_tup, bi_int_int, eq_int, ne_int, lt_int, le_int, gt_int, ge_int, Bool.or_false, Bool.or_true, Bool.false_or, Bool.true_or, Bool.and_true, Bool.true_and, Bool.not_true, Bool.not_false, Bool.and_false, Bool.false_and, Option.map_some, reduceCtorEq, and_true, true_and, and_self]
      cases hb : decide (0 < (b : Int)) with
      | false =>
        simp only [wB, wS, wE, wA, wAnd, wOr, wAndT, wOrT, wP, wI, tru, eQ, exAt_eq, IAs.isNil, List.map_cons, List.map_nil, List.cons_append, List.nil_append, List.getElem?_cons_zero, List.getElem?_cons_succ, List.set_cons_zero, List.set_cons_succ, Bool.false_eq_true, if_false, if_true, if_pos, List.any_cons, List.any_nil, ofO_some, ofO_none, setMany, bindT, D.truth, D.isTy, D.isBox, bi_len_tup, bi_len_list, bi_len_str, bi_tuple_list, bi_tuple_tup, bi_list_list, bi_list_tup, bi_int_int, eq_int, ne_int, lt_int, le_int, gt_int, ge_int, Bool.or_false, Bool.or_true, Bool.false_or, Bool.true_or, Bool.and_true, Bool.true_and, Bool.not_true, Bool.not_false, Bool.and_false, Bool.false_and, Option.map_some, reduceCtorEq, and_true, true_and, and_self]
        split
        · exact ⟨fs, ts, ws, rfl, hf, ha, by omega, l3, l4, by omega, fun d n' h1 h2 => q d n' (nr_mono (by omega) d h1) (by omega)⟩
        · rename_i hane
          have ha1 : 1 ≤ a := by
            rw [beq_iff_eq] at hane
            omega
          refine ⟨Nat.zero_le _, ?_⟩
          cases hts : ts.isEmpty with
          | true =>
            simp only [wB, wS, wE, wA, wAnd, wOr, wAndT, wOrT, wP, wI, tru, eQ, exAt_eq, IAs.isNil, List.map_cons, List.map_nil, List.cons_append, List.nil_append, List.getElem?_cons_zero, List.getElem?_cons_succ, List.set_cons_zero, List.set_cons_succ, Bool.false_eq_true, if_false, if_true, if_pos, List.any_cons, List.any_nil, ofO_some, ofO_none, setMany, bindT, D.truth, D.isTy, D.isBox, bi_len_tup, bi_len_list, bi_len_str, bi_tuple_list, bi_tuple_tup, bi_list_list, bi_list_tup, bi_int_int, eq_int, ne_int, lt_int, le_int, gt_int, ge_int, Bool.or_false, Bool.or_true, Bool.false_or, Bool.true_or, Bool.and_true, Bool.true_and, Bool.not_true, Bool.not_false, Bool.and_false, Bool.false_and, Option.map_some, reduceCtorEq, and_true, true_and, and_self]
            exact ⟨fs, ts, ws, rfl, hf, ha, by omega, l3, l4, by omega, fun d n' h1 h2 => q d n' (nr_mono (by omega) d h1) (by omega)⟩
          | false =>
            have hpos : 0 < ts.length := by
              cases ts with
              | nil => cases hts
              | cons _ _ => simp
            simp only [wB, wS, wE, wA, wAnd, wOr, wAndT, wOrT, wP, wI, tru, eQ, exAt_eq, IAs.isNil, List.map_cons, List.map_nil, List.cons_append, List.nil_append, List.getElem?_cons_zero, List.getElem?_cons_succ, List.set_cons_zero, List.set_cons_succ, Bool.false_eq_true, if_false, if_true, if_pos, List.any_cons, List.any_nil, ofO_some, ofO_none, setMany, bindT, D.truth, D.isTy, D.isBox, bi_len_tup, bi_len_list, bi_len_str, bi_tuple_list, bi_tuple_tup, bi_list_list, bi_list_tup, bi_int_int, eq_int, ne_int, lt_int, le_int, gt_int, ge_int, Bool.or_false, Bool.or_true, Bool.false_or, Bool.true_or, Bool.and_true, Bool.true_and, Bool.not_true, Bool.not_false, Bool.and_false, Bool.false_and, Option.map_some, reduceCtorEq, and_true, true_and, and_self]
            refine ⟨(a : Int), rfl, by omega, by omega, by omega, fun r h0 h1 => ?_⟩
            obtain ⟨f, rfl⟩ : ∃ f : Nat, r = f := ⟨r.toNat, by omega⟩
            refine ⟨Nat.zero_le _, ?_⟩
            refine ⟨2, rfl, by decide, by decide, by omega, fun r2 h02 h12 => ?_⟩
            simp only [wB, wS, wE, wA, wAnd, wOr, wAndT, wOrT, wP, wI, tru, eQ, exAt_eq, IAs.isNil, List.map_cons, List.map_nil, List.cons_append, List.nil_append, List.getElem?_cons_zero, List.getElem?_cons_succ, List.set_cons_zero, List.set_cons_succ, Bool.false_eq_true, if_false, if_true, if_pos, List.any_cons, List.any_nil, ofO_some, ofO_none, setMany, bindT, D.truth, D.isTy, D.isBox, bi_len_tup, bi_len_list, bi_len_str, bi_tuple_list, bi_tuple_tup, bi_list_list, bi_list_tup, bi_int_int, eq_int, ne_int, lt_int, le_int, gt_int, ge_int, Bool.or_false, Bool.or_true, Bool.false_or, Bool.true_or, Bool.and_true, Bool.true_and, Bool.not_true, Bool.not_false, Bool.and_false, Bool.false_and, Option.map_some, reduceCtorEq, and_true, true_and, and_self]
            split
            · refine of_l hsp (by omega) (by omega) fun sp hsu => of_f hf (by omega) fun fz => ⟨le_size (by omega), of_t0 ha (by omega) (by omega) fun v hv => ⟨le_size (by omega), fs, ts, su, f, b, ws, rfl, hf, ha, hs, by omega, by omega, l3, l4, by omega, by omega, fun d1 n' h1 h2 => ?_⟩⟩
              simp only [wB, wS, wE, wA, wAnd, wOr, wAndT, wOrT, wP, wI, tru, eQ, exAt_eq, IAs.isNil, List.map_cons, List.map_nil, List.cons_append, List.nil_append, List.getElem?_cons_zero, List.getElem?_cons_succ, List.set_cons_zero, List.set_cons_succ, Bool.false_eq_true, if_false, if_true, if_pos, List.any_cons, List.any_nil, ofO_some, ofO_none, setMany, bindT, D.truth, D.isTy, D.isBox, bi_len_tup, bi_len_list, bi_len_str, bi_tuple_list, bi_tuple_tup, bi_list_list, bi_list_tup, bi_int_int, eq_int, ne_int, lt_int, le_int, gt_int, ge_int, Bool.or_false, Bool.or_true, Bool.false_or, Bool.true_or, Bool.and_true, Bool.true_and, Bool.not_true, Bool.not_false, Bool.and_false, Bool.false_and, Option.map_some, reduceCtorEq, and_true, true_and, and_self, sub_one ha1, sub_nat (show f ≤ a - 1 by omega)]
              refine ⟨fs, ts, su, a - 1 - f, b, ws, rfl, hf, ha, hs, by omega, by omega, l3, l4, by omega, by omega, fun d2 n2 h3 h4 => ?_⟩
              refine ⟨le_size (by omega), ?_⟩
              rw [add_tup (le_size (by simp)), ofO_some]
              refine q _ _ ?_ (by omega)
              exact nr_of_tup (k := 4 + j) (by simp) (nr_cons (str_nr _ _) (nr_cons (atom_nr (hs sp hsu) _) (nr_cons (str_nr _ _) (nr_cons (atom_nr hv _) (nr_cons h1 (nr_cons h3 nr_nil))))))
            · refine of_l hpos (by omega) (by omega) fun key hkey => ?_
              have la : su.length + ([key] : List D).length ≤ sizeLine := le_size (by rw [List.length_singleton]; omega)
              simp only [wB, wS, wE, wA, wAnd, wOr, wAndT, wOrT, wP, wI, tru, eQ, exAt_eq, IAs.isNil, List.map_cons, List.map_nil, List.cons_append, List.nil_append, List.getElem?_cons_zero, List.getElem?_cons_succ, List.set_cons_zero, List.set_cons_succ, Bool.false_eq_true, if_false, if_true, if_pos, List.any_cons, List.any_nil, ofO_some, ofO_none, setMany, bindT, D.truth, D.isTy, D.isBox, bi_len_tup, bi_len_list, bi_len_str, bi_tuple_list, bi_tuple_tup, bi_list_list, bi_list_tup, bi_int_int, eq_int, ne_int, lt_int, le_int, gt_int, ge_int, Bool.or_false, Bool.or_true, Bool.false_or, Bool.true_or, Bool.and_true, Bool.true_and, Bool.not_true, Bool.not_false, Bool.and_false, Bool.false_and, Option.map_some, reduceCtorEq, and_true, true_and, and_self, add_list la]
              refine ⟨le_size (by omega), le_size (by omega), fs, ts, su ++ [key], f, b, ws, rfl, hf, ha, hs.app (ats_one (ha key hkey)), by omega, by rw [List.length_append, List.length_singleton]; omega, l3, l4, by omega, by omega, fun d1 n' h1 h2 => ?_⟩
              simp only [wB, wS, wE, wA, wAnd, wOr, wAndT, wOrT, wP, wI, tru, eQ, exAt_eq, IAs.isNil, List.map_cons, List.map_nil, List.cons_append, List.nil_append, List.getElem?_cons_zero, List.getElem?_cons_succ, List.set_cons_zero, List.set_cons_succ, Bool.false_eq_true, if_false, if_true, if_pos, List.any_cons, List.any_nil, ofO_some, ofO_none, setMany, bindT, D.truth, D.isTy, D.isBox, bi_len_tup, bi_len_list, bi_len_str, bi_tuple_list, bi_tuple_tup, bi_list_list, bi_list_tup, bi_int_int, eq_int, ne_int, lt_int, le_int, gt_int, ge_int, Bool.or_false, Bool.or_true, Bool.false_or, Bool.true_or, Bool.and_true, Bool.true_and, Bool.not_true, Bool.not_false, Bool.and_false, Bool.false_and, Option.map_some, reduceCtorEq, and_true, true_and, and_self, sub_one ha1, sub_nat (show f ≤ a - 1 by omega)]
              refine ⟨fs, ts, su, a - 1 - f, b, ws, rfl, hf, ha, hs, by omega, by omega, l3, l4, by omega, by omega, fun d2 n2 h3 h4 => ?_⟩
              refine ⟨le_size (by omega), ?_⟩
              rw [add_tup (le_size (by simp)), ofO_some]
              refine q _ _ ?_ (by omega)
              exact nr_of_tup (k := 4 + j) (by simp) (nr_cons (str_nr _ _) (nr_cons (atom_nr (ha key hkey) _) (nr_cons h1 (nr_cons h3 nr_nil))))
      | true =>
        have hb1 : 1 ≤ b := by
          rw [decide_eq_true_eq] at hb
          omega
        simp only [wB, wS, wE, wA, wAnd, wOr, wAndT, wOrT, wP, wI, tru, eQ, exAt_eq, IAs.isNil, List.map_cons, List.map_nil, List.cons_append, List.nil_append, List.getElem?_cons_zero, List.getElem?_cons_succ, List.set_cons_zero, List.set_cons_succ, Bool.false_eq_true, if_false, if_true, if_pos, List.any_cons, List.any_nil, ofO_some, ofO_none, setMany, bindT, D.truth, D.isTy, D.isBox, bi_len_tup, bi_len_list, bi_len_str, bi_tuple_list, bi_tuple_tup, bi_list_list, bi_list_tup, bi_int_int, eq_int, ne_int, lt_int, le_int, gt_int, ge_int, Bool.or_false, Bool.or_true, Bool.false_or, Bool.true_or, Bool.and_true, Bool.true_and, Bool.not_true, Bool.not_false, Bool.and_false, Bool.false_and, Option.map_some, reduceCtorEq, and_true, true_and, and_self]
        refine ⟨3, rfl, by decide, by decide, by omega, fun r3 h03 h13 => ?_⟩
        simp only [wB, wS, wE, wA, wAnd, wOr, wAndT, wOrT, wP, wI, tru, eQ, exAt_eq, IAs.isNil, List.map_cons, List.map_nil, List.cons_append, List.nil_append, List.getElem?_cons_zero, List.getElem?_cons_succ, List.set_cons_zero, List.set_cons_succ, Bool.false_eq_true, if_false, if_true, if_pos, List.any_cons, List.any_nil, ofO_some, ofO_none, setMany, bindT, D.truth, D.isTy, D.isBox, bi_len_tup, bi_len_list, bi_len_str, bi_tuple_list, bi_tuple_tup, bi_list_list, bi_list_tup, bi_int_int, eq_int, ne_int, lt_int, le_int, gt_int, ge_int, Bool.or_false, Bool.or_true, Bool.false_or, Bool.true_or, Bool.and_true, Bool.true_and, Bool.not_true, Bool.not_false, Bool.and_false, Bool.false_and, Option.map_some, reduceCtorEq, and_true, true_and, and_self]
        split
        · cases hx : hasA ts (.str "x") with
          | false =>
            simp only [wB, wS, wE, wA, wAnd, wOr, wAndT, wOrT, wP, wI, tru, eQ, exAt_eq, IAs.isNil, List.map_cons, List.map_nil, List.cons_append, List.nil_append, List.getElem?_cons_zero, List.getElem?_cons_succ, List.set_cons_zero, List.set_cons_succ, Bool.false_eq_true, if_false, if_true, if_pos, List.any_cons, List.any_nil, ofO_some, ofO_none, setMany, bindT, D.truth, D.isTy, D.isBox, bi_len_tup, bi_len_list, bi_len_str, bi_tuple_list, bi_tuple_tup, bi_list_list, bi_list_tup, bi_int_int, eq_int, ne_int, lt_int, le_int, gt_int, ge_int, Bool.or_false, Bool.or_true, Bool.false_or, Bool.true_or, Bool.and_true, Bool.true_and, Bool.not_true, Bool.not_false, Bool.and_false, Bool.false_and, Option.map_some, reduceCtorEq, and_true, true_and, and_self]
            refine of_l hsp (by omega) (by omega) fun sp hsu => of_f hf (by omega) fun fz => ?_
            have la : ts.length + ([D.str "x"] : List D).length ≤ sizeLine := le_size (by rw [List.length_singleton]; omega)
            simp only [wB, wS, wE, wA, wAnd, wOr, wAndT, wOrT, wP, wI, tru, eQ, exAt_eq, IAs.isNil, List.map_cons, List.map_nil, List.cons_append, List.nil_append, List.getElem?_cons_zero, List.getElem?_cons_succ, List.set_cons_zero, List.set_cons_succ, Bool.false_eq_true, if_false, if_true, if_pos, List.any_cons, List.any_nil, ofO_some, ofO_none, setMany, bindT, D.truth, D.isTy, D.isBox, bi_len_tup, bi_len_list, bi_len_str, bi_tuple_list, bi_tuple_tup, bi_list_list, bi_list_tup, bi_int_int, eq_int, ne_int, lt_int, le_int, gt_int, ge_int, Bool.or_false, Bool.or_true, Bool.false_or, Bool.true_or, Bool.and_true, Bool.true_and, Bool.not_true, Bool.not_false, Bool.and_false, Bool.false_and, Option.map_some, reduceCtorEq, and_true, true_and, and_self, add_list la, sub_one hb1]
            refine ⟨le_size (by omega), fs, ts ++ [.str "x"], su, a, b - 1, ws, rfl, hf, ha.app (ats_one (d := .str "x") rfl), hs, by rw [List.length_append, List.length_singleton]; omega, by omega, l3, l4, by omega, by omega, fun d n' h1 h2 => ⟨le_size (by omega), q _ _ ?_ (by omega)⟩⟩
            exact nr_of_tup (k := 4 + j) (by simp) (nr_cons (str_nr _ _) (nr_cons (str_nr _ _) (nr_cons (atom_nr (hs sp hsu) _) (nr_cons (str_nr _ _) (nr_cons h1 nr_nil)))))
          | true =>
            simp only [wB, wS, wE, wA, wAnd, wOr, wAndT, wOrT, wP, wI, tru, eQ, exAt_eq, IAs.isNil, List.map_cons, List.map_nil, List.cons_append, List.nil_append, List.getElem?_cons_zero, List.getElem?_cons_succ, List.set_cons_zero, List.set_cons_succ, Bool.false_eq_true, if_false, if_true, if_pos, List.any_cons, List.any_nil, ofO_some, ofO_none, setMany, bindT, D.truth, D.isTy, D.isBox, bi_len_tup, bi_len_list, bi_len_str, bi_tuple_list, bi_tuple_tup, bi_list_list, bi_list_tup, bi_int_int, eq_int, ne_int, lt_int, le_int, gt_int, ge_int, Bool.or_false, Bool.or_true, Bool.false_or, Bool.true_or, Bool.and_true, Bool.true_and, Bool.not_true, Bool.not_false, Bool.and_false, Bool.false_and, Option.map_some, reduceCtorEq, and_true, true_and, and_self]
            refine of_l hsp (by omega) (by omega) fun sp hsu => of_f hf (by omega) fun fz => ?_
            have la : ts.length + ([D.str "xx"] : List D).length ≤ sizeLine := le_size (by rw [List.length_singleton]; omega)
            simp only [wB, wS, wE, wA, wAnd, wOr, wAndT, wOrT, wP, wI, tru, eQ, exAt_eq, IAs.isNil, List.map_cons, List.map_nil, List.cons_append, List.nil_append, List.getElem?_cons_zero, List.getElem?_cons_succ, List.set_cons_zero, List.set_cons_succ, Bool.false_eq_true, if_false, if_true, if_pos, List.any_cons, List.any_nil, ofO_some, ofO_none, setMany, bindT, D.truth, D.isTy, D.isBox, bi_len_tup, bi_len_list, bi_len_str, bi_tuple_list, bi_tuple_tup, bi_list_list, bi_list_tup, bi_int_int, eq_int, ne_int, lt_int, le_int, gt_int, ge_int, Bool.or_false, Bool.or_true, Bool.false_or, Bool.true_or, Bool.and_true, Bool.true_and, Bool.not_true, Bool.not_false, Bool.and_false, Bool.false_and, Option.map_some, reduceCtorEq, and_true, true_and, and_self, add_list la, sub_one hb1]
            refine ⟨le_size (by omega), fs, ts ++ [.str "xx"], su, a, b - 1, ws, rfl, hf, ha.app (ats_one (d := .str "xx") rfl), hs, by rw [List.length_append, List.length_singleton]; omega, by omega, l3, l4, by omega, by omega, fun d n' h1 h2 => ⟨le_size (by omega), q _ _ ?_ (by omega)⟩⟩
            exact nr_of_tup (k := 4 + j) (by simp) (nr_cons (str_nr _ _) (nr_cons (str_nr _ _) (nr_cons (atom_nr (hs sp hsu) _) (nr_cons (str_nr _ _) (nr_cons h1 nr_nil)))))
        · split
          · exact ⟨fs, ts, ws, rfl, hf, ha, by omega, l3, l4, by omega, fun d n' h1 h2 => q d n' (nr_mono (by omega) d h1) (by omega)⟩
          · rename_i hane
            have ha1 : 1 ≤ a := by
              rw [beq_iff_eq] at hane
              omega
            refine ⟨Nat.zero_le _, ?_⟩
            cases hts : ts.isEmpty with
            | true =>
              simp only [wB, wS, wE, wA, wAnd, wOr, wAndT, wOrT, wP, wI, tru, eQ, exAt_eq, IAs.isNil, List.map_cons, List.map_nil, List.cons_append, List.nil_append, List.getElem?_cons_zero, List.getElem?_cons_succ, List.set_cons_zero, List.set_cons_succ, Bool.false_eq_true, if_false, if_true, if_pos, List.any_cons, List.any_nil, ofO_some, ofO_none, setMany, bindT, D.truth, D.isTy, D.isBox, bi_len_tup, bi_len_list, bi_len_str, bi_tuple_list, bi_tuple_tup, bi_list_list, bi_list_tup, bi_int_int, eq_int, ne_int, lt_int, le_int, gt_int, ge_int, Bool.or_false, Bool.or_true, Bool.false_or, Bool.true_or, Bool.and_true, Bool.true_and, Bool.not_true, Bool.not_false, Bool.and_false, Bool.false_and, Option.map_some, reduceCtorEq, and_true, true_and, and_self]
              exact ⟨fs, ts, ws, rfl, hf, ha, by omega, l3, l4, by omega, fun d n' h1 h2 => q d n' (nr_mono (by omega) d h1) (by omega)⟩
            | false =>
              have hpos : 0 < ts.length := by
                cases ts with
                | nil => cases hts
                | cons _ _ => simp
              simp only [wB, wS, wE, wA, wAnd, wOr, wAndT, wOrT, wP, wI, tru, eQ, exAt_eq, IAs.isNil, List.map_cons, List.map_nil, List.cons_append, List.nil_append, List.getElem?_cons_zero, List.getElem?_cons_succ, List.set_cons_zero, List.set_cons_succ, Bool.false_eq_true, if_false, if_true, if_pos, List.any_cons, List.any_nil, ofO_some, ofO_none, setMany, bindT, D.truth, D.isTy, D.isBox, bi_len_tup, bi_len_list, bi_len_str, bi_tuple_list, bi_tuple_tup, bi_list_list, bi_list_tup, bi_int_int, eq_int, ne_int, lt_int, le_int, gt_int, ge_int, Bool.or_false, Bool.or_true, Bool.false_or, Bool.true_or, Bool.and_true, Bool.true_and, Bool.not_true, Bool.not_false, Bool.and_false, Bool.false_and, Option.map_some, reduceCtorEq, and_true, true_and, and_self]
              refine ⟨(a : Int), rfl, by omega, by omega, by omega, fun r h0 h1 => ?_⟩
              obtain ⟨f, rfl⟩ : ∃ f : Nat, r = f := ⟨r.toNat, by omega⟩
              refine ⟨Nat.zero_le _, ?_⟩
              refine ⟨2, rfl, by decide, by decide, by omega, fun r2 h02 h12 => ?_⟩
              simp only [wB, wS, wE, wA, wAnd, wOr, wAndT, wOrT, wP, wI, tru, eQ, exAt_eq, IAs.isNil, List.map_cons, List.map_nil, List.cons_append, List.nil_append, List.getElem?_cons_zero, List.getElem?_cons_succ, List.set_cons_zero, List.set_cons_succ, Bool.false_eq_true, if_false, if_true, if_pos, List.any_cons, List.any_nil, ofO_some, ofO_none, setMany, bindT, D.truth, D.isTy, D.isBox, bi_len_tup, bi_len_list, bi_len_str, bi_tuple_list, bi_tuple_tup, bi_list_list, bi_list_tup, bi_int_int, eq_int, ne_int, lt_int, le_int, gt_int, ge_int, Bool.or_false, Bool.or_true, Bool.false_or, Bool.true_or, Bool.and_true, Bool.true_and, Bool.not_true, Bool.not_false, Bool.and_false, Bool.false_and, Option.map_some, reduceCtorEq, and_true, true_and, and_self]
              split
              · refine of_l hsp (by omega) (by omega) fun sp hsu => of_f hf (by omega) fun fz => ⟨le_size (by omega), of_t0 ha (by omega) (by omega) fun v hv => ⟨le_size (by omega), fs, ts, su, f, b, ws, rfl, hf, ha, hs, by omega, by omega, l3, l4, by omega, by omega, fun d1 n' h1 h2 => ?_⟩⟩
                simp only [wB, wS, wE, wA, wAnd, wOr, wAndT, wOrT, wP, wI, tru, eQ, exAt_eq, IAs.isNil, List.map_cons, List.map_nil, List.cons_append, List.nil_append, List.getElem?_cons_zero, List.getElem?_cons_succ, List.set_cons_zero, List.set_cons_succ, Bool.false_eq_true, if_false, if_true, if_pos, List.any_cons, List.any_nil, ofO_some, ofO_none, setMany, bindT, D.truth, D.isTy, D.isBox, bi_len_tup, bi_len_list, bi_len_str, bi_tuple_list, bi_tuple_tup, bi_list_list, bi_list_tup, bi_int_int, eq_int, ne_int, lt_int, le_int, gt_int, ge_int, Bool.or_false, Bool.or_true, Bool.false_or, Bool.true_or, Bool.and_true, Bool.true_and, Bool.not_true, Bool.not_false, Bool.and_false, Bool.false_and, Option.map_some, reduceCtorEq, and_true, true_and, and_self, sub_one ha1, sub_nat (show f ≤ a - 1 by omega)]
                refine ⟨fs, ts, su, a - 1 - f, b, ws, rfl, hf, ha, hs, by omega, by omega, l3, l4, by omega, by omega, fun d2 n2 h3 h4 => ?_⟩
                refine ⟨le_size (by omega), ?_⟩
                rw [add_tup (le_size (by simp)), ofO_some]
                refine q _ _ ?_ (by omega)
                exact nr_of_tup (k := 4 + j) (by simp) (nr_cons (str_nr _ _) (nr_cons (atom_nr (hs sp hsu) _) (nr_cons (str_nr _ _) (nr_cons (atom_nr hv _) (nr_cons h1 (nr_cons h3 nr_nil))))))
              · refine of_l hpos (by omega) (by omega) fun key hkey => ?_
                have la : su.length + ([key] : List D).length ≤ sizeLine := le_size (by rw [List.length_singleton]; omega)
                simp only [wB, wS, wE, wA, wAnd, wOr, wAndT, wOrT, wP, wI, tru, eQ, exAt_eq, IAs.isNil, List.map_cons, List.map_nil, List.cons_append, List.nil_append, List.getElem?_cons_zero, List.getElem?_cons_succ, List.set_cons_zero, List.set_cons_succ, Bool.false_eq_true, if_false, if_true, if_pos, List.any_cons, List.any_nil, ofO_some, ofO_none, setMany, bindT, D.truth, D.isTy, D.isBox, bi_len_tup, bi_len_list, bi_len_str, bi_tuple_list, bi_tuple_tup, bi_list_list, bi_list_tup, bi_int_int, eq_int, ne_int, lt_int, le_int, gt_int, ge_int, Bool.or_false, Bool.or_true, Bool.false_or, Bool.true_or, Bool.and_true, Bool.true_and, Bool.not_true, Bool.not_false, Bool.and_false, Bool.false_and, Option.map_some, reduceCtorEq, and_true, true_and, and_self, add_list la]
                refine ⟨le_size (by omega), le_size (by omega), fs, ts, su ++ [key], f, b, ws, rfl, hf, ha, hs.app (ats_one (ha key hkey)), by omega, by rw [List.length_append, List.length_singleton]; omega, l3, l4, by omega, by omega, fun d1 n' h1 h2 => ?_⟩
                simp only [wB, wS, wE, wA, wAnd, wOr, wAndT, wOrT, wP, wI, tru, eQ, exAt_eq, IAs.isNil, List.map_cons, List.map_nil, List.cons_append, List.nil_append, List.getElem?_cons_zero, List.getElem?_cons_succ, List.set_cons_zero, List.set_cons_succ, Bool.false_eq_true, if_false, if_true, if_pos, List.any_cons, List.any_nil, ofO_some, ofO_none, setMany, bindT, D.truth, D.isTy, D.isBox, bi_len_tup, bi_len_list, bi_len_str, bi_tuple_list, bi_tuple_tup, bi_list_list, bi_list_tup, bi_int_int, eq_int, ne_int, lt_int, le_int, gt_int, ge_int, Bool.or_false, Bool.or_true, Bool.false_or, Bool.true_or, Bool.and_true, Bool.true_and, Bool.not_true, Bool.not_false, Bool.and_false, Bool.false_and, Option.map_some, reduceCtorEq, and_true, true_and, and_self, sub_one ha1, sub_nat (show f ≤ a - 1 by omega)]
                refine ⟨fs, ts, su, a - 1 - f, b, ws, rfl, hf, ha, hs, by omega, by omega, l3, l4, by omega, by omega, fun d2 n2 h3 h4 => ?_⟩
                refine ⟨le_size (by omega), ?_⟩
                rw [add_tup (le_size (by simp)), ofO_some]
                refine q _ _ ?_ (by omega)
                exact nr_of_tup (k := 4 + j) (by simp) (nr_cons (str_nr _ _) (nr_cons (atom_nr (ha key hkey) _) (nr_cons h1 (nr_cons h3 nr_nil))))
theorem b_law_kind {ds : List D} (f1 : T.fs "_law_take" = some fsTake) (f2 : T.fs "_law_of" = some fsOf) (f3 : T.fs "_law_body" = some (fsBodyG 4)) (h : fsKindG ds n Q E) :
    wB T ir_law_kind (ent0 ["_law_box_here", "_law_fields_so", "_law_name_so", "_law_words_so", "_law_lets_so", "_law_most_tests", "_law_consts_so", "_law_names_so", "_law_terms_so", "_law_body_so"] ds) n (eQ Q E) := by
  obtain ⟨fs, nm, ws, cs, rfl, hf, ha, l1, l2, l3, l4, q⟩ := h
  unfold ir_law_kind ent0
  simp only [wB, wS, wE, wA, wAnd, wOr, wAndT, wOrT, wP, wI, tru, eQ, exAt_eq, IAs.isNil, List.map_cons, List.map_nil, List.cons_append, List.nil_append, List.getElem?_cons_zero, List.getElem?_cons_succ, List.set_cons_zero, List.set_cons_succ, Bool.false_eq_true, if_false, if_true, if_pos, List.any_cons, List.any_nil, ofO_some, ofO_none, setMany, bindT, D.truth, D.isTy, D.isBox, bi_len_tup, bi_len_list, bi_len_str, bi_tuple_list, bi_tuple_tup, bi_list_list, bi_list_tup, bi_int_int, eq_int, ne_int, lt_int, le_int, gt_int, ge_int, Bool.or_false, Bool.or_true, Bool.false_or, Bool.true_or, Bool.and_true, Bool.true_and, Bool.not_true, Bool.not_false, Bool.and_false, Bool.false_and, Option.map_some, reduceCtorEq, and_true, true_and, and_self, f1, f2, f3, List.length_cons, List.length_nil, List.replicate]
  refine ⟨le_size (by omega), of_l (by simp) (by simp) (by omega) fun x hx => ⟨le_size (by omega), of_l (by simp) (by simp) (by omega) fun y hy => ⟨le_size (by omega), le_size (by omega), of_l (by simp) (by simp) (by omega) fun c hc => ?_⟩⟩⟩
  have ax : x.atom = true := by
    simp only [List.mem_cons, List.not_mem_nil, or_false] at hx
    rcases hx with rfl | rfl | rfl <;> rfl
  have ay : y.atom = true := by
    simp only [List.mem_cons, List.not_mem_nil, or_false] at hy
    rcases hy with rfl | rfl | rfl <;> rfl
  obtain ⟨i, rfl⟩ : ∃ i : Int, c = .int i := by
    simp only [List.mem_cons, List.not_mem_nil, or_false] at hc
    rcases hc with rfl | rfl | rfl | rfl | rfl | rfl <;> exact ⟨_, rfl⟩
  have e1 : slcD (.list [x, y]) none (some i) = some (.list (cutD [x, y] none (some i))) := rfl
  have hm : Ats (cutD [x, y] none (some i)) := fun d hd => by
    have h1 := List.mem_of_mem_drop (List.mem_of_mem_take hd)
    rcases List.mem_cons.mp h1 with e | e
    · rw [e]; exact ax
    · rw [List.mem_singleton.mp e]; exact ay
  have hl : (cutD [x, y] none (some i)).length ≤ 2 := by
    unfold cutD
    rw [List.length_take, List.length_drop]
    simp only [List.length_cons, List.length_nil]
    omega
  simp only [wB, wS, wE, wA, wAnd, wOr, wAndT, wOrT, wP, wI, tru, eQ, exAt_eq, IAs.isNil, List.map_cons, List.map_nil, List.cons_append, List.nil_append, List.getElem?_cons_zero, List.getElem?_cons_succ, List.set_cons_zero, List.set_cons_succ, Bool.false_eq_true, if_false, if_true, if_pos, List.any_cons, List.any_nil, ofO_some, ofO_none, setMany, bindT, D.truth, D.isTy, D.isBox, bi_len_tup, bi_len_list, bi_len_str, bi_tuple_list, bi_tuple_tup, bi_list_list, bi_list_tup, bi_int_int, eq_int, ne_int, lt_int, le_int, gt_int, ge_int, Bool.or_false, Bool.or_true, Bool.false_or, Bool.true_or, Bool.and_true, Bool.true_and, Bool.not_true, Bool.not_false, Bool.and_false, Bool.false_and, Option.map_some, reduceCtorEq, and_true, true_and, and_self, e1]
  generalize cutD [x, y] none (some i) = ms at hm hl ⊢
  have la : ms.length + cs.length ≤ sizeLine := le_size (by omega)
  have e9 : (Nat.cast 3 : Int) = 3 := rfl
  simp only [wB, wS, wE, wA, wAnd, wOr, wAndT, wOrT, wP, wI, tru, eQ, exAt_eq, IAs.isNil, List.map_cons, List.map_nil, List.cons_append, List.nil_append, List.getElem?_cons_zero, List.getElem?_cons_succ, List.set_cons_zero, List.set_cons_succ, Bool.false_eq_true, if_false, if_true, if_pos, List.any_cons, List.any_nil, ofO_some, ofO_none, setMany, bindT, D.truth, D.isTy, D.isBox, bi_len_tup, bi_len_list, bi_len_str, bi_tuple_list, bi_tuple_tup, bi_list_list, bi_list_tup, bi_int_int, eq_int, ne_int, lt_int, le_int, gt_int, ge_int, Bool.or_false, Bool.or_true, Bool.false_or, Bool.true_or, Bool.and_true, Bool.true_and, Bool.not_true, Bool.not_false, Bool.and_false, Bool.false_and, Option.map_some, reduceCtorEq, and_true, true_and, and_self, add_list la]
  refine ⟨Nat.zero_le _, 3, rfl, by decide, by decide, by omega, fun r h0 h1 => ?_⟩
  obtain ⟨f, rfl⟩ : ∃ f : Nat, r = f := ⟨r.toNat, by omega⟩
  have e2 : binop .add (.int 1) (.int (f : Int)) = some (.int ((1 + f : Nat) : Int)) := by
    show some (D.int (1 + (f : Int))) = _
    congr 2
  simp only [wB, wS, wE, wA, wAnd, wOr, wAndT, wOrT, wP, wI, tru, eQ, exAt_eq, IAs.isNil, List.map_cons, List.map_nil, List.cons_append, List.nil_append, List.getElem?_cons_zero, List.getElem?_cons_succ, List.set_cons_zero, List.set_cons_succ, Bool.false_eq_true, if_false, if_true, if_pos, List.any_cons, List.any_nil, ofO_some, ofO_none, setMany, bindT, D.truth, D.isTy, D.isBox, bi_len_tup, bi_len_list, bi_len_str, bi_tuple_list, bi_tuple_tup, bi_list_list, bi_list_tup, bi_int_int, eq_int, ne_int, lt_int, le_int, gt_int, ge_int, Bool.or_false, Bool.or_true, Bool.false_or, Bool.true_or, Bool.and_true, Bool.true_and, Bool.not_true, Bool.not_false, Bool.and_false, Bool.false_and, Option.map_some, reduceCtorEq, and_true, true_and, and_self, e2]
  have p4 : 3 ^ 4 = 81 := rfl
  refine ⟨fs, ms ++ cs, [], 1 + f, 1, ws, rfl, hf, hm.app ha, (fun d hd => by cases hd), by rw [List.length_append]; omega, by simp, l2, l3, by omega, by omega, fun d n' h2 h3 => ⟨le_size (by omega), q _ _ ?_ (by omega)⟩⟩
  exact nr_of_tup (k := 8) (by simp) (nr_cons (str_nr _ _) (nr_cons (nr_of_tup (k := 7) (by omega) fun y hy => atom_nr (hm y hy) _) (nr_cons h2 nr_nil)))
end
end Dl

set_option Elab.async false
set_option linter.all false
set_option maxRecDepth 100000
set_option maxHeartbeats 4000000
/-! What is drawn: things bent; lists for tuples; sameness. -/
namespace Dl
open PySem PySem.Spec PyProof.Rows L2
def fsLists (m : Nat) : FS := fun ds n Q _ => ∃ d, ds = [d] ∧ d.nr m = true ∧ ∀ d', d'.nr m = true → Q d' n
def fsOdd : FS := fun ds n Q _ => ∃ fs : List Str, ds = [.box, .tup (fs.map .str)] ∧ FsOk fs ∧ n < B9 ∧ ∀ d, d.dp 5 = true → Q d (n + 1)
def fsBent (k : Nat) : FS := fun ds n Q _ => ∃ (d : D) (fs : List Str), ds = [.box, d, .tup (fs.map .str), .int k] ∧ d.nr (k + 6) = true ∧ FsOk fs ∧ n + 10 * (k + 1) ≤ B9 ∧ ∀ d' n', d'.dp (k + 6) = true → n' ≤ n + 10 * (k + 1) → Q d' n'
theorem nr_nb {k : Nat} {d : D} (h : d.nr k = true) : d.isBox = false := dp_nb (nr_dp d h)
section
variable {T : Tab} {n : Nat} {Q : D → Nat → Prop} {E : QX}
theorem b_law_lists (m : Nat) {ds : List D} (f1 : ∀ j, m = j + 1 → T.fs "_law_lists" = some (fsLists j)) (h : fsLists m ds n Q E) : wB T ir_law_lists (ent0 ["_law_matter", "_law_key", "_law_bit"] ds) n (eQ Q E) := by
  obtain ⟨d, rfl, hd, q⟩ := h
  unfold ir_law_lists ent0
  simp only [wB, wS, wE, wA, wAnd, wOr, wAndT, wOrT, wP, wI, tru, eQ, exAt_eq, IAs.isNil, List.map_cons, List.map_nil, List.cons_append, List.nil_append, List.getElem?_cons_zero, List.getElem?_cons_succ, List.set_cons_zero, List.set_cons_succ, Bool.false_eq_true, if_false, if_true, if_pos, List.any_cons, List.any_nil, ofO_some, ofO_none, setMany, bindT, D.truth, D.isTy, D.isBox, bi_len_tup, bi_len_list, bi_len_str, bi_tuple_list, bi_tuple_tup, bi_list_list, bi_list_tup, bi_int_int, eq_int, ne_int, lt_int, le_int, gt_int, ge_int, Bool.or_false, Bool.or_true, Bool.false_or, Bool.true_or, Bool.and_true, Bool.true_and, Bool.not_true, Bool.not_false, Bool.and_false, Bool.false_and, Option.map_some, reduceCtorEq, and_true, true_and, and_self, List.length_cons, List.length_nil, List.replicate]
  refine ⟨nr_nb hd, ?_⟩
  cases d with
  | tup xs =>
    obtain ⟨j, rfl, hl, hx⟩ := nr_tup hd
    simp only [wB, wS, wE, wA, wAnd, wOr, wAndT, wOrT, wP, wI, tru, eQ, exAt_eq, IAs.isNil, List.map_cons, List.map_nil, List.cons_append, List.nil_append, List.getElem?_cons_zero, List.getElem?_cons_succ, List.set_cons_zero, List.set_cons_succ, Bool.false_eq_true, if_false, if_true, if_pos, List.any_cons, List.any_nil, ofO_some, ofO_none, setMany, bindT, D.truth, D.isTy, D.isBox, bi_len_tup, bi_len_list, bi_len_str, bi_tuple_list, bi_tuple_tup, bi_list_list, bi_list_tup, bi_int_int, eq_int, ne_int, lt_int, le_int, gt_int, ge_int, Bool.or_false, Bool.or_true, Bool.false_or, Bool.true_or, Bool.and_true, Bool.true_and, Bool.not_true, Bool.not_false, Bool.and_false, Bool.false_and, Option.map_some, reduceCtorEq, and_true, true_and, and_self, itemsD, f1 j rfl]
    refine compL_rule (fun rest acc n2 => n2 = n ∧ acc.length + rest.length = xs.length ∧ (∀ y ∈ acc, y.nr j = true) ∧ ∀ y ∈ rest, y.nr j = true) ?_ ?_ _ _ _ ⟨rfl, by simp, nr_nil, hx⟩
    · rintro d rest acc n2 ⟨rfl, h1, h2, h3⟩ k hk
      refine ⟨d, rfl, h3 d (List.mem_cons_self ..), fun d' hd' => hk _ _ ⟨rfl, ?_, fun y hy => ?_, fun y hy => h3 y (List.mem_cons_of_mem _ hy)⟩⟩
      · rw [List.length_append, List.length_singleton]
        rw [List.length_cons] at h1
        omega
      · rcases List.mem_append.mp hy with z | z
        · exact h2 y z
        · rw [List.mem_singleton.mp z]; exact hd'
    · rintro acc n2 ⟨rfl, h1, h2, h3⟩
      rw [List.length_nil] at h1
      exact q _ (nr_of_list (by omega) h2)
  | list xs =>
    obtain ⟨j, rfl, hl, hx⟩ := nr_list hd
    simp only [wB, wS, wE, wA, wAnd, wOr, wAndT, wOrT, wP, wI, tru, eQ, exAt_eq, IAs.isNil, List.map_cons, List.map_nil, List.cons_append, List.nil_append, List.getElem?_cons_zero, List.getElem?_cons_succ, List.set_cons_zero, List.set_cons_succ, Bool.false_eq_true, if_false, if_true, if_pos, List.any_cons, List.any_nil, ofO_some, ofO_none, setMany, bindT, D.truth, D.isTy, D.isBox, bi_len_tup, bi_len_list, bi_len_str, bi_tuple_list, bi_tuple_tup, bi_list_list, bi_list_tup, bi_int_int, eq_int, ne_int, lt_int, le_int, gt_int, ge_int, Bool.or_false, Bool.or_true, Bool.false_or, Bool.true_or, Bool.and_true, Bool.true_and, Bool.not_true, Bool.not_false, Bool.and_false, Bool.false_and, Option.map_some, reduceCtorEq, and_true, true_and, and_self, itemsD, f1 j rfl]
    refine compL_rule (fun rest acc n2 => n2 = n ∧ acc.length + rest.length = xs.length ∧ (∀ y ∈ acc, y.nr j = true) ∧ ∀ y ∈ rest, y.nr j = true) ?_ ?_ _ _ _ ⟨rfl, by simp, nr_nil, hx⟩
    · rintro d rest acc n2 ⟨rfl, h1, h2, h3⟩ k hk
      refine ⟨d, rfl, h3 d (List.mem_cons_self ..), fun d' hd' => hk _ _ ⟨rfl, ?_, fun y hy => ?_, fun y hy => h3 y (List.mem_cons_of_mem _ hy)⟩⟩
      · rw [List.length_append, List.length_singleton]
        rw [List.length_cons] at h1
        omega
      · rcases List.mem_append.mp hy with z | z
        · exact h2 y z
        · rw [List.mem_singleton.mp z]; exact hd'
    · rintro acc n2 ⟨rfl, h1, h2, h3⟩
      rw [List.length_nil] at h1
      exact q _ (nr_of_list (by omega) h2)
  | dict kvs => rw [D.nr] at hd; cases hd
  | box => rw [D.nr] at hd; cases hd
  | _ =>
    simp only [wB, wS, wE, wA, wAnd, wOr, wAndT, wOrT, wP, wI, tru, eQ, exAt_eq, IAs.isNil, List.map_cons, List.map_nil, List.cons_append, List.nil_append, List.getElem?_cons_zero, List.getElem?_cons_succ, List.set_cons_zero, List.set_cons_succ, Bool.false_eq_true, if_false, if_true, if_pos, List.any_cons, List.any_nil, ofO_some, ofO_none, setMany, bindT, D.truth, D.isTy, D.isBox, bi_len_tup, bi_len_list, bi_len_str, bi_tuple_list, bi_tuple_tup, bi_list_list, bi_list_tup, bi_int_int, eq_int, ne_int, lt_int, le_int, gt_int, ge_int, Bool.or_false, Bool.or_true, Bool.false_or, Bool.true_or, Bool.and_true, Bool.true_and, Bool.not_true, Bool.not_false, Bool.and_false, Bool.false_and, Option.map_some, reduceCtorEq, and_true, true_and, and_self]
    exact q _ hd
theorem b_law_odd {ds : List D} (f2 : T.fs "_law_of" = some fsOf) (h : fsOdd ds n Q E) : wB T ir_law_odd (ent0 ["_law_box_here", "_law_names_so", "_law_some"] ds) n (eQ Q E) := by
  obtain ⟨fs, rfl, hf, hn, q⟩ := h
  obtain ⟨f0, fr, rfl⟩ : ∃ f0 fr, fs = f0 :: fr := by
    cases fs with
    | nil => exact absurd hf.pos (by simp)
    | cons a b => exact ⟨a, b, rfl⟩
  have hl := hf.few
  rw [List.length_cons] at hl
  unfold ir_law_odd ent0
  have e1 : binop .pow (.int 10) (.int 30) = some (.int (10 ^ 30)) := by
    show (if (decide ((0 : Int) ≤ 30) && decide ((30 : Int) ≤ 1000000) && decide ((10 : Int).natAbs < 2 ^ 64)) = true then some (D.int ((10 : Int) ^ (30 : Int).toNat)) else none) = _
    rw [if_pos (by decide)]
    rfl
  simp only [wB, wS, wE, wA, wAnd, wOr, wAndT, wOrT, wP, wI, tru, eQ, exAt_eq, IAs.isNil, List.map_cons, List.map_nil, List.cons_append, List.nil_append, List.getElem?_cons_zero, List.getElem?_cons_succ, List.set_cons_zero, List.set_cons_succ, Bool.false_eq_true, if_false, if_true, if_pos, List.any_cons, List.any_nil, ofO_some, ofO_none, setMany, bindT, D.truth, D.isTy, D.isBox, bi_len_tup, bi_len_list, bi_len_str, bi_tuple_list, bi_tuple_tup, bi_list_list, bi_list_tup, bi_int_int, eq_int, ne_int, lt_int, le_int, gt_int, ge_int, Bool.or_false, Bool.or_true, Bool.false_or, Bool.true_or, Bool.and_true, Bool.true_and, Bool.not_true, Bool.not_false, Bool.and_false, Bool.false_and, Option.map_some, reduceCtorEq, and_true, true_and, and_self, f2, e1, freeze, owD, ix0, keysD, List.zip_cons_cons, List.zip_nil_right, List.length_cons, List.length_nil, List.replicate, List.map_cons]
  simp only [sizeLine_eq]
  repeat (refine And.intro (by decide) ?_)
  rw [add_list (le_size (by simp; omega)), ofO_some]
  refine ⟨_, _, rfl, .inl rfl, by simp, by simp; omega, hn, fun d hd => q d ?_⟩
  rcases List.mem_append.mp hd with z | z
  · refine dps_mem ?_ d z
    simp [D.dps, D.dp]
  · have z : d ∈ (f0 :: fr).map D.str := z
    obtain ⟨y, _, rfl⟩ := List.mem_map.mp z
    rw [D.dp]
theorem cut_sub {xs : List D} {lo hi : Option Int} : ∀ y ∈ cutD xs lo hi, y ∈ xs := fun y hy => List.mem_of_mem_drop (List.mem_of_mem_take hy)
theorem cut_len (xs : List D) (lo hi : Option Int) : (cutD xs lo hi).length ≤ xs.length := by
  unfold cutD
  rw [List.length_take, List.length_drop]
  omega
theorem slc_tup (xs : List D) (lo hi : Option Int) : slcD (.tup xs) lo hi = some (.tup (cutD xs lo hi)) := rfl
theorem dp_of_tup {k : Nat} {xs : List D} (h : ∀ x ∈ xs, x.dp k = true) : (D.tup xs).dp (k + 1) = true := by
  rw [D.dp]
  exact dps_of h
theorem dp_of_list {k : Nat} {xs : List D} (h : ∀ x ∈ xs, x.dp k = true) : (D.list xs).dp (k + 1) = true := by
  rw [D.dp]
  exact dps_of h
theorem all_app {k : Nat} {xs ys : List D} (h : ∀ x ∈ xs, x.dp k = true) (g : ∀ x ∈ ys, x.dp k = true) : ∀ x ∈ xs ++ ys, x.dp k = true := fun x hx => by
  rcases List.mem_append.mp hx with z | z
  · exact h x z
  · exact g x z
theorem all_one {k : Nat} {x : D} (h : x.dp k = true) : ∀ y ∈ [x], y.dp k = true := fun y hy => by rw [List.mem_singleton.mp hy]; exact h
theorem eq_nilT (xs : List D) : cmpop .eq (.tup xs) (.tup []) = some xs.isEmpty := eq_nil xs
theorem add_int (i j : Int) : binop .add (.int i) (.int j) = some (.int (i + j)) := rfl
theorem b_law_bent (k : Nat) {ds : List D} (f1 : T.fs "_law_take" = some fsTake) (f2 : T.fs "_law_odd" = some fsOdd) (f3 : ∀ j, k = j + 1 → T.fs "_law_bent" = some (fsBent j)) (h : fsBent k ds n Q E) :
    wB T ir_law_bent (ent0 ["_law_box_here", "_law_matter", "_law_names_so", "_law_deep_so", "_law_k", "_law_sort_so", "_law_inner"] ds) n (eQ Q E) := by
  obtain ⟨d, fs, rfl, hd, hf, l1, q⟩ := h
  have odd : ∀ n1, n1 ≤ n + 3 → fsOdd [.box, .tup (fs.map .str)] n1 Q (fun x n => E x n) := fun n1 h1 => ⟨fs, rfl, hf, by omega, fun d hd => q d _ (dp_mono (by omega) d hd) (by omega)⟩
  unfold ir_law_bent ent0
  simp only [wB, wS, wE, wA, wAnd, wOr, wAndT, wOrT, wP, wI, tru, eQ, exAt_eq, IAs.isNil, List.map_cons, List.map_nil, List.cons_append, List.nil_append, List.getElem?_cons_zero, List.getElem?_cons_succ, List.set_cons_zero, List.set_cons_succ, Bool.false_eq_true, if_false, if_true, if_pos, List.any_cons, List.any_nil, ofO_some, ofO_none, setMany, bindT, D.truth, D.isTy, D.isBox, bi_len_tup, bi_len_list, bi_len_str, bi_tuple_list, bi_tuple_tup, bi_list_list, bi_list_tup, bi_int_int, eq_int, ne_int, lt_int, le_int, gt_int, ge_int, Bool.or_false, Bool.or_true, Bool.false_or, Bool.true_or, Bool.and_true, Bool.true_and, Bool.not_true, Bool.not_false, Bool.and_false, Bool.false_and, Option.map_some, reduceCtorEq, and_true, true_and, and_self, f1, f2, List.length_cons, List.length_nil, List.replicate]
  refine ⟨nr_nb hd, ?_⟩
  cases d with
  | tup xs =>
    obtain ⟨j, e, hl, hx⟩ := nr_tup hd
    obtain rfl : j = k + 5 := by omega
    have hx2 : ∀ x ∈ xs, x.dp (k + 5) = true := fun x h => nr_dp x (hx x h)
    have cut : ∀ lo hi, ∀ x ∈ cutD xs lo hi, x.dp (k + 5) = true := fun lo hi x h => hx2 x (cut_sub x h)
    simp only [wB, wS, wE, wA, wAnd, wOr, wAndT, wOrT, wP, wI, tru, eQ, exAt_eq, IAs.isNil, List.map_cons, List.map_nil, List.cons_append, List.nil_append, List.getElem?_cons_zero, List.getElem?_cons_succ, List.set_cons_zero, List.set_cons_succ, Bool.false_eq_true, if_false, if_true, if_pos, List.any_cons, List.any_nil, ofO_some, ofO_none, setMany, bindT, D.truth, D.isTy, D.isBox, bi_len_tup, bi_len_list, bi_len_str, bi_tuple_list, bi_tuple_tup, bi_list_list, bi_list_tup, bi_int_int, eq_int, ne_int, lt_int, le_int, gt_int, ge_int, Bool.or_false, Bool.or_true, Bool.false_or, Bool.true_or, Bool.and_true, Bool.true_and, Bool.not_true, Bool.not_false, Bool.and_false, Bool.false_and, Option.map_some, reduceCtorEq, and_true, true_and, and_self, eq_nilT]
    refine ⟨Nat.zero_le _, ?_⟩
    cases xs with
    | nil =>
      simp only [List.isEmpty_nil, wB, wS, wE, wA, wAnd, wOr, wAndT, wOrT, wP, wI, tru, eQ, exAt_eq, IAs.isNil, List.map_cons, List.map_nil, List.cons_append, List.nil_append, List.getElem?_cons_zero, List.getElem?_cons_succ, List.set_cons_zero, List.set_cons_succ, Bool.false_eq_true, if_false, if_true, if_pos, List.any_cons, List.any_nil, ofO_some, ofO_none, setMany, bindT, D.truth, D.isTy, D.isBox, bi_len_tup, bi_len_list, bi_len_str, bi_tuple_list, bi_tuple_tup, bi_list_list, bi_list_tup, bi_int_int, eq_int, ne_int, lt_int, le_int, gt_int, ge_int, Bool.or_false, Bool.or_true, Bool.false_or, Bool.true_or, Bool.and_true, Bool.true_and, Bool.not_true, Bool.not_false, Bool.and_false, Bool.false_and, Option.map_some, reduceCtorEq, and_true, true_and, and_self]
      exact odd n (by omega)
    | cons x0 xr =>
      simp only [List.isEmpty_cons, wB, wS, wE, wA, wAnd, wOr, wAndT, wOrT, wP, wI, tru, eQ, exAt_eq, IAs.isNil, List.map_cons, List.map_nil, List.cons_append, List.nil_append, List.getElem?_cons_zero, List.getElem?_cons_succ, List.set_cons_zero, List.set_cons_succ, Bool.false_eq_true, if_false, if_true, if_pos, List.any_cons, List.any_nil, ofO_some, ofO_none, setMany, bindT, D.truth, D.isTy, D.isBox, bi_len_tup, bi_len_list, bi_len_str, bi_tuple_list, bi_tuple_tup, bi_list_list, bi_list_tup, bi_int_int, eq_int, ne_int, lt_int, le_int, gt_int, ge_int, Bool.or_false, Bool.or_true, Bool.false_or, Bool.true_or, Bool.and_true, Bool.true_and, Bool.not_true, Bool.not_false, Bool.and_false, Bool.false_and, Option.map_some, reduceCtorEq, and_true, true_and, and_self]
      generalize hxs : x0 :: xr = xs at *
      have hpos : 0 < xs.length := by rw [← hxs]; simp
      cases k with
      | zero =>
        have e0 : (((0 : Nat) : Int) == 0) = true := rfl
        rw [e0]
        simp only [wB, wS, wE, wA, wAnd, wOr, wAndT, wOrT, wP, wI, tru, eQ, exAt_eq, IAs.isNil, List.map_cons, List.map_nil, List.cons_append, List.nil_append, List.getElem?_cons_zero, List.getElem?_cons_succ, List.set_cons_zero, List.set_cons_succ, Bool.false_eq_true, if_false, if_true, if_pos, List.any_cons, List.any_nil, ofO_some, ofO_none, setMany, bindT, D.truth, D.isTy, D.isBox, bi_len_tup, bi_len_list, bi_len_str, bi_tuple_list, bi_tuple_tup, bi_list_list, bi_list_tup, bi_int_int, eq_int, ne_int, lt_int, le_int, gt_int, ge_int, Bool.or_false, Bool.or_true, Bool.false_or, Bool.true_or, Bool.and_true, Bool.true_and, Bool.not_true, Bool.not_false, Bool.and_false, Bool.false_and, Option.map_some, reduceCtorEq, and_true, true_and, and_self]
        exact odd n (by omega)
      | succ k =>
        have e0 : (((k + 1 : Nat) : Int) == 0) = false := by
          rw [beq_eq_false_iff_ne]
          omega
        rw [e0]
        simp only [wB, wS, wE, wA, wAnd, wOr, wAndT, wOrT, wP, wI, tru, eQ, exAt_eq, IAs.isNil, List.map_cons, List.map_nil, List.cons_append, List.nil_append, List.getElem?_cons_zero, List.getElem?_cons_succ, List.set_cons_zero, List.set_cons_succ, Bool.false_eq_true, if_false, if_true, if_pos, List.any_cons, List.any_nil, ofO_some, ofO_none, setMany, bindT, D.truth, D.isTy, D.isBox, bi_len_tup, bi_len_list, bi_len_str, bi_tuple_list, bi_tuple_tup, bi_list_list, bi_list_tup, bi_int_int, eq_int, ne_int, lt_int, le_int, gt_int, ge_int, Bool.or_false, Bool.or_true, Bool.false_or, Bool.true_or, Bool.and_true, Bool.true_and, Bool.not_true, Bool.not_false, Bool.and_false, Bool.false_and, Option.map_some, reduceCtorEq, and_true, true_and, and_self]
        refine ⟨5, rfl, by decide, by decide, by omega, fun r5 h05 h15 => ?_⟩
        simp only [wB, wS, wE, wA, wAnd, wOr, wAndT, wOrT, wP, wI, tru, eQ, exAt_eq, IAs.isNil, List.map_cons, List.map_nil, List.cons_append, List.nil_append, List.getElem?_cons_zero, List.getElem?_cons_succ, List.set_cons_zero, List.set_cons_succ, Bool.false_eq_true, if_false, if_true, if_pos, List.any_cons, List.any_nil, ofO_some, ofO_none, setMany, bindT, D.truth, D.isTy, D.isBox, bi_len_tup, bi_len_list, bi_len_str, bi_tuple_list, bi_tuple_tup, bi_list_list, bi_list_tup, bi_int_int, eq_int, ne_int, lt_int, le_int, gt_int, ge_int, Bool.or_false, Bool.or_true, Bool.false_or, Bool.true_or, Bool.and_true, Bool.true_and, Bool.not_true, Bool.not_false, Bool.and_false, Bool.false_and, Option.map_some, reduceCtorEq, and_true, true_and, and_self]
        split
        · exact odd _ (by omega)
        · refine ⟨(xs.length : Int), rfl, by omega, by omega, by omega, fun r h0 h1 => ⟨12, rfl, by decide, by decide, by omega, fun s hs0 hs1 => ?_⟩⟩
          obtain ⟨v, hv, ev⟩ := atI_of h0 h1
          have ev : getI (.tup xs) (.int r) = some v := ev
          simp only [wB, wS, wE, wA, wAnd, wOr, wAndT, wOrT, wP, wI, tru, eQ, exAt_eq, IAs.isNil, List.map_cons, List.map_nil, List.cons_append, List.nil_append, List.getElem?_cons_zero, List.getElem?_cons_succ, List.set_cons_zero, List.set_cons_succ, Bool.false_eq_true, if_false, if_true, if_pos, List.any_cons, List.any_nil, ofO_some, ofO_none, setMany, bindT, D.truth, D.isTy, D.isBox, bi_len_tup, bi_len_list, bi_len_str, bi_tuple_list, bi_tuple_tup, bi_list_list, bi_list_tup, bi_int_int, eq_int, ne_int, lt_int, le_int, gt_int, ge_int, Bool.or_false, Bool.or_true, Bool.false_or, Bool.true_or, Bool.and_true, Bool.true_and, Bool.not_true, Bool.not_false, Bool.and_false, Bool.false_and, Option.map_some, reduceCtorEq, and_true, true_and, and_self, slc_tup, add_int, ev, f3 k rfl, sub_one (show 1 ≤ k + 1 by omega)]
          have c1 := fun lo hi => cut_len xs lo hi
          split
          · rw [add_tup (le_size (by have := c1 none (some r); have := c1 (some (r + 1)) none; omega)), ofO_some]
            exact q _ _ (dp_of_tup (all_app (cut _ _) (cut _ _))) (by omega)
          · split
            · refine ⟨le_size (by omega), ?_⟩
              rw [add_tup (le_size (by have := c1 none (some r); rw [List.length_singleton]; omega)), ofO_some, add_tup (le_size (by have := c1 none (some r); have := c1 (some r) none; rw [List.length_append, List.length_singleton]; omega)), ofO_some]
              exact q _ _ (dp_of_tup (all_app (all_app (cut _ _) (all_one (hx2 v hv))) (cut _ _))) (by omega)
            · split
              · refine ⟨fs, rfl, hf, by omega, fun o ho => ⟨le_size (by omega), ?_⟩⟩
                rw [add_tup (le_size (by have := c1 none (some r); rw [List.length_singleton]; omega)), ofO_some, add_tup (le_size (by have := c1 none (some r); have := c1 (some r) none; rw [List.length_append, List.length_singleton]; omega)), ofO_some]
                exact q _ _ (dp_of_tup (all_app (all_app (cut _ _) (all_one (dp_mono (by omega) o ho))) (cut _ _))) (by omega)
              · split
                · rw [add_tup (le_size (by have := c1 none (some r); have := c1 (some r) (some (r + 2)); rw [List.length_reverse]; omega)), ofO_some, add_tup (le_size (by have := c1 none (some r); have := c1 (some r) (some (r + 2)); have := c1 (some (r + 2)) none; rw [List.length_append, List.length_reverse]; omega)), ofO_some]
                  exact q _ _ (dp_of_tup (all_app (all_app (cut _ _) fun x hx => cut _ _ x (List.mem_reverse.mp hx)) (cut _ _))) (by omega)
                · split
                  · exact q _ _ (dp_of_list hx2) (by omega)
                  · refine ⟨v, fs, by simp, hx v hv, hf, by omega, fun o n' ho hn' => ⟨le_size (by omega), ?_⟩⟩
                    rw [add_tup (le_size (by have := c1 none (some r); rw [List.length_singleton]; omega)), ofO_some, add_tup (le_size (by have := c1 none (some r); have := c1 (some (r + 1)) none; rw [List.length_append, List.length_singleton]; omega)), ofO_some]
                    exact q _ _ (dp_of_tup (all_app (all_app (cut _ _) (all_one ho)) (cut _ _))) (by omega)
  | dict kvs => rw [D.nr] at hd; cases hd
  | box => rw [D.nr] at hd; cases hd
  | _ =>
    simp only [wB, wS, wE, wA, wAnd, wOr, wAndT, wOrT, wP, wI, tru, eQ, exAt_eq, IAs.isNil, List.map_cons, List.map_nil, List.cons_append, List.nil_append, List.getElem?_cons_zero, List.getElem?_cons_succ, List.set_cons_zero, List.set_cons_succ, Bool.false_eq_true, if_false, if_true, if_pos, List.any_cons, List.any_nil, ofO_some, ofO_none, setMany, bindT, D.truth, D.isTy, D.isBox, bi_len_tup, bi_len_list, bi_len_str, bi_tuple_list, bi_tuple_tup, bi_list_list, bi_list_tup, bi_int_int, eq_int, ne_int, lt_int, le_int, gt_int, ge_int, Bool.or_false, Bool.or_true, Bool.false_or, Bool.true_or, Bool.and_true, Bool.true_and, Bool.not_true, Bool.not_false, Bool.and_false, Bool.false_and, Option.map_some, reduceCtorEq, and_true, true_and, and_self]
    exact odd n (by omega)
end
end Dl

set_option Elab.async false
set_option linter.all false
set_option maxRecDepth 100000
set_option maxHeartbeats 4000000
/-! Sameness of truth values and of lists of them. -/
namespace Dl
open PySem PySem.Spec PyProof.Rows L2
def fsSame0 : FS := fun ds n Q _ => ∃ a b : Bool, ds = [.bl a, .bl b] ∧ Q (.bl (a == b)) n
def fsSame1 : FS := fun ds n Q _ => ∃ xs ys : List Bool, ds = [.list (xs.map .bl), .list (ys.map .bl)] ∧ Q (.bl (xs == ys)) n
def fsSame : FS := fun ds n Q E => fsSame0 ds n Q E ∨ fsSame1 ds n Q E
theorem eq_bl (a b : Bool) : cmpop .eq (.bl a) (.bl b) = some (a == b) := by
  have : eqOk (.bl a) (.bl b) = true := by simp [eqOk, D.flat]
  rw [c_eq, if_pos this]
  rfl
theorem ne_bl (a b : Bool) : cmpop .ne (.bl a) (.bl b) = some (!(a == b)) := by
  have : neOk (.bl a) (.bl b) = true := by simp [neOk, D.flat]
  rw [c_ne, if_pos this]
  rfl
theorem is_nonD (x : D) : cmpop .is x .non = some (match x with
  | .non => true
  | _ => false) := by cases x <;> rfl
def zipB : List Bool → List Bool → List D
  | x :: xs, y :: ys => .tup [.bl x, .bl y] :: zipB xs ys
  | _, _ => []
theorem zip_bl : ∀ xs ys : List Bool, zipD (xs.map .bl) (ys.map .bl) = zipB xs ys
  | [], _ => rfl
  | _ :: _, [] => rfl
  | x :: xs, y :: ys => by
    show D.tup [.bl x, .bl y] :: zipD (xs.map .bl) (ys.map .bl) = _
    rw [zip_bl xs ys]
    rfl
def samePair : D → Bool
  | .tup [.bl x, .bl y] => x == y
  | _ => false
theorem zip_all : ∀ xs ys : List Bool, xs.length = ys.length → (zipB xs ys).all samePair = (xs == ys)
  | [], [], _ => rfl
  | x :: xs, y :: ys, h => by
    show (samePair (.tup [.bl x, .bl y]) && (zipB xs ys).all samePair) = (x :: xs == y :: ys)
    rw [zip_all xs ys (by simpa using h)]
    rfl
theorem zip_mem : ∀ {xs ys : List Bool} {d : D}, d ∈ zipB xs ys → ∃ a b, d = .tup [.bl a, .bl b]
  | [], _, _, h => by cases h
  | _ :: _, [], _, h => by cases h
  | x :: xs, y :: ys, d, h => by
    rcases List.mem_cons.mp h with e | e
    · exact ⟨x, y, e⟩
    · exact zip_mem e
section
variable {T : Tab} {n : Nat} {Q : D → Nat → Prop} {E : QX}
theorem b_law_same0 {ds : List D} (h : fsSame0 ds n Q E) : wB T ir_law_same (ent0 ["_law_got", "_law_due", "_law_key", "_law_mine", "_law_its"] ds) n (eQ Q E) := by
  obtain ⟨a, b, rfl, q⟩ := h
  unfold ir_law_same ent0
  simp only [wB, wS, wE, wA, wAnd, wOr, wAndT, wOrT, wP, wI, tru, eQ, exAt_eq, IAs.isNil, List.map_cons, List.map_nil, List.cons_append, List.nil_append, List.getElem?_cons_zero, List.getElem?_cons_succ, List.set_cons_zero, List.set_cons_succ, Bool.false_eq_true, if_false, if_true, if_pos, List.any_cons, List.any_nil, ofO_some, ofO_none, setMany, bindT, D.truth, D.isTy, D.isBox, bi_len_tup, bi_len_list, bi_len_str, bi_tuple_list, bi_tuple_tup, bi_list_list, bi_list_tup, bi_int_int, eq_int, ne_int, lt_int, le_int, gt_int, ge_int, Bool.or_false, Bool.or_true, Bool.false_or, Bool.true_or, Bool.and_true, Bool.true_and, Bool.not_true, Bool.not_false, Bool.and_false, Bool.false_and, Option.map_some, reduceCtorEq, and_true, true_and, and_self, List.length_cons, List.length_nil, List.replicate, eq_bl, is_nonD]
  cases h : (a == b) with
  | true =>
    rw [h] at q
    simp only [wB, wS, wE, wA, wAnd, wOr, wAndT, wOrT, wP, wI, tru, eQ, exAt_eq, IAs.isNil, List.map_cons, List.map_nil, List.cons_append, List.nil_append, List.getElem?_cons_zero, List.getElem?_cons_succ, List.set_cons_zero, List.set_cons_succ, Bool.false_eq_true, if_false, if_true, if_pos, List.any_cons, List.any_nil, ofO_some, ofO_none, setMany, bindT, D.truth, D.isTy, D.isBox, bi_len_tup, bi_len_list, bi_len_str, bi_tuple_list, bi_tuple_tup, bi_list_list, bi_list_tup, bi_int_int, eq_int, ne_int, lt_int, le_int, gt_int, ge_int, Bool.or_false, Bool.or_true, Bool.false_or, Bool.true_or, Bool.and_true, Bool.true_and, Bool.not_true, Bool.not_false, Bool.and_false, Bool.false_and, Option.map_some, reduceCtorEq, and_true, true_and, and_self, eq_bl]
    exact q
  | false =>
    rw [h] at q
    simp only [wB, wS, wE, wA, wAnd, wOr, wAndT, wOrT, wP, wI, tru, eQ, exAt_eq, IAs.isNil, List.map_cons, List.map_nil, List.cons_append, List.nil_append, List.getElem?_cons_zero, List.getElem?_cons_succ, List.set_cons_zero, List.set_cons_succ, Bool.false_eq_true, if_false, if_true, if_pos, List.any_cons, List.any_nil, ofO_some, ofO_none, setMany, bindT, D.truth, D.isTy, D.isBox, bi_len_tup, bi_len_list, bi_len_str, bi_tuple_list, bi_tuple_tup, bi_list_list, bi_list_tup, bi_int_int, eq_int, ne_int, lt_int, le_int, gt_int, ge_int, Bool.or_false, Bool.or_true, Bool.false_or, Bool.true_or, Bool.and_true, Bool.true_and, Bool.not_true, Bool.not_false, Bool.and_false, Bool.false_and, Option.map_some, reduceCtorEq, and_true, true_and, and_self]
    exact q
theorem b_law_same1 {ds : List D} (f1 : T.fs "_law_same" = some fsSame0) (h : fsSame1 ds n Q E) : wB T ir_law_same (ent0 ["_law_got", "_law_due", "_law_key", "_law_mine", "_law_its"] ds) n (eQ Q E) := by
  obtain ⟨xs, ys, rfl, q⟩ := h
  unfold ir_law_same ent0
  simp only [wB, wS, wE, wA, wAnd, wOr, wAndT, wOrT, wP, wI, tru, eQ, exAt_eq, IAs.isNil, List.map_cons, List.map_nil, List.cons_append, List.nil_append, List.getElem?_cons_zero, List.getElem?_cons_succ, List.set_cons_zero, List.set_cons_succ, Bool.false_eq_true, if_false, if_true, if_pos, List.any_cons, List.any_nil, ofO_some, ofO_none, setMany, bindT, D.truth, D.isTy, D.isBox, bi_len_tup, bi_len_list, bi_len_str, bi_tuple_list, bi_tuple_tup, bi_list_list, bi_list_tup, bi_int_int, eq_int, ne_int, lt_int, le_int, gt_int, ge_int, Bool.or_false, Bool.or_true, Bool.false_or, Bool.true_or, Bool.and_true, Bool.true_and, Bool.not_true, Bool.not_false, Bool.and_false, Bool.false_and, Option.map_some, reduceCtorEq, and_true, true_and, and_self, List.length_cons, List.length_nil, List.replicate, ne_bl, List.length_map, f1, zip_bl, int_len]
  have e1 : (true == true) = true := rfl
  have e2 : (false == false) = true := rfl
  simp only [e1, e2, wB, wS, wE, wA, wAnd, wOr, wAndT, wOrT, wP, wI, tru, eQ, exAt_eq, IAs.isNil, List.map_cons, List.map_nil, List.cons_append, List.nil_append, List.getElem?_cons_zero, List.getElem?_cons_succ, List.set_cons_zero, List.set_cons_succ, Bool.false_eq_true, if_false, if_true, if_pos, List.any_cons, List.any_nil, ofO_some, ofO_none, setMany, bindT, D.truth, D.isTy, D.isBox, bi_len_tup, bi_len_list, bi_len_str, bi_tuple_list, bi_tuple_tup, bi_list_list, bi_list_tup, bi_int_int, eq_int, ne_int, lt_int, le_int, gt_int, ge_int, Bool.or_false, Bool.or_true, Bool.false_or, Bool.true_or, Bool.and_true, Bool.true_and, Bool.not_true, Bool.not_false, Bool.and_false, Bool.false_and, Option.map_some, reduceCtorEq, and_true, true_and, and_self]
  cases h : (xs.length == ys.length) with
  | false =>
    have e : (xs == ys) = false := by
      rw [beq_eq_false_iff_ne] at h ⊢
      exact fun z => h (by rw [z])
    rw [e] at q
    simp only [wB, wS, wE, wA, wAnd, wOr, wAndT, wOrT, wP, wI, tru, eQ, exAt_eq, IAs.isNil, List.map_cons, List.map_nil, List.cons_append, List.nil_append, List.getElem?_cons_zero, List.getElem?_cons_succ, List.set_cons_zero, List.set_cons_succ, Bool.false_eq_true, if_false, if_true, if_pos, List.any_cons, List.any_nil, ofO_some, ofO_none, setMany, bindT, D.truth, D.isTy, D.isBox, bi_len_tup, bi_len_list, bi_len_str, bi_tuple_list, bi_tuple_tup, bi_list_list, bi_list_tup, bi_int_int, eq_int, ne_int, lt_int, le_int, gt_int, ge_int, Bool.or_false, Bool.or_true, Bool.false_or, Bool.true_or, Bool.and_true, Bool.true_and, Bool.not_true, Bool.not_false, Bool.and_false, Bool.false_and, Option.map_some, reduceCtorEq, and_true, true_and, and_self]
    exact q
  | true =>
    rw [beq_iff_eq] at h
    simp only [wB, wS, wE, wA, wAnd, wOr, wAndT, wOrT, wP, wI, tru, eQ, exAt_eq, IAs.isNil, List.map_cons, List.map_nil, List.cons_append, List.nil_append, List.getElem?_cons_zero, List.getElem?_cons_succ, List.set_cons_zero, List.set_cons_succ, Bool.false_eq_true, if_false, if_true, if_pos, List.any_cons, List.any_nil, ofO_some, ofO_none, setMany, bindT, D.truth, D.isTy, D.isBox, bi_len_tup, bi_len_list, bi_len_str, bi_tuple_list, bi_tuple_tup, bi_list_list, bi_list_tup, bi_int_int, eq_int, ne_int, lt_int, le_int, gt_int, ge_int, Bool.or_false, Bool.or_true, Bool.false_or, Bool.true_or, Bool.and_true, Bool.true_and, Bool.not_true, Bool.not_false, Bool.and_false, Bool.false_and, Option.map_some, reduceCtorEq, and_true, true_and, and_self]
    refine all_comp (f := samePair) (fun d hd n k hk => ?_) (by rw [zip_all xs ys h]; exact q)
    obtain ⟨a, b, rfl⟩ := zip_mem hd
    simp only [wB, wS, wE, wA, wAnd, wOr, wAndT, wOrT, wP, wI, tru, eQ, exAt_eq, IAs.isNil, List.map_cons, List.map_nil, List.cons_append, List.nil_append, List.getElem?_cons_zero, List.getElem?_cons_succ, List.set_cons_zero, List.set_cons_succ, Bool.false_eq_true, if_false, if_true, if_pos, List.any_cons, List.any_nil, ofO_some, ofO_none, setMany, bindT, D.truth, D.isTy, D.isBox, bi_len_tup, bi_len_list, bi_len_str, bi_tuple_list, bi_tuple_tup, bi_list_list, bi_list_tup, bi_int_int, eq_int, ne_int, lt_int, le_int, gt_int, ge_int, Bool.or_false, Bool.or_true, Bool.false_or, Bool.true_or, Bool.and_true, Bool.true_and, Bool.not_true, Bool.not_false, Bool.and_false, Bool.false_and, Option.map_some, reduceCtorEq, and_true, true_and, and_self]
    exact ⟨a, b, rfl, hk⟩
end
end Dl

set_option Elab.async false
set_option linter.all false
set_option maxRecDepth 100000
set_option maxHeartbeats 4000000
/-! Straight texts that draw nothing, run. -/
namespace Dl
open PySem PySem.Spec PyProof.Rows L2
def xC (f : D → Option D) : List D → Option (List D)
  | [] => some []
  | d :: ds => match f d, xC f ds with
    | some y, some ys => some (y :: ys)
    | _, _ => none
def bindO {α β : Type} (o : Option α) (f : α → Option β) : Option β := match o with
  | some a => f a
  | none => none
theorem bindO_some {α β : Type} {o : Option α} {f : α → Option β} {b : β} (h : bindO o f = some b) : ∃ a, o = some a ∧ f a = some b := by
  cases o with
  | none => cases h
  | some a => exact ⟨a, rfl, h⟩
def smallL (xs : List D) (d : D) : Option D := if xs.length ≤ 1000 then some d else none
theorem smallL_some {xs : List D} {d e : D} (h : smallL xs d = some e) : xs.length ≤ sizeLine ∧ e = d := by
  unfold smallL at h
  split at h
  · cases h
    exact ⟨le_size (by omega), rfl⟩
  · cases h
def isT : IE → Bool
  | .k (.bl true) => true
  | _ => false
theorem isT_of {c : IE} (h : isT c = true) : c = .k (.bl true) := by
  unfold isT at h
  split at h
  · rfl
  · cases h
def tgOne : Tg → Option Nat
  | .one i => some i
  | _ => none
def kws2 : List Str := [("fields" : Str), ("thing" : Str)]
mutual
def xE (S : Str → Str → List D → Option D) : IE → List Ent → Option D
  | .v i, r => (match r[i]? with
    | some (.sh d) => some d
    | _ => none)
  | .k d, _ => some d
  | .bin op a c, r => bindO (xE S a r) fun x => bindO (xE S c r) fun y => binop op x y
  | .lst a, r => bindO (xA S a r) fun xs => smallL xs (.list xs)
  | .tup a, r => bindO (xA S a r) fun xs => smallL xs (.tup xs)
  | .cat a c, r => bindO (xE S a r) fun x => bindO (xE S c r) fun y => (match x, y with
    | .list xs, .list ys => smallL (xs ++ ys) (.list (xs ++ ys))
    | _, _ => none)
  | .lenO i, r => bindO (owL r i) fun ys => some (.int ys.length)
  | .comp s t c b, r => bindO (xI S s r) fun ds => if isT c = true then bindO (tgOne t) fun i => bindO (xC (fun d => xE S b (r.set i (.sh d))) ds) fun ys => some (.list ys) else none
  | .stat C m a, r => bindO (xA S a r) fun xs => S C m xs
  | .statk C m ks a, r => if ks = kws2 then bindO (xA S a r) fun xs => S C m xs else none
  | _, _ => none
def xA (S : Str → Str → List D → Option D) : IAs → List Ent → Option (List D)
  | .nil, _ => some []
  | .cons e rest, r => bindO (xE S e r) fun x => bindO (xA S rest r) fun xs => some (x :: xs)
  | .star _ _, _ => none
def xI (S : Str → Str → List D → Option D) : ISr → List Ent → Option (List D)
  | .ex e, r => bindO (xE S e r) fun x => itemsD x
  | _, _ => none
end
def fsIsKind (m : Nat) : FS := fun ds n Q _ => ∃ (fs : List Str) (x d : D), ds = [x, d] ∧ (x = .tup (fs.map .str) ∨ x = .list (fs.map .str)) ∧ d.dp (m + 1) = true ∧ Q (.bl (kindD fs m d)) n
def xK : Str → Str → List D → Option D := fun C m xs => if C = "Book" ∧ m = "is_kind" then (match xs with
  | [.tup fs, d] => bindO (strsD fs) fun fz => if d.dp 21 then some (.bl (kindD fz 20 d)) else none
  | _ => none) else none
def HasK (T : Tab) : Prop := T.sm "Book" "is_kind" = some (kws2, fsIsKind 20)
theorem strs_back : ∀ {xs : List D} {ys : List Str}, strsD xs = some ys → xs = ys.map .str
  | [], ys, h => by cases h; rfl
  | .str z :: r, ys, h => by
    rw [strsD] at h
    cases q : strsD r with
    | none => rw [q] at h; cases h
    | some zs =>
      rw [q] at h
      cases h
      rw [strs_back q]
      rfl
  | .non :: _, _, h => by cases h
  | .bl _ :: _, _, h => by cases h
  | .int _ :: _, _, h => by cases h
  | .list _ :: _, _, h => by cases h
  | .tup _ :: _, _, h => by cases h
  | .dict _ :: _, _, h => by cases h
  | .box :: _, _, h => by cases h
theorem xK_ok {T : Tab} (hk : HasK T) {C m : Str} {xs : List D} {d : D} (h : xK C m xs = some d) : ∃ fs : FS, T.sm C m = some (kws2, fs) ∧ ∀ n (Q : D → Nat → Prop) (E : QX), Q d n → fs xs n Q E := by
  unfold xK at h
  split at h
  · rename_i e
    obtain ⟨rfl, rfl⟩ := e
    refine ⟨_, hk, fun n Q E q => ?_⟩
    split at h
    · rename_i fs x
      obtain ⟨fz, e1, h⟩ := bindO_some h
      split at h
      · rename_i hd
        cases h
        exact ⟨fz, _, x, rfl, .inl (by rw [strs_back e1]), hd, q⟩
      · cases h
    · cases h
  · cases h
theorem xC_ok {F : D → Nat → (Option D → Nat → Prop) → Prop} {f : D → Option D} (h : ∀ d y, f d = some y → ∀ n k, k (some y) n → F d n k) : ∀ (ds : List D) (ys acc : List D) (n : Nat) (Q : List D → Nat → Prop), xC f ds = some ys → Q (acc ++ ys) n → compL F ds acc n Q
  | [], ys, acc, n, Q, e, q => by
    cases e
    rw [List.append_nil] at q
    exact q
  | d :: ds, ys, acc, n, Q, e, q => by
    rw [xC] at e
    split at e
    · rename_i y zs e1 e2
      cases e
      refine h d y e1 n _ (xC_ok h ds zs (acc ++ [y]) n Q e2 ?_)
      simpa using q
    · cases e
mutual
theorem xE_ok {T : Tab} (hk : HasK T) : ∀ (e : IE) (r : List Ent) (d : D), xE xK e r = some d → ∀ n (Q : D → Nat → Prop) (E : QX), Q d n → wE T e r n Q E
  | .v i, r, d, h, n, Q, E, q => by
    rw [xE] at h
    rw [wE]
    split at h
    · rename_i e
      cases h
      first | exact q | (rw [e]; exact q)
    · cases h
  | .k d', r, d, h, n, Q, E, q => by
    rw [xE] at h
    cases h
    rw [wE]
    exact q
  | .bin op a c, r, d, h, n, Q, E, q => by
    rw [xE] at h
    obtain ⟨x, h1, h⟩ := bindO_some h
    obtain ⟨y, h2, h⟩ := bindO_some h
    rw [wE]
    refine xE_ok hk a r x h1 n _ _ (xE_ok hk c r y h2 n _ _ ?_)
    show ofO (binop op x y) _
    rw [h]
    exact q
  | .lst a, r, d, h, n, Q, E, q => by
    rw [xE] at h
    obtain ⟨xs, h1, h⟩ := bindO_some h
    obtain ⟨h2, rfl⟩ := smallL_some h
    rw [wE]
    exact xA_ok hk a r xs h1 n _ _ ⟨h2, q⟩
  | .tup a, r, d, h, n, Q, E, q => by
    rw [xE] at h
    obtain ⟨xs, h1, h⟩ := bindO_some h
    obtain ⟨h2, rfl⟩ := smallL_some h
    rw [wE]
    exact xA_ok hk a r xs h1 n _ _ ⟨h2, q⟩
  | .cat a c, r, d, h, n, Q, E, q => by
    rw [xE] at h
    obtain ⟨x, h1, h⟩ := bindO_some h
    obtain ⟨y, h2, h⟩ := bindO_some h
    rw [wE]
    refine xE_ok hk a r x h1 n _ _ (xE_ok hk c r y h2 n _ _ ?_)
    split at h
    · obtain ⟨h3, rfl⟩ := smallL_some h
      rw [List.length_append] at h3
      exact ⟨h3, q⟩
    · cases h
  | .lenO i, r, d, h, n, Q, E, q => by
    rw [xE] at h
    obtain ⟨x, h1, h⟩ := bindO_some h
    cases h
    rw [wE, h1]
    exact q
  | .comp s t c b, r, d, h, n, Q, E, q => by
    rw [xE] at h
    obtain ⟨ds, h1, h⟩ := bindO_some h
    split at h
    · rename_i hc
      obtain ⟨i, h2, h⟩ := bindO_some h
      obtain ⟨ys, h3, h⟩ := bindO_some h
      cases h
      have et : t = .one i := by
        cases t with
        | one j => cases h2; rfl
        | many l => cases h2
      subst et
      have ec := isT_of hc
      rw [wE]
      refine xI_ok hk s r ds h1 n _ _ ?_
      refine xC_ok (fun d y e n k hk' => ?_) ds ys [] n _ h3 q
      show ofO (some (r.set i (.sh d))) _
      rw [ofO_some, ec, wE]
      show ofO (some true) _
      simp only [ofO_some, if_true]
      exact xE_ok hk b _ y e n _ _ hk'
    · cases h
  | .stat C m a, r, d, h, n, Q, E, q => by
    rw [xE] at h
    obtain ⟨xs, h1, h⟩ := bindO_some h
    obtain ⟨fs, h2, h3⟩ := xK_ok hk h
    rw [wE, h2, ofO_some]
    exact xA_ok hk a r xs h1 n _ _ (h3 n Q _ q)
  | .statk C m ks a, r, d, h, n, Q, E, q => by
    rw [xE] at h
    split at h
    · rename_i eks
      obtain ⟨xs, h1, h⟩ := bindO_some h
      obtain ⟨fs, h2, h3⟩ := xK_ok hk h
      rw [wE, h2, ofO_some]
      exact ⟨eks.symm, xA_ok hk a r xs h1 n _ _ (h3 n Q _ q)⟩
    · cases h
  | .bad, r, d, h, n, Q, E, q => by simp [xE] at h
  | .g _, r, d, h, n, Q, E, q => by simp [xE] at h
  | .neg _, r, d, h, n, Q, E, q => by simp [xE] at h
  | .cmp _ _ _, r, d, h, n, Q, E, q => by simp [xE] at h
  | .chain _ _ _ _ _, r, d, h, n, Q, E, q => by simp [xE] at h
  | .and _, r, d, h, n, Q, E, q => by simp [xE] at h
  | .or _, r, d, h, n, Q, E, q => by simp [xE] at h
  | .not _, r, d, h, n, Q, E, q => by simp [xE] at h
  | .tand _, r, d, h, n, Q, E, q => by simp [xE] at h
  | .tor _, r, d, h, n, Q, E, q => by simp [xE] at h
  | .tnot _, r, d, h, n, Q, E, q => by simp [xE] at h
  | .ite _ _ _, r, d, h, n, Q, E, q => by simp [xE] at h
  | .ix _ _, r, d, h, n, Q, E, q => by simp [xE] at h
  | .slc _ _ _ _ _, r, d, h, n, Q, E, q => by simp [xE] at h
  | .rev _, r, d, h, n, Q, E, q => by simp [xE] at h
  | .call _ _, r, d, h, n, Q, E, q => by simp [xE] at h
  | .bi _ _, r, d, h, n, Q, E, q => by simp [xE] at h
  | .lenset _, r, d, h, n, Q, E, q => by simp [xE] at h
  | .isi _ _, r, d, h, n, Q, E, q => by simp [xE] at h
  | .join _ _, r, d, h, n, Q, E, q => by simp [xE] at h
  | .gget _ _ _, r, d, h, n, Q, E, q => by simp [xE] at h
  | .dis _ _, r, d, h, n, Q, E, q => by simp [xE] at h
  | .inO _ _ _, r, d, h, n, Q, E, q => by simp [xE] at h
theorem xA_ok {T : Tab} (hk : HasK T) : ∀ (a : IAs) (r : List Ent) (ds : List D), xA xK a r = some ds → ∀ n (Q : List D → Nat → Prop) (E : QX), Q ds n → wA T a r n Q E
  | .nil, r, ds, h, n, Q, E, q => by
    rw [xA] at h
    cases h
    rw [wA]
    exact q
  | .cons e rest, r, ds, h, n, Q, E, q => by
    rw [xA] at h
    obtain ⟨x, h1, h⟩ := bindO_some h
    obtain ⟨xs, h2, h⟩ := bindO_some h
    cases h
    rw [wA]
    exact xE_ok hk e r x h1 n _ _ (xA_ok hk rest r xs h2 n _ _ q)
  | .star e rest, r, ds, h, n, Q, E, q => by
    rw [xA] at h
    cases h
theorem xI_ok {T : Tab} (hk : HasK T) : ∀ (a : ISr) (r : List Ent) (ds : List D), xI xK a r = some ds → ∀ n (Q : List D → Nat → Prop) (E : QX), Q ds n → wI T a r n Q E
  | .ex e, r, ds, h, n, Q, E, q => by
    rw [xI] at h
    obtain ⟨x, h1, h⟩ := bindO_some h
    rw [wI]
    refine xE_ok hk e r x h1 n _ _ ?_
    show ofO (itemsD x) _
    rw [h]
    exact q
  | .rng1 _, r, ds, h, n, Q, E, q => by simp [xI] at h
  | .rng2 _ _, r, ds, h, n, Q, E, q => by simp [xI] at h
  | .enum _, r, ds, h, n, Q, E, q => by simp [xI] at h
  | .zip _ _, r, ds, h, n, Q, E, q => by simp [xI] at h
end
def xS (S : Str → Str → List D → Option D) : IS → List Ent → Option (List Ent)
  | .set i e, r => bindO (xE S e r) fun d => some (r.set i (.sh d))
  | .setF i e, r => bindO (xE S e r) fun d => some (r.set i (.ow d))
  | .par l a, r => bindO (xA S a r) fun ds => setMany r l ds
  | .app i e, r => bindO (owD r i) fun ys => bindO (xE S e r) fun d => if ys.length < 1000 then some (r.set i (.ow (.list (ys ++ [d])))) else none
  | .frz l, r => some (freeze r l)
  | _, _ => none
theorem xS_ok {T : Tab} (hk : HasK T) {s : IS} {r r' : List Ent} {n : Nat} {E : EndD} (h : xS xK s r = some r') (q : E.nx r' n) : wS T s r n E := by
  unfold xS at h
  split at h
  · obtain ⟨d, h1, h⟩ := bindO_some h
    cases h
    rw [wS]
    exact xE_ok hk _ _ _ h1 n _ _ q
  · obtain ⟨d, h1, h⟩ := bindO_some h
    cases h
    rw [wS]
    exact xE_ok hk _ _ _ h1 n _ _ q
  · obtain ⟨d, h1, h⟩ := bindO_some h
    rw [wS]
    refine xA_ok hk _ _ _ h1 n _ _ ?_
    rw [h]
    exact q
  · obtain ⟨ys, h1, h⟩ := bindO_some h
    obtain ⟨d, h2, h⟩ := bindO_some h
    split at h
    · rename_i hl
      cases h
      rw [wS, h1, ofO_some]
      refine xE_ok hk _ _ _ h2 n _ _ ⟨?_, q⟩
      have := sizeLine_eq
      omega
    · cases h
  · cases h
    rw [wS]
    exact q
  · cases h
def retOf : IS → Option IE
  | .ret e => some e
  | _ => none
def xB (S : Str → Str → List D → Option D) : ISs → List Ent → Option (IE × List Ent)
  | .nil, _ => none
  | .cons s rest, r => (match retOf s with
    | some e => some (e, r)
    | none => bindO (xS S s r) fun r' => xB S rest r')
theorem xB_ok {T : Tab} (hk : HasK T) : ∀ (b : ISs) (r : List Ent) (e : IE) (r' : List Ent) (n : Nat) (E : EndD), xB xK b r = some (e, r') → (∀ X : QX, wE T e r' n E.rt X) → wB T b r n E
  | .nil, r, e, r', n, E, h, q => by
    rw [xB] at h
    cases h
  | .cons s rest, r, e, r', n, E, h, q => by
    rw [xB] at h
    rw [wB]
    cases hs : retOf s with
    | some e1 =>
      rw [hs] at h
      cases h
      have es : s = .ret e := by
        cases s <;> first | (cases hs; rfl) | cases hs
      rw [es, wS]
      exact q _
    | none =>
      rw [hs] at h
      obtain ⟨r1, h1, h⟩ := bindO_some h
      exact xS_ok hk h1 (xB_ok hk rest r1 e r' n E h q)
/-- what stands at the end: two lists of truth values, the same ones -/
def endSame (S : Str → Str → List D → Option D) : Option (IE × List Ent) → Bool
  | some (.call f a, r) => f == "_law_same" && (match xA S a r with
    | some [.list xs, .list ys] => (match bools xs, bools ys with
      | some p, some q => p == q
      | _, _ => false)
    | _ => false)
  | _ => false
end Dl

set_option Elab.async false
set_option linter.all false
set_option maxRecDepth 100000
set_option maxHeartbeats 4000000
/-! What is told by hand. -/
namespace Dl
open PySem PySem.Spec PyProof.Rows L2
def handN : List Str := ["_law_yes", "_law_no", "_law_test_so", "_law_own", "_law_two", "_law_right_here", "_law_read_so", "_law_both_so", "_law_wrong", "_law_told_so", "_law_own_so", "_law_matter"]
def handR : Option (IE × List Ent) := xB xK ir_law_by_hand_right (List.replicate 12 .no)
theorem hand_ok : endSame xK handR = true := by decide +kernel
def fsHand : FS := fun ds n Q _ => ds = [] ∧ Q (.bl true) n
def fsRight : FS := fun ds n Q _ => ds = [.box] ∧ n + 100000 ≤ B9 ∧ ∀ n', Q (.bl true) n'
theorem bools_back : ∀ {xs : List D} {ys : List Bool}, bools xs = some ys → xs = ys.map .bl
  | [], ys, h => by cases h; rfl
  | .bl z :: r, ys, h => by
    rw [bools] at h
    cases q : bools r with
    | none => rw [q] at h; cases h
    | some zs =>
      rw [q] at h
      cases h
      rw [bools_back q]
      rfl
  | .non :: _, _, h => by cases h
  | .str _ :: _, _, h => by cases h
  | .int _ :: _, _, h => by cases h
  | .list _ :: _, _, h => by cases h
  | .tup _ :: _, _, h => by cases h
  | .dict _ :: _, _, h => by cases h
  | .box :: _, _, h => by cases h
section
variable {T : Tab} {n : Nat} {Q : D → Nat → Prop} {E : QX}
theorem b_law_by_hand {ds : List D} (f1 : T.fs "_law_same" = some fsSame) (hk : HasK T) (h : fsHand ds n Q E) : wB T ir_law_by_hand_right (ent0 handN ds) n (eQ Q E) := by
  obtain ⟨rfl, q⟩ := h
  have ho := hand_ok
  unfold endSame at ho
  split at ho
  · rename_i f a r he
    rw [Bool.and_eq_true] at ho
    obtain ⟨ef, ho⟩ := ho
    rw [beq_iff_eq] at ef
    subst ef
    refine xB_ok hk _ _ _ _ n (eQ Q E) he fun X => ?_
    split at ho
    · rename_i xs ys ha
      split at ho
      · rename_i p p' e1 e2
        rw [beq_iff_eq] at ho
        subst ho
        rw [wE, f1, ofO_some]
        refine xA_ok hk a r _ ha n _ _ (.inr ⟨p, p, by rw [bools_back e1, bools_back e2], ?_⟩)
        have e : (p == p) = true := by rw [beq_iff_eq]
        rw [e]
        exact q
      · cases ho
    · cases ho
  · cases ho
theorem cst_mul {x : D} (hx : x.atom = true) (i : Nat) (h : i < 6) : ∃ j cs, binop .fdiv (.int (i : Int)) (.int 4) = some (.int j) ∧ binop .mul (.list [x]) (.int j) = some (.list cs) ∧ Ats cs ∧ cs.length ≤ 20 := by
  have e1 : binop .fdiv (.int (i : Int)) (.int 4) = some (.int ((i : Int) / 4)) := by
    show (if (decide ((0 : Int) < 4) && decide ((4 : Int) < 1073741824)) = true then some (D.int ((i : Int) / 4)) else none) = _
    rw [if_pos (by decide)]
  have hj : (i : Int) / 4 = 0 ∨ (i : Int) / 4 = 1 := by omega
  rw [e1]
  rcases hj with e | e
  · refine ⟨_, [], rfl, ?_, (fun d hd => by cases hd), by simp⟩
    rw [e]
    show (if (decide (-(2 ^ 63) ≤ (0 : Int)) && decide ((0 : Int) < 2 ^ 63) && decide (([x] : List D).length * (0 : Int).toNat ≤ sizeLine)) = true then some (D.list (repL [x] (0 : Int).toNat)) else none) = _
    rw [if_pos (by
      have : ([x] : List D).length * (0 : Int).toNat ≤ sizeLine := Nat.zero_le _
      rw [decide_eq_true this]
      decide)]
    rfl
  · refine ⟨_, [x], rfl, ?_, ats_one hx, by simp⟩
    rw [e]
    show (if (decide (-(2 ^ 63) ≤ (1 : Int)) && decide ((1 : Int) < 2 ^ 63) && decide (([x] : List D).length * (1 : Int).toNat ≤ sizeLine)) = true then some (D.list (repL [x] (1 : Int).toNat)) else none) = _
    rw [if_pos (by
      have : ([x] : List D).length * (1 : Int).toNat ≤ sizeLine := le_size (by simp)
      rw [decide_eq_true this]
      decide)]
    rfl
theorem many_mod (i : Nat) : ∃ m : Nat, binop .mod (.int (i : Int)) (.int 2) = some (.int (m : Int)) ∧ m ≤ 1 := by
  refine ⟨i % 2, ?_, by omega⟩
  show (if (0 : Int) < 2 then some (D.int ((i : Int) % 2)) else none) = _
  rw [if_pos (by decide)]
  congr 2
theorem kind_last : kindD [("a" : Str), ("b" : Str)] 20 (.tup [.str "k", .tup [.str "a"], .tup [.str "say", .tup [.tup [.str "make", .str "a", .tup [.int 1, .int 2]]], .str "b"]]) = true := by decide +kernel
theorem b_law_right {ds : List D} (f1 : T.fs "_law_by_hand_right" = some fsHand) (f2 : T.fs "_law_names" = some fsNamesG) (f3 : T.fs "_law_take" = some fsTake) (f4 : T.fs "_law_kind" = some fsKindG) (f5 : T.fs "_law_lists" = some (fsLists 9)) (f6 : T.fs "_law_bent" = some (fsBent 8)) (f7 : T.fs "_law_is_kind" = some (fsKindL 20)) (f8 : T.fs "_law_same" = some fsSame) (hk : HasK T) (h : fsRight ds n Q E) :
    wB T ir_law_right (ent0 ["_law_box_here", "_law_turn", "_law_names_so", "_law_consts_so", "_law_own", "_law_some", "_law_lap", "_law_matter", "_law_due", "_law_told_so"] ds) n (eQ Q E) := by
  obtain ⟨rfl, l1, q⟩ := h
  have hk : T.sm "Book" "is_kind" = some (kws2, fsIsKind 20) := hk
  have tt : (true == true) = true := rfl
  unfold ir_law_right ent0
  simp only [wB, wS, wE, wA, wAnd, wOr, wAndT, wOrT, wP, wI, tru, eQ, exAt_eq, IAs.isNil, List.map_cons, List.map_nil, List.cons_append, List.nil_append, List.getElem?_cons_zero, List.getElem?_cons_succ, List.set_cons_zero, List.set_cons_succ, Bool.false_eq_true, if_false, if_true, if_pos, List.any_cons, List.any_nil, ofO_some, ofO_none, setMany, bindT, D.truth, D.isTy, D.isBox, bi_len_tup, bi_len_list, bi_len_str, bi_tuple_list, bi_tuple_tup, bi_list_list, bi_list_tup, bi_int_int, eq_int, ne_int, lt_int, le_int, gt_int, ge_int, Bool.or_false, Bool.or_true, Bool.false_or, Bool.true_or, Bool.and_true, Bool.true_and, Bool.not_true, Bool.not_false, Bool.and_false, Bool.false_and, Option.map_some, reduceCtorEq, and_true, true_and, and_self, f1, f2, f3, f4, f5, f6, f7, f8, hk, List.length_cons, List.length_nil, List.replicate]
  refine ⟨rfl, ?_⟩
  simp only [wB, wS, wE, wA, wAnd, wOr, wAndT, wOrT, wP, wI, tru, eQ, exAt_eq, IAs.isNil, List.map_cons, List.map_nil, List.cons_append, List.nil_append, List.getElem?_cons_zero, List.getElem?_cons_succ, List.set_cons_zero, List.set_cons_succ, Bool.false_eq_true, if_false, if_true, if_pos, List.any_cons, List.any_nil, ofO_some, ofO_none, setMany, bindT, D.truth, D.isTy, D.isBox, bi_len_tup, bi_len_list, bi_len_str, bi_tuple_list, bi_tuple_tup, bi_list_list, bi_list_tup, bi_int_int, eq_int, ne_int, lt_int, le_int, gt_int, ge_int, Bool.or_false, Bool.or_true, Bool.false_or, Bool.true_or, Bool.and_true, Bool.true_and, Bool.not_true, Bool.not_false, Bool.and_false, Bool.false_and, Option.map_some, reduceCtorEq, and_true, true_and, and_self]
  refine ⟨by decide, by decide, ?_⟩
  refine forL_rule (fun rest r n1 => ∃ (i : Nat) (x1 x2 x3 x4 x5 x6 x7 x8 x9 : Ent), i ≤ 6 ∧ rest = iotaI i (6 - i) ∧ n1 ≤ n + 5000 * i ∧ r = [.sh .box, x1, x2, x3, x4, x5, x6, x7, x8, x9]) ?_ ?_ _ _ _ ⟨0, .no, .no, .no, .no, .no, .no, .no, .no, .no, by omega, rfl, by omega, rfl⟩
  · rintro d rest r n1 ⟨i, x1, x2, x3, x4, x5, x6, x7, x8, x9, hi, er, hn, rfl⟩ k hk
    obtain ⟨j, ej⟩ : ∃ j, 6 - i = j + 1 := by
      cases h : 6 - i with
      | zero => rw [h] at er; cases er
      | succ j => exact ⟨j, rfl⟩
    rw [ej, iotaI] at er
    obtain ⟨rfl, rfl⟩ := List.cons.inj er
    obtain ⟨m, em, hm⟩ := many_mod i
    have em2 : binop .add (.int 1) (.int (m : Int)) = some (.int ((1 + m : Nat) : Int)) := by
      show some (D.int (1 + (m : Int))) = _
      congr 2
    simp only [wB, wS, wE, wA, wAnd, wOr, wAndT, wOrT, wP, wI, tru, eQ, exAt_eq, IAs.isNil, List.map_cons, List.map_nil, List.cons_append, List.nil_append, List.getElem?_cons_zero, List.getElem?_cons_succ, List.set_cons_zero, List.set_cons_succ, Bool.false_eq_true, if_false, if_true, if_pos, List.any_cons, List.any_nil, ofO_some, ofO_none, setMany, bindT, D.truth, D.isTy, D.isBox, bi_len_tup, bi_len_list, bi_len_str, bi_tuple_list, bi_tuple_tup, bi_list_list, bi_list_tup, bi_int_int, eq_int, ne_int, lt_int, le_int, gt_int, ge_int, Bool.or_false, Bool.or_true, Bool.false_or, Bool.true_or, Bool.and_true, Bool.true_and, Bool.not_true, Bool.not_false, Bool.and_false, Bool.false_and, Option.map_some, reduceCtorEq, and_true, true_and, and_self, em, em2]
    refine ⟨1 + m, rfl, by omega, by omega, fun fs n2 hfs hn2 => ?_⟩
    have hf : FsOk fs := ⟨by omega, by omega⟩
    simp only [wB, wS, wE, wA, wAnd, wOr, wAndT, wOrT, wP, wI, tru, eQ, exAt_eq, IAs.isNil, List.map_cons, List.map_nil, List.cons_append, List.nil_append, List.getElem?_cons_zero, List.getElem?_cons_succ, List.set_cons_zero, List.set_cons_succ, Bool.false_eq_true, if_false, if_true, if_pos, List.any_cons, List.any_nil, ofO_some, ofO_none, setMany, bindT, D.truth, D.isTy, D.isBox, bi_len_tup, bi_len_list, bi_len_str, bi_tuple_list, bi_tuple_tup, bi_list_list, bi_list_tup, bi_int_int, eq_int, ne_int, lt_int, le_int, gt_int, ge_int, Bool.or_false, Bool.or_true, Bool.false_or, Bool.true_or, Bool.and_true, Bool.true_and, Bool.not_true, Bool.not_false, Bool.and_false, Bool.false_and, Option.map_some, reduceCtorEq, and_true, true_and, and_self]
    refine ⟨9, rfl, by decide, by decide, ?_, fun c hc0 hc1 => ?_⟩
    · omega
    refine And.intro (le_size (by omega)) ?_
    generalize hgoal : ofO _ _ = G
    have hi6 : i < 6 := by omega
    have hca : (D.int c).atom = true := rfl
    have hcm := cst_mul hca i hi6
    obtain ⟨j4, hcm⟩ := hcm
    obtain ⟨cs, hcm⟩ := hcm
    obtain ⟨e4, hcm⟩ := hcm
    obtain ⟨e5, hcm⟩ := hcm
    obtain ⟨hcs, hcl⟩ := hcm
    rw [← hgoal]
    clear hgoal
    simp only [wB, wS, wE, wA, wAnd, wOr, wAndT, wOrT, wP, wI, tru, eQ, exAt_eq, IAs.isNil, List.map_cons, List.map_nil, List.cons_append, List.nil_append, List.getElem?_cons_zero, List.getElem?_cons_succ, List.set_cons_zero, List.set_cons_succ, Bool.false_eq_true, if_false, if_true, if_pos, List.any_cons, List.any_nil, ofO_some, ofO_none, setMany, bindT, D.truth, D.isTy, D.isBox, bi_len_tup, bi_len_list, bi_len_str, bi_tuple_list, bi_tuple_tup, bi_list_list, bi_list_tup, bi_int_int, eq_int, ne_int, lt_int, le_int, gt_int, ge_int, Bool.or_false, Bool.or_true, Bool.false_or, Bool.true_or, Bool.and_true, Bool.true_and, Bool.not_true, Bool.not_false, Bool.and_false, Bool.false_and, Option.map_some, reduceCtorEq, and_true, true_and, and_self, e4, e5]
    refine ⟨1, rfl, by omega, by omega, fun nms n3 hnms hn3 => ?_⟩
    obtain ⟨z, rfl⟩ : ∃ z, nms = [z] := by
      match nms, hnms with
      | [z], _ => exact ⟨z, rfl⟩
    have eg : getI (.list (([z] : List Str).map .str)) (.int 0) = some (.str z) := by
      obtain ⟨v, hv, e⟩ := atI_of (xs := ([z] : List Str).map D.str) (i := 0) (by decide) (by simp)
      have : v = .str z := by simpa using hv
      rw [← this]
      exact e
    simp only [wB, wS, wE, wA, wAnd, wOr, wAndT, wOrT, wP, wI, tru, eQ, exAt_eq, IAs.isNil, List.map_cons, List.map_nil, List.cons_append, List.nil_append, List.getElem?_cons_zero, List.getElem?_cons_succ, List.set_cons_zero, List.set_cons_succ, Bool.false_eq_true, if_false, if_true, if_pos, List.any_cons, List.any_nil, ofO_some, ofO_none, setMany, bindT, D.truth, D.isTy, D.isBox, bi_len_tup, bi_len_list, bi_len_str, bi_tuple_list, bi_tuple_tup, bi_list_list, bi_list_tup, bi_int_int, eq_int, ne_int, lt_int, le_int, gt_int, ge_int, Bool.or_false, Bool.or_true, Bool.false_or, Bool.true_or, Bool.and_true, Bool.true_and, Bool.not_true, Bool.not_false, Bool.and_false, Bool.false_and, Option.map_some, reduceCtorEq, and_true, true_and, and_self, eg]
    refine ⟨4, rfl, by omega, by omega, fun ws n4 hws hn4 => ?_⟩
    refine ⟨fs, z, ws, cs, rfl, hf, hcs, hcl, by omega, by omega, by omega, fun own n5 hown hn5 => ?_⟩
    simp only [wB, wS, wE, wA, wAnd, wOr, wAndT, wOrT, wP, wI, tru, eQ, exAt_eq, IAs.isNil, List.map_cons, List.map_nil, List.cons_append, List.nil_append, List.getElem?_cons_zero, List.getElem?_cons_succ, List.set_cons_zero, List.set_cons_succ, Bool.false_eq_true, if_false, if_true, if_pos, List.any_cons, List.any_nil, ofO_some, ofO_none, setMany, bindT, D.truth, D.isTy, D.isBox, bi_len_tup, bi_len_list, bi_len_str, bi_tuple_list, bi_tuple_tup, bi_list_list, bi_list_tup, bi_int_int, eq_int, ne_int, lt_int, le_int, gt_int, ge_int, Bool.or_false, Bool.or_true, Bool.false_or, Bool.true_or, Bool.and_true, Bool.true_and, Bool.not_true, Bool.not_false, Bool.and_false, Bool.false_and, Option.map_some, reduceCtorEq, and_true, true_and, and_self]
    refine ⟨own, rfl, hown, fun own' hown' => ?_⟩
    refine ⟨le_size (by omega), by decide, by decide, ?_⟩
    refine forL_rule (fun rest r n6 => ∃ (zs : List D) (y6 : Ent), zs.length + rest.length = 9 ∧ (∀ y ∈ zs, y.dp 14 = true) ∧ n6 + 90 * rest.length ≤ n5 + 630 ∧ r = [.sh .box, .sh (.int i), .sh (.tup (fs.map .str)), .sh (.list cs), .sh own, .ow (.list zs), y6, x7, x8, x9]) ?_ ?_ _ _ _ ⟨[own, own'], x6, by simp [iotaI], fun y hy => ?_, by simp [iotaI], rfl⟩
    · rintro d rest r n6 ⟨zs, y6, hl, hz, hn6, rfl⟩ k2 hk2
      rw [List.length_cons] at hl hn6
      simp only [wB, wS, wE, wA, wAnd, wOr, wAndT, wOrT, wP, wI, tru, eQ, exAt_eq, IAs.isNil, List.map_cons, List.map_nil, List.cons_append, List.nil_append, List.getElem?_cons_zero, List.getElem?_cons_succ, List.set_cons_zero, List.set_cons_succ, Bool.false_eq_true, if_false, if_true, if_pos, List.any_cons, List.any_nil, ofO_some, ofO_none, setMany, bindT, D.truth, D.isTy, D.isBox, bi_len_tup, bi_len_list, bi_len_str, bi_tuple_list, bi_tuple_tup, bi_list_list, bi_list_tup, bi_int_int, eq_int, ne_int, lt_int, le_int, gt_int, ge_int, Bool.or_false, Bool.or_true, Bool.false_or, Bool.true_or, Bool.and_true, Bool.true_and, Bool.not_true, Bool.not_false, Bool.and_false, Bool.false_and, Option.map_some, reduceCtorEq, and_true, true_and, and_self, owD]
      refine ⟨own, fs, rfl, nr_mono (by omega) own hown, hf, by omega, fun o n7 ho hn7 => ⟨?_, hk2 _ _ ⟨zs ++ [o], .sh d, ?_, fun y hy => ?_, by omega, rfl⟩⟩⟩
      · have := sizeLine_eq
        omega
      · rw [List.length_append, List.length_singleton]
        omega
      · rcases List.mem_append.mp hy with z | z
        · exact hz y z
        · rw [List.mem_singleton.mp z]; exact ho
    · rintro r n6 ⟨zs, y6, hl, hz, hn6, rfl⟩
      simp only [wB, wS, wE, wA, wAnd, wOr, wAndT, wOrT, wP, wI, tru, eQ, exAt_eq, IAs.isNil, List.map_cons, List.map_nil, List.cons_append, List.nil_append, List.getElem?_cons_zero, List.getElem?_cons_succ, List.set_cons_zero, List.set_cons_succ, Bool.false_eq_true, if_false, if_true, if_pos, List.any_cons, List.any_nil, ofO_some, ofO_none, setMany, bindT, D.truth, D.isTy, D.isBox, bi_len_tup, bi_len_list, bi_len_str, bi_tuple_list, bi_tuple_tup, bi_list_list, bi_list_tup, bi_int_int, eq_int, ne_int, lt_int, le_int, gt_int, ge_int, Bool.or_false, Bool.or_true, Bool.false_or, Bool.true_or, Bool.and_true, Bool.true_and, Bool.not_true, Bool.not_false, Bool.and_false, Bool.false_and, Option.map_some, reduceCtorEq, and_true, true_and, and_self, freeze, itemsD]
      refine forL_rule (fun rest r n7 => ∃ (y7 y8 y9 : Ent), (∀ y ∈ rest, y.dp 14 = true) ∧ n7 = n6 ∧ r = [.sh .box, .sh (.int i), .sh (.tup (fs.map .str)), .sh (.list cs), .sh own, .sh (.list zs), y6, y7, y8, y9]) ?_ ?_ _ _ _ ⟨x7, x8, x9, hz, rfl, rfl⟩
      · rintro d rest r n7 ⟨y7, y8, y9, hd, rfl, rfl⟩ k2 hk2
        have dd : d.dp 21 = true := dp_mono (by omega) d (hd d (List.mem_cons_self ..))
        simp only [wB, wS, wE, wA, wAnd, wOr, wAndT, wOrT, wP, wI, tru, eQ, exAt_eq, IAs.isNil, List.map_cons, List.map_nil, List.cons_append, List.nil_append, List.getElem?_cons_zero, List.getElem?_cons_succ, List.set_cons_zero, List.set_cons_succ, Bool.false_eq_true, if_false, if_true, if_pos, List.any_cons, List.any_nil, ofO_some, ofO_none, setMany, bindT, D.truth, D.isTy, D.isBox, bi_len_tup, bi_len_list, bi_len_str, bi_tuple_list, bi_tuple_tup, bi_list_list, bi_list_tup, bi_int_int, eq_int, ne_int, lt_int, le_int, gt_int, ge_int, Bool.or_false, Bool.or_true, Bool.false_or, Bool.true_or, Bool.and_true, Bool.true_and, Bool.not_true, Bool.not_false, Bool.and_false, Bool.false_and, Option.map_some, reduceCtorEq, and_true, true_and, and_self]
        refine ⟨fs, d, rfl, dd, ?_⟩
        simp only [wB, wS, wE, wA, wAnd, wOr, wAndT, wOrT, wP, wI, tru, eQ, exAt_eq, IAs.isNil, List.map_cons, List.map_nil, List.cons_append, List.nil_append, List.getElem?_cons_zero, List.getElem?_cons_succ, List.set_cons_zero, List.set_cons_succ, Bool.false_eq_true, if_false, if_true, if_pos, List.any_cons, List.any_nil, ofO_some, ofO_none, setMany, bindT, D.truth, D.isTy, D.isBox, bi_len_tup, bi_len_list, bi_len_str, bi_tuple_list, bi_tuple_tup, bi_list_list, bi_list_tup, bi_int_int, eq_int, ne_int, lt_int, le_int, gt_int, ge_int, Bool.or_false, Bool.or_true, Bool.false_or, Bool.true_or, Bool.and_true, Bool.true_and, Bool.not_true, Bool.not_false, Bool.and_false, Bool.false_and, Option.map_some, reduceCtorEq, and_true, true_and, and_self]
        refine ⟨fs, _, d, rfl, .inl rfl, dd, ?_⟩
        refine ⟨fs, _, d, rfl, .inr rfl, dd, ?_⟩
        refine ⟨le_size (by omega), le_size (by omega), .inr ⟨[kindD fs 20 d, kindD fs 20 d], [kindD fs 20 d, kindD fs 20 d], rfl, ?_⟩⟩
        have e : ([kindD fs 20 d, kindD fs 20 d] == [kindD fs 20 d, kindD fs 20 d]) = true := by rw [beq_iff_eq]
        rw [e]
        exact hk2 _ _ ⟨_, _, _, fun y hy => hd y (List.mem_cons_of_mem _ hy), rfl, rfl⟩
      · rintro r n7 ⟨y7, y8, y9, hd, rfl, rfl⟩
        refine hk _ _ ⟨i + 1, _, _, _, _, _, _, _, _, _, by omega, ?_, ?_, rfl⟩
        · have e1 : 6 - (i + 1) = j := by omega
          rw [e1]
          congr 1
        · simp only [List.length_nil] at hn6
          omega
    · rcases List.mem_cons.mp hy with e | e
      · rw [e]; exact dp_mono (by omega) _ (nr_dp _ hown)
      · rw [List.mem_singleton.mp e]; exact dp_mono (by omega) _ (nr_dp _ hown')
  · rintro r n1 ⟨i, x1, x2, x3, x4, x5, x6, x7, x8, x9, hi, er, hn, rfl⟩
    refine ⟨le_size (by omega), le_size (by omega), le_size (by omega), le_size (by omega), le_size (by omega), le_size (by omega), le_size (by omega), [("a" : Str), ("b" : Str)], _, _, rfl, .inl rfl, ?_, ?_⟩
    · simp [D.dp, D.dps]
    · rw [kind_last]
      exact .inl ⟨true, true, rfl, q _⟩
end
end Dl

set_option Elab.async false
set_option linter.all false
set_option maxRecDepth 100000
set_option maxHeartbeats 4000000
/-! The law's source of draws. -/
namespace Sg
open PySem PySem.Spec PyProof.Rows L2
def topS (i : Nat) : Stmt := PySem.Challenge.pw_stillgood_k00_kinds_or_none.main.body.getD i (.Pass ⟨0, 0, 0, 0⟩)
abbrev sTupled : Stmt := topS 4
abbrev sBox : Stmt := topS 26
abbrev sTake : Stmt := topS 27
abbrev sCells : Stmt := topS 28
abbrev sOf : Stmt := topS 29
abbrev sSame : Stmt := topS 31
abbrev sIsNum : Stmt := topS 32
abbrev sNames : Stmt := topS 33
/-- the built-in names that the module leaves alone -/
structure Blt (mg : Str → Option Value) : Prop where
  int : mg "int" = none
  abs : mg "abs" = none
  len : mg "len" = none
  list : mg "list" = none
  tuple : mg "tuple" = none
  dict : mg "dict" = none
  bool : mg "bool" = none
  str : mg "str" = none
  range : mg "range" = none
  enumerate : mg "enumerate" = none
  zip : mg "zip" = none
  all : mg "all" = none
  sum : mg "sum" = none
  isinstance : mg "isinstance" = none

/-! ### heaps -/
theorem same_upd {H : Hp} {p : Addr} {o : HO} (h : H p = none) : Same H (upd H p o) := fun b x e => by
  rw [upd_ne (ne_of_none e h)]
  exact e
/-- all that was tracked is as it was, but b -/
def But (b : Addr) (H H' : Hp) : Prop := ∀ c o, c ≠ b → H c = some o → H' c = some o
theorem But.refl {b : Addr} {H : Hp} : But b H H := fun _ _ _ e => e
theorem But.trans {b : Addr} {H H1 H2 : Hp} (a : But b H H1) (c : But b H1 H2) : But b H H2 := fun d o n e => c d o n (a d o n e)
theorem But.upd {b : Addr} {H : Hp} {o : HO} : But b H (upd H b o) := fun c u n e => by
  rw [upd_ne n]
  exact e
theorem But.of {b : Addr} {H H' : Hp} (s : Same H H') : But b H H' := fun c o _ e => s c o e
theorem But.free {b l : Addr} {H H' : Hp} (a : But b H H') (n : l ≠ b) (h : H' l = none) : H l = none := by
  cases q : H l with
  | none => rfl
  | some o =>
    rw [a l o n q] at h
    cases h
/-- the source of draws stands at b; it has made at most n mixed numbers -/
def BoxAt (H : Hp) (b : Addr) (n : Nat) : Prop := ∃ x y z : Int, H b = some (.lst [.int x, .int y, .int z]) ∧ 0 ≤ z ∧ z ≤ n
theorem BoxAt.same {H H' : Hp} {b : Addr} {n : Nat} (h : BoxAt H b n) (s : Same H H') : BoxAt H' b n := by
  obtain ⟨x, y, z, e, r⟩ := h
  exact ⟨x, y, z, s _ _ e, r⟩
theorem BoxAt.mono {H : Hp} {b : Addr} {n m : Nat} (h : BoxAt H b n) (l : n ≤ m) : BoxAt H b m := by
  obtain ⟨x, y, z, e, r1, r2⟩ := h
  exact ⟨x, y, z, e, r1, by omega⟩

section
variable {P : Program} {w : World} {K : PySem.W.Frag} {mg : Str → Option Value} {base : Heap}
/-! ### take -/
def spTake : Sp := fun vs H Q _ => ∃ (b : Addr) (n : Nat) (m : Int), vs = [.ref b, .int m] ∧ 0 < m ∧ m ≤ 10 ^ 31 ∧ n ≤ 1000000000 ∧ BoxAt H b n ∧
  ∀ (r x y z : Int), 0 ≤ r → r < m → 0 ≤ z → z ≤ (n + 1 : Nat) → Q (.int r) (upd H b (.lst [.int x, .int y, .int z]))
theorem scTake : FnScope ["_law_box_here", "_law_below", "_law_drawn", "_law_once", "_law_odd_here", "_law_twice"] ["_law_box_here", "_law_below"] (defScope sTake) := ⟨rfl, rfl, rfl, by decide +kernel, rfl, by decide +kernel, by decide +kernel⟩
theorem divw {m x : Int} (h : 0 < m) (h2 : m ≤ 10 ^ 31) : CDivW x m := by
  have e : (10 : Int) ^ 31 < 2 ^ 200 := by decide
  exact wide_div (b := 200) h (by omega) (by decide) (by decide)
theorem ok_take {f : Addr} {fd : FuncData} {k : Nat} (F : Fun K "_law_take" "_law_take" sTake f fd) (T : Blt mg) : FnOk P w K mg base CX0 (k + 1) f fd ["_law_box_here", "_law_below"] spTake := by
  refine F.ok scTake (fun vs H Q E h => ?_) (fun cdv A outer s H vs Q E hr h => ?_)
  · obtain ⟨b, n, m, rfl, _⟩ := h
    rfl
  · obtain ⟨b, n, m, rfl, hm, hm2, hn, ⟨x, y, z, hb, hz0, hzn⟩, q⟩ := h
    refine ⟨_, pss_cons (ps_if (pt_cmpR op_gt (pe_ix ix_list (pv 0) pe_int (fun _ _ => rfl)) pe_int (nomark _))
        (pss_cons (ps_set (i := 2) scTake.nd rfl (.inl rfl) (pe_op op_mod (pe_callTy call_int1 (by rfl) T.int boot_int (pa_cons (pe_ix ix_list (pv 0) pe_int (fun _ _ => rfl)) pa_nil)) (pv 1)))
        (pss_cons (ps_asg (pe_op op_fdivW (pe_ix ix_list (pv 0) pe_int (fun _ _ => rfl)) (pv 1)) (pg_sub (pv 0) pe_int set_list))
        (pss_one (ps_ret (pv 2))))) pss_nil)
      (pss_cons (ps_asg (pe_op op_add (pe_ix ix_list (pv 0) pe_int (fun _ _ => rfl)) pe_int) (pg_sub (pv 0) pe_int set_list))
      (pss_cons (ps_set (i := 3) scTake.nd rfl (.inl rfl) (pe_op op_mod (pe_callTy call_int1 (by rfl) T.int boot_int (pa_cons
          (pe_op op_mul (pe_op op_add (pe_ix ix_list (pv 0) pe_int (fun _ _ => rfl)) (pe_op op_mul pe_int (pe_ix ix_list (pv 0) pe_int (fun _ _ => rfl)))) (pe_op op_add pe_int (pe_ix ix_list (pv 0) pe_int (fun _ _ => rfl)))) pa_nil)) pe_int))
      (pss_cons (ps_set (i := 4) scTake.nd rfl (.inl rfl) (pe_op op_add (pe_op op_mod (pe_callTy call_int1 (by rfl) T.int boot_int (pa_cons (pv 3) pa_nil)) pe_int) pe_int))
      (pss_cons (ps_set (i := 5) scTake.nd rfl (.inl rfl) (pe_op op_mod (pe_callTy call_int1 (by rfl) T.int boot_int (pa_cons
          (pe_op op_mul (pe_op op_add (pe_op op_add (pv 3) (pe_ix ix_list (pv 0) pe_int (fun _ _ => rfl))) (pe_op op_fdiv (pe_ix ix_list (pv 0) pe_int (fun _ _ => rfl)) pe_int)) (pv 4)) pa_nil)) pe_int))
      (pss_one (ps_ret (pe_op op_mod (pe_callTy call_int1 (by rfl) T.int boot_int (pa_cons (pe_op op_fdiv (pe_op op_mod (pe_callTy call_int1 (by rfl) T.int boot_int (pa_cons
          (pe_op op_add (pe_op op_mul (pv 5) pe_int) (pv 3)) pa_nil)) pe_int) pe_int) pa_nil)) (pv 1)))))))), ?_⟩
    refine ⟨_, rfl, b, _, 0, .int x, rfl, rfl, SqL.of hb, rfl, x, 0, rfl, rfl, _, rfl, ite2 (fun c => ?_) (fun c => ?_)⟩
    · refine ⟨_, rfl, b, _, 0, .int x, rfl, rfl, SqL.of hb, rfl, .inl ⟨x, rfl, ?_⟩⟩
      refine ⟨_, rfl, x, m, rfl, rfl, hm, ?_⟩
      refine ⟨_, rfl, b, _, 0, .int x, rfl, rfl, SqL.of hb, rfl, _, rfl, x, m, rfl, rfl, divw hm hm2, ?_⟩
      refine ⟨_, rfl, b, _, 0, 0, rfl, rfl, hb, rfl, ?_⟩
      exact ⟨_, rfl, q _ _ _ _ (Int.emod_nonneg _ (by omega)) (Int.emod_lt_of_pos _ hm) hz0 (by omega)⟩
    · refine ⟨_, rfl, b, _, 2, .int z, rfl, rfl, SqL.of hb, rfl, z, 1, rfl, rfl, ?_⟩
      refine ⟨_, rfl, b, _, 2, 2, rfl, rfl, hb, rfl, ?_⟩
      have hb2 : upd H b (.lst [.int x, .int y, .int (z + 1)]) b = some (.lst [.int x, .int y, .int (z + 1)]) := upd_same
      have e2 : ([.int x, .int y, .int z] : List V).set 2 (.int (z + 1)) = [.int x, .int y, .int (z + 1)] := rfl
      rw [e2]
      refine ⟨_, rfl, b, _, 1, .int y, rfl, rfl, SqL.of hb2, rfl, _, rfl, b, _, 2, .int (z + 1), rfl, rfl, SqL.of hb2, rfl, 48271, z + 1, rfl, rfl, .inl ⟨by decide, by decide⟩, y, _, rfl, rfl, ?_⟩
      refine ⟨_, rfl, b, _, 2, .int (z + 1), rfl, rfl, SqL.of hb2, rfl, 39373, z + 1, rfl, rfl, _, _, rfl, rfl, .inr ⟨by omega, by omega⟩, .inl ⟨_, rfl, ?_⟩⟩
      refine ⟨_, 2147483647, rfl, rfl, (show (0 : Int) < 2147483647 by decide), ?_⟩
      refine ⟨_, rfl, .inl ⟨_, rfl, ?_⟩⟩
      refine ⟨_, 40009, rfl, rfl, (show (0 : Int) < 40009 by decide), _, 7, rfl, rfl, ?_⟩
      have h1 : 0 ≤ (y + 48271 * (z + 1)) * (39373 + (z + 1)) % 2147483647 % 40009 := Int.emod_nonneg _ (by decide)
      have h2 : (y + 48271 * (z + 1)) * (39373 + (z + 1)) % 2147483647 % 40009 < 40009 := Int.emod_lt_of_pos _ (by decide)
      refine ⟨_, rfl, _, rfl, b, _, 2, .int (z + 1), rfl, rfl, SqL.of hb2, rfl, _, z + 1, rfl, rfl, _, rfl, b, _, 1, .int y, rfl, rfl, SqL.of hb2, rfl, y, 1000003, rfl, rfl, ⟨by decide, by decide⟩, _, _, rfl, rfl, ?_⟩
      refine ⟨_, rfl, _, _, rfl, rfl, .inr ⟨by show (-(2 ^ 64) : Int) < (y + 48271 * (z + 1)) * (39373 + (z + 1)) % 2147483647 % 40009 + 7; omega, by show (y + 48271 * (z + 1)) * (39373 + (z + 1)) % 2147483647 % 40009 + 7 < 2 ^ 64; omega⟩, .inl ⟨_, rfl, _, 2147483629, rfl, rfl, (show (0 : Int) < 2147483629 by decide), ?_⟩⟩
      refine ⟨_, rfl, _, 48271, rfl, rfl, .inr ⟨by decide, by decide⟩, _, rfl, _, _, rfl, rfl, .inl ⟨_, rfl, _, 2147483587, rfl, rfl, (show (0 : Int) < 2147483587 by decide), _, 64, rfl, rfl, ⟨by decide, by decide⟩, .inl ⟨_, rfl, _, rfl, _, m, rfl, rfl, hm, ?_⟩⟩⟩
      exact q _ _ _ _ (Int.emod_nonneg _ (by omega)) (Int.emod_lt_of_pos _ hm) (by omega) (by omega)
end
theorem at_of_lt {α : Type} {xs : List α} {i : Int} (h0 : 0 ≤ i) (h1 : i < xs.length) : ∃ v ∈ xs, atI xs i = some v := by
  obtain ⟨j, rfl⟩ : ∃ j : Nat, i = j := ⟨i.toNat, by omega⟩
  have hj : j < xs.length := by omega
  exact ⟨xs[j], List.getElem_mem hj, atI_nat (List.getElem?_eq_getElem hj)⟩
section
variable {P : Program} {w : World} {K : PySem.W.Frag} {mg : Str → Option Value} {base : Heap}
/-! ### box -/
def spBox (K : PySem.W.Frag) : Sp := fun vs H Q _ => ∃ (a : Addr) (ns : List Int) (k : Int), vs = [.ref a, .int k] ∧ SqL K H a (ns.map V.int) ∧ 0 ≤ k ∧ k < ns.length ∧
  ∀ (p : Addr) (x y : Int), H p = none → Q (.ref p) (upd H p (.lst [.int x, .int y, .int 0]))
theorem scBox : FnScope ["_law_script", "_law_k", "_law_cell"] ["_law_script", "_law_k"] (defScope sBox) := ⟨rfl, rfl, rfl, by decide +kernel, rfl, by decide +kernel, by decide +kernel⟩
theorem ok_box {f : Addr} {fd : FuncData} {k : Nat} (F : Fun K "_law_box" "_law_box" sBox f fd) (T : Blt mg) : FnOk P w K mg base CX0 (k + 1) f fd ["_law_script", "_law_k"] (spBox K) := by
  refine F.ok scBox (fun vs H Q E h => ?_) (fun cdv A outer s H vs Q E hr h => ?_)
  · obtain ⟨a, ns, k, rfl, _⟩ := h
    rfl
  · obtain ⟨a, ns, k, rfl, hS, hk0, hk1, q⟩ := h
    refine ⟨_, pss_cons (ps_set (i := 2) scBox.nd rfl (.inl rfl) (pe_ifExp (pt_cmpR op_lt (pv 1) (pe_callB call_len_seq (by rfl) T.len boot_len (pa_cons (pv 0) pa_nil)) (nomark _)) (pe_ix ix_list (pv 0) (pv 1) (fun _ _ => rfl)) pe_int))
      (pss_one (ps_ret (pe_lst (pa_cons
        (pe_op op_mul (pe_callB call_abs (by rfl) T.abs (by decide +kernel) (pa_cons (pv 2) pa_nil)) (pe_callTy call_int1 (by rfl) T.int boot_int (pa_cons (pe_cmpR op_ge (pe_callB call_abs (by rfl) T.abs (by decide +kernel) (pa_cons (pv 2) pa_nil)) (pe_op op_pow pe_int pe_int) (nomark _)) pa_nil)))
        (pa_cons (pe_op op_add (pe_op op_add (pe_op op_mod (pe_callTy call_int1 (by rfl) T.int boot_int (pa_cons (pv 2) pa_nil)) pe_int) (pe_op op_mul pe_int (pv 1))) pe_int)
        (pa_cons pe_int pa_nil)))))), ?_⟩
    have hk2 : k < ((ns.map V.int).length : Int) := by rw [List.length_map]; exact hk1
    obtain ⟨v, hv, hat⟩ := at_of_lt hk0 hk2
    obtain ⟨c, hc, rfl⟩ := List.mem_map.mp hv
    refine ⟨_, rfl, _, rfl, a, _, rfl, .inl hS, k, _, rfl, rfl, _, rfl, ?_⟩
    rw [decide_eq_true hk2]
    refine iteT ⟨_, rfl, _, rfl, a, _, k, _, rfl, rfl, hS, hat, ?_⟩
    refine ⟨_, rfl, c, rfl, _, rfl, c, rfl, 10, 18, rfl, rfl, ⟨by decide, by decide, by decide⟩, _, _, rfl, rfl, .inr ⟨_, rfl, ?_⟩⟩
    refine ⟨_, _, rfl, rfl, .inr ?_, ?_⟩
    · constructor <;> (repeat' split) <;> decide
    · refine ⟨_, rfl, .inl ⟨c, rfl, c, 2305843009213693951, rfl, rfl, (show (0 : Int) < 2305843009213693951 by decide), ?_⟩⟩
      refine ⟨_, rfl, 39373, k, rfl, rfl, .inl ⟨by decide, by decide⟩, _, _, rfl, rfl, _, 58500, rfl, rfl, (by show 3 ≤ sizeLine; decide), fun p hp => ?_⟩
      exact q p _ _ hp
end
theorem cutV_ints (ns : List Int) (lo hi : Option Int) : ∃ ms : List Int, cutV (ns.map V.int) lo hi = ms.map V.int ∧ ms.length ≤ ns.length := by
  refine ⟨(ns.drop (HT.sIx ns.length 0 lo)).take (HT.sIx ns.length ns.length hi - HT.sIx ns.length 0 lo), ?_, ?_⟩
  · unfold cutV
    rw [List.length_map, List.map_take, List.map_drop]
  · rw [List.length_take, List.length_drop]
    omega
theorem cutV_hi (ns : List Int) (m : Nat) : cutV (ns.map V.int) none (some (m : Int)) = (ns.take m).map V.int := by
  unfold cutV
  rw [List.length_map, show HT.sIx ns.length ns.length (some (m : Int)) = min m ns.length from HT.sIx_nat ns.length ns.length m, HT.sIx_none]
  rw [List.map_take, List.drop_zero, Nat.sub_zero]
  by_cases h : m ≤ ns.length
  · rw [Nat.min_eq_left h]
  · rw [Nat.min_eq_right (by omega), List.take_of_length_le (by rw [List.length_map]; exact Nat.le_refl _), List.take_of_length_le (by rw [List.length_map]; omega)]
theorem cutV_lo (ns : List Int) (m : Nat) (hi : Option Int) (h : ns.length ≤ m) : cutV (ns.map V.int) (some (m : Int)) hi = [] := by
  unfold cutV
  rw [List.length_map, show HT.sIx ns.length 0 (some (m : Int)) = min m ns.length from HT.sIx_nat ns.length 0 m]
  rw [show min m ns.length = ns.length by omega, List.drop_of_length_le (by rw [List.length_map]; exact Nat.le_refl _), List.take_nil]
section
variable {P : Program} {w : World} {K : PySem.W.Frag} {mg : Str → Option Value} {base : Heap}
def spCells (K : PySem.W.Frag) : Sp := fun vs H Q _ => ∃ (a : Addr) (ns : List Int) (m : Nat), vs = [.ref a, .int m] ∧ SqL K H a (ns.map V.int) ∧ ns.length ≤ 63 ∧ 1 ≤ m ∧ m ≤ 10 ∧
  ∀ (p : Addr) (cs : List Int) (H' : Hp), H p = none → Same H H' → 1 ≤ cs.length → cs.length ≤ m → H' p = some (.lst (cs.map V.int)) → Q (.ref p) H'
theorem or_cells {H : Hp} {a : Addr} {ns : List Int} {m : Nat} {Q : VK} {σ : L2.St} (hS : SqL K H a (ns.map V.int)) (hm : 1 ≤ m)
    (key : ∀ (p : Addr) (cs : List Int) (H1 : Hp), H p = none → Same H H1 → H1 p = some (.lst (cs.map V.int)) → 1 ≤ cs.length → cs.length ≤ m → (m < ns.length → cs.length = m) → Q (.ref p) H1) :
    tOrT K (tCB (fun xs H Q => ∃ p ys, xs = [.ref p] ∧ (SqL K H p ys ∨ SqT K H p ys) ∧ ∀ l, H l = none → Q (.ref l) (upd H l (.lst ys))) (tCons (tSl (rSlL K) (tVar 0) tNoPart (tPart (tVar 1))) tNil)) (tLst (tCons (tC (.int 0)) tNil)) (some (.ref a) :: some (.int m) :: σ) H Q := by
  refine ⟨_, rfl, _, rfl, m, rfl, a, _, rfl, hS, fun c nc => ?_⟩
  rw [cutV_hi]
  refine ⟨c, _, rfl, .inl (SqL.of upd_same), fun p np => ?_⟩
  have npc : p ≠ c := fun e => by
    rw [e, upd_same] at np
    cases np
  have p0 : H p = none := by
    rw [upd_ne npc] at np
    exact np
  refine ⟨_, .inl ⟨_, SqL.of upd_same, rfl⟩, ite2 (fun h => ?_) (fun h => ?_)⟩
  · refine key p (ns.take m) _ p0 ((same_upd nc).trans (same_upd np)) upd_same ?_ ?_ ?_
    · cases ns with
      | nil =>
        rw [List.take_nil] at h
        exact absurd h (by decide)
      | cons x r =>
        rw [List.length_take, List.length_cons]
        omega
    · rw [List.length_take]
      omega
    · intro hb
      rw [List.length_take]
      omega
  · refine ⟨(by show 1 ≤ sizeLine; decide), fun r nr => ?_⟩
    have r1 : upd H c (.lst ((ns.take m).map V.int)) r = none := (same_upd np).free nr
    refine key r [0] _ ((same_upd nc).free r1) (((same_upd nc).trans (same_upd np)).trans (same_upd nr)) upd_same (Nat.le_refl _) hm ?_
    intro hb
    cases ns with
    | nil => exact absurd hb (by simp)
    | cons x r =>
      exfalso
      apply h
      cases m with
      | zero => omega
      | succ m => rfl
abbrev nCells : List Str := ["_law_script", "_law_most_so", "_law_cells_here", "_law_k", "_law_cell", "_law_at_so"]
theorem scCells : FnScope nCells ["_law_script", "_law_most_so"] (defScope sCells) := ⟨rfl, rfl, rfl, by decide +kernel, rfl, by decide +kernel, by decide +kernel⟩
theorem ok_cells {f : Addr} {fd : FuncData} {k : Nat} (F : Fun K "_law_cells" "_law_cells" sCells f fd) (T : Blt mg) : FnOk P w K mg base CX0 (k + 1) f fd ["_law_script", "_law_most_so"] (spCells K) := by
  refine F.ok scCells (fun vs H Q E h => ?_) (fun cdv A outer s H vs Q E hr h => ?_)
  · obtain ⟨a, ns, m, rfl, _⟩ := h
    rfl
  · obtain ⟨a, ns, m, rfl, hS, hlen, hm1, hm2, q⟩ := h
    refine ⟨_, pss_cons (ps_set (i := 2) scCells.nd rfl (.inl rfl) (pe_orT (pe_callTy call_list_of (by rfl) T.list boot_list (pa_cons (pe_slice sl_list (pv 0) po_none (po_some (pv 1))) pa_nil)) (pe_one (pe_lst (pa_cons pe_int pa_nil)))))
      (pss_cons (ps_for PassesOwn.never rfl (pi_enum (by rfl) T.enumerate (pa_cons (pe_slice sl_list (pv 0) (po_some (pv 1)) (po_some pe_int)) pa_nil)) (pg_tup rfl (pgs_cons (pg_name (i := 3) scCells.nd rfl (.inl rfl)) (pgs_cons (pg_name (i := 4) scCells.nd rfl (.inl rfl)) pgs_nil)))
        (pss_cons (ps_set (i := 5) scCells.nd rfl (.inl rfl) (pe_op op_mod (pe_callTy call_int1 (by rfl) T.int boot_int (pa_cons (pv 3) pa_nil)) (pv 1)))
        (pss_one (ps_asg (pe_op op_add (pe_ix ix_list (pv 2) (pv 5) (fun _ _ => rfl)) (pe_op op_mul (pv 4) (pe_op op_add (pv 3) pe_int))) (pg_sub (pv 2) (pv 5) set_list)))))
      (pss_one (ps_ret (pv 2)))), ?_⟩
    refine or_cells hS hm1 fun p cs H1 p0 s1 hp h1 h2 h3 => ?_
    -- enumerate(script[most:63])
    refine ⟨_, rfl, _, rfl, m, rfl, 63, rfl, a, _, rfl, s1.seq hS, fun c nc => ?_⟩
    have npc : p ≠ c := ne_of_none hp nc
    have c0 : H c = none := s1.free nc
    have s2 : Same H1 (upd H1 c (.lst (cutV (ns.map V.int) (some (m : Int)) (some 63)))) := same_upd nc
    obtain ⟨ms, ems, hms⟩ := cutV_ints ns (some (m : Int)) (some 63)
    refine ⟨c, _, rfl, SqL.of upd_same, for_it (walk_enum (xs := ms.map V.int)) (fun i σ H2 => ∃ (cs' : List Int) (y3 y4 y5 : Option V), σ = [some (.ref a), some (.int m), some (.ref p), y3, y4, y5] ∧ cs'.length = cs.length ∧ Same H H2 ∧ H2 c = some (.lst (ms.map V.int)) ∧ H2 p = some (.lst (cs'.map V.int))) ?_ ?_ ?_ ?_⟩
    · refine ⟨cs, none, none, none, rfl, rfl, s1.trans s2, by rw [upd_same, ems], by rw [upd_ne npc]; exact hp⟩
    · rintro i σ H2 hi ⟨cs', y3, y4, y5, rfl, hl, sm, hc2, hp2⟩
      exact SqL.of hc2
    · rintro i v σ H2 H3 hi ⟨cs', y3, y4, y5, rfl, hl, sm, hc2, hp2⟩ hy
      obtain ⟨Tp, x1, x2, rfl, nT, rfl, e1, e2⟩ := hy
      obtain rfl : x1 = .int (i : Nat) := (Option.some.inj e1).symm
      have hi' : i < ms.length := by rw [List.length_map] at hi; exact hi
      obtain ⟨z, rfl⟩ : ∃ z, x2 = V.int z := by
        have e2 : (ms.map V.int)[i]? = some x2 := e2
        rw [List.getElem?_map, List.getElem?_eq_getElem hi'] at e2
        exact ⟨_, (Option.some.inj e2).symm⟩
      have nTp : p ≠ Tp := ne_of_none hp2 nT
      have nTc : c ≠ Tp := ne_of_none hc2 nT
      have big : cs.length = m := by
        by_cases hb : m < ns.length
        · exact h3 hb
        · rw [cutV_lo ns m (some 63) (by omega)] at ems
          have : ms = [] := by
            cases ms with
            | nil => rfl
            | cons x r => cases ems
          rw [this] at hi'
          exact absurd hi' (by simp)
      have pT : (upd H2 Tp (.tup [.int (i : Nat), .int z])) p = some (.lst (cs'.map V.int)) := (upd_ne nTp).trans hp2
      refine ⟨Tp, _, rfl, SqT.of upd_same, rfl, _, _, rfl, _, _, rfl, rfl, ?_⟩
      refine ⟨_, rfl, .inl ⟨_, rfl, _, rfl, _, _, rfl, rfl, (by show (0 : Int) < m; omega), ?_⟩⟩
      have r0 : (0 : Int) ≤ (i : Int) % m := Int.emod_nonneg _ (by omega)
      have r1 : (i : Int) % m < ((cs'.map V.int).length : Int) := by
        rw [List.length_map, hl, big]
        exact Int.emod_lt_of_pos _ (by omega)
      obtain ⟨v, hv, hat⟩ := at_of_lt r0 r1
      obtain ⟨d, hd, rfl⟩ := List.mem_map.mp hv
      refine ⟨_, rfl, _, rfl, p, _, _, _, rfl, rfl, SqL.of pT, hat, _, rfl, _, rfl, _, 2, rfl, rfl, z, _, rfl, rfl, .inr ⟨by show (-(2 ^ 64) : Int) < (i : Int) + 2; omega, by show (i : Int) + 2 < 2 ^ 64; omega⟩, _, _, rfl, rfl, ?_⟩
      obtain ⟨j, hj⟩ : ∃ j, ixN (cs'.map V.int).length ((i : Int) % m) = some j := ⟨((i : Int) % m).toNat, by unfold ixN; rw [if_pos r0, if_pos r1]⟩
      refine ⟨_, rfl, _, rfl, p, _, _, j, rfl, rfl, pT, hj, ?_⟩
      refine ⟨cs'.set j (d + z * ((i : Int) + 2)), _, _, _, rfl, by rw [List.length_set]; exact hl, ?_, ?_, ?_⟩
      · intro b o e
        rw [upd_ne (ne_of_none e p0)]
        exact same_upd nT _ _ (sm _ _ e)
      · rw [upd_ne npc.symm, upd_ne nTc]
        exact hc2
      · rw [upd_same, ← List.map_set]
    · rintro σ H2 ⟨cs', y3, y4, y5, rfl, hl, sm, hc2, hp2⟩
      exact ⟨_, rfl, q p cs' H2 p0 sm (by omega) (by omega) hp2⟩
end
end Sg

set_option Elab.async false
set_option linter.all false
set_option maxRecDepth 100000
set_option maxHeartbeats 4000000
/-! From the defs that are walked by hand to those over data, and back. -/
namespace Dl
open PySem PySem.Spec PyProof.Rows L2
section
variable {P : Program} {w : World} {K : PySem.W.Frag} {mg : Str → Option Value} {base : Heap} {k : Nat} {f : Addr} {fd : FuncData} {ps : List Str} {sp : Sp}
theorem fn_up (F : FnOk P w K mg base CX0 k f fd ps sp) : FnOk P w K mg base (L2.CX P w) k f fd ps sp :=
  ⟨F.len, fun A outer s H args us vs Q E hr he hb hv hs => codeAny_mono (F.run A outer s H args us vs Q E hr he hb hv hs) fun r s' hq => by
    cases r with
    | error e => exact False.elim hq
    | ok fl => cases fl <;> exact hq⟩
theorem fn_dn (F : FnOk P w K mg base (L2.CX P w) k f fd ps sp) : FnOk P w K mg base CX0 k f fd ps (fun vs H Q _ => sp vs H Q fun _ _ _ => False) :=
  ⟨fun vs H Q _ q => F.len vs H Q _ q, fun A outer s H args us vs Q E hr he hb hv hs => codeAny_mono (F.run A outer s H args us vs Q _ hr he hb hv hs) fun r s' hq => by
    cases r with
    | error e =>
      obtain ⟨_, _, _, _, _, _, _, _, _, _, _, _, z⟩ := hq
      exact z.elim
    | ok fl => cases fl <;> exact hq⟩
theorem take_fs (F : FnOk P w K mg base CX0 k f fd ["_law_box_here", "_law_below"] Sg.spTake) : FnOk P w K mg base (L2.CX P w) k f fd ["_law_box_here", "_law_below"] (spOf ⟨K, mg⟩ fsTake) := by
  refine (fn_up F).imp fun vs H Q E h => ?_
  obtain ⟨b, G, n, ds, Qd, Ex, ok, r, ⟨m, rfl, h1, h2, h3, q⟩, x, kk⟩ := h
  cases r with
  | cons r1 r =>
    cases r with
    | cons r2 r =>
      cases r
      cases r1 with
      | @box p hb =>
        have e2 := rp_int_inv r2
        subst e2
        obtain ⟨gp, x0, y0, z0, e, hz0, hzn⟩ := ok.box p hb
        refine ⟨p, n, m, rfl, h1, by omega, by unfold B9 at h3; omega, ⟨x0, y0, z0, e, hz0, hzn⟩, fun r x y z r0 r1 z0 z1 => ?_⟩
        refine kk (.int r) G _ (n + 1) (.int r) ⟨Same.refl _, fun a o ea => ?_, fun a o na ea => ?_, fun a o ea => .inl ea, fun p' hp' => ?_⟩ (.int r) (q r r0 r1)
        · have na : a ≠ p := fun e => by rw [e, gp] at ea; cases ea
          rw [upd_ne na]
          exact ok.sub a o ea
        · have na : a ≠ p := fun e => na (by rw [e, hb])
          rw [upd_ne na]
          exact ea
        · rw [hb] at hp'
          cases hp'
          exact ⟨x, y, z, upd_same, z0, z1⟩
end
end Dl

set_option Elab.async false
set_option linter.all false
set_option maxRecDepth 100000
set_option maxHeartbeats 4000000
/-! The defs over data, one by one. -/
namespace Dl
open PySem PySem.Spec PyProof.Rows L2
open Sg (topS)
def gvK : Str → Option D := fun x => List.lookup x [(("LETTERS" : Str), D.str lettersS), (("LONGEST" : Str), D.int 8), (("MOST_PARAMETERS" : Str), D.int 2)]
def gdK : Str → Option (List (Str × D)) := fun x => List.lookup x [(("SIZES" : Str), sizesD)]
abbrev SmT := Str → Str → Option (List Str × FS)
def noSm : SmT := fun _ _ => none
def tabOf (l : List (Str × FS)) (sm : SmT) : Tab := { fs := fun g => l.lookup g, gv := gvK, gd := gdK, sm := sm }
def DF (K : PySem.W.Frag) (mg : Str → Option Value) (nm : Str) (st : Stmt) (f : Addr) : Prop := mg nm = some (.ref f) ∧ ∃ fd, Fun K nm nm st f fd
theorem lookup_mem {l : List (Str × FS)} {g : Str} {gs : FS} (h : l.lookup g = some gs) : ∃ p ∈ l, p.1 = g ∧ p.2 = gs := by
  induction l with
  | nil => cases h
  | cons p r ih =>
    obtain ⟨a, b⟩ := p
    rw [List.lookup_cons] at h
    split at h
    · rename_i e
      cases h
      exact ⟨(a, _), List.mem_cons_self .., (beq_iff_eq.mp e).symm, rfl⟩
    · obtain ⟨p, hp, q⟩ := ih h
      exact ⟨p, List.mem_cons_of_mem _ hp, q⟩
section
variable {P : Program} {w : World} {K : PySem.W.Frag} {mg : Str → Option Value} {base : Heap}
theorem md_of {l : List (Str × FS)} {sm : SmT} (M : Md w K mg (tabOf [] noSm)) : Md w K mg (tabOf l sm) := ⟨M.blt, M.gv, M.gd⟩
theorem fn_q {x : Str} {st : Stmt} {N ps mu : List Str} {k : Nat} {fs : FS} (d : ∃ f, DF K mg x st f) (S : FnScope N ps (defScope st)) (bnd : ∀ f fd, Fun K x x st f fd → Binds K fd ps []) (l : List (Str × FS)) (sm : SmT) (ir : ISs) (hir : cSs 60 ⟨N, defScope st, mu⟩ (defBody st) = ir)
    (M : Md w K mg (tabOf [] noSm)) (hl : ∀ p ∈ l, FnQ P w K mg base k p.1 p.2) (hsm : ∀ C m ps gs, sm C m = some (ps, gs) → SmQ P w K mg base k C m ps gs) (hp : ps.length ≤ N.length)
    (hlen : ∀ ds n Q E, fs ds n Q E → ds.length = ps.length) (hbody : ∀ ds n Q E, fs ds n Q E → wB (tabOf l sm) ir (ent0 N ds) n (eQ Q E)) : FnQ P w K mg base (k + 1) x fs := by
  obtain ⟨f, g, fd, F⟩ := d
  refine ⟨f, fd, ps, g, F.kp, bnd f fd F, fn_ok F S (tabOf l sm) 60 mu ir hir (md_of M) (fun g gs h => ?_) hsm hp hlen hbody⟩
  obtain ⟨p, hp, rfl, rfl⟩ := lookup_mem h
  exact hl p hp
theorem no_sm {k : Nat} : ∀ C m ps gs, noSm C m = some (ps, gs) → SmQ P w K mg base k C m ps gs := fun _ _ _ _ h => nomatch h
theorem all0 {k : Nat} : ∀ p ∈ ([] : List (Str × FS)), FnQ P w K mg base k p.1 p.2 := fun p h => by cases h
theorem allc {k j : Nat} {x : Str} {fs : FS} {l : List (Str × FS)} (h : FnQ P w K mg base j x fs) (hj : j ≤ k) (g : ∀ p ∈ l, FnQ P w K mg base k p.1 p.2) : ∀ p ∈ (x, fs) :: l, FnQ P w K mg base k p.1 p.2 := fun p hp => by
  rcases List.mem_cons.mp hp with e | e
  · rw [e]; exact h.mono hj
  · exact g p e
theorem sc_is_number : FnScope ["thing"] ["thing"] (defScope (topS 5)) := ⟨rfl, rfl, rfl, by decide +kernel, rfl, by decide +kernel, by decide +kernel⟩
theorem ir_is_number_ok : cSs 60 ⟨["thing"], defScope (topS 5), []⟩ (defBody (topS 5)) = ir_is_number := by kernel_rfl
theorem sc_is_name : FnScope ["thing", "sign"] ["thing"] (defScope (topS 6)) := ⟨rfl, rfl, rfl, by decide +kernel, rfl, by decide +kernel, by decide +kernel⟩
theorem ir_is_name_ok : cSs 60 ⟨["thing", "sign"], defScope (topS 6), []⟩ (defBody (topS 6)) = ir_is_name := by kernel_rfl
theorem sc_are_names : FnScope ["thing", "least", "most", "name"] ["thing", "least", "most"] (defScope (topS 7)) := ⟨rfl, rfl, rfl, by decide +kernel, rfl, by decide +kernel, by decide +kernel⟩
theorem ir_are_names_ok : cSs 60 ⟨["thing", "least", "most", "name"], defScope (topS 7), []⟩ (defBody (topS 7)) = ir_are_names := by kernel_rfl
theorem sc_is_term : FnScope ["thing", "names"] ["thing", "names"] (defScope (topS 18)) := ⟨rfl, rfl, rfl, by decide +kernel, rfl, by decide +kernel, by decide +kernel⟩
theorem ir_is_term_ok : cSs 60 ⟨["thing", "names"], defScope (topS 18), []⟩ (defBody (topS 18)) = ir_is_term := by kernel_rfl
theorem sc_is_change : FnScope ["fields", "thing", "names", "value"] ["fields", "thing", "names"] (defScope (topS 19)) := ⟨rfl, rfl, rfl, by decide +kernel, rfl, by decide +kernel, by decide +kernel⟩
theorem ir_is_change_ok : cSs 60 ⟨["fields", "thing", "names", "value"], defScope (topS 19), []⟩ (defBody (topS 19)) = ir_is_change := by kernel_rfl
theorem sc_is_body : FnScope ["fields", "thing", "names", "there", "word", "changes", "term", "field", "value", "name", "body", "one"] ["fields", "thing", "names", "there"] (defScope (topS 20)) := ⟨rfl, rfl, rfl, by decide +kernel, rfl, by decide +kernel, by decide +kernel⟩
theorem ir_is_body_ok : cSs 60 ⟨["fields", "thing", "names", "there", "word", "changes", "term", "field", "value", "name", "body", "one"], defScope (topS 20), []⟩ (defBody (topS 20)) = ir_is_body := by kernel_rfl
theorem sc_is_kind_of : FnScope ["fields", "thing", "name", "parameters", "body"] ["fields", "thing"] (defScope (topS 21)) := ⟨rfl, rfl, rfl, by decide +kernel, rfl, by decide +kernel, by decide +kernel⟩
theorem ir_is_kind_of_ok : cSs 60 ⟨["fields", "thing", "name", "parameters", "body"], defScope (topS 21), []⟩ (defBody (topS 21)) = ir_is_kind_of := by kernel_rfl
theorem sc_tupled : FnScope ["thing", "part"] ["thing"] (defScope (topS 4)) := ⟨rfl, rfl, rfl, by decide +kernel, rfl, by decide +kernel, by decide +kernel⟩
theorem ir_tupled_ok : cSs 60 ⟨["thing", "part"], defScope (topS 4), []⟩ (defBody (topS 4)) = ir_tupled := by kernel_rfl
theorem sc_law_is_number : FnScope ["_law_matter"] ["_law_matter"] (defScope (topS 32)) := ⟨rfl, rfl, rfl, by decide +kernel, rfl, by decide +kernel, by decide +kernel⟩
theorem ir_law_is_number_ok : cSs 60 ⟨["_law_matter"], defScope (topS 32), []⟩ (defBody (topS 32)) = ir_law_is_number := by kernel_rfl
theorem sc_law_is_name : FnScope ["_law_matter", "_law_sign"] ["_law_matter"] (defScope (topS 37)) := ⟨rfl, rfl, rfl, by decide +kernel, rfl, by decide +kernel, by decide +kernel⟩
theorem ir_law_is_name_ok : cSs 60 ⟨["_law_matter", "_law_sign"], defScope (topS 37), []⟩ (defBody (topS 37)) = ir_law_is_name := by kernel_rfl
theorem sc_law_is_term : FnScope ["_law_matter", "_law_names_so"] ["_law_matter", "_law_names_so"] (defScope (topS 38)) := ⟨rfl, rfl, rfl, by decide +kernel, rfl, by decide +kernel, by decide +kernel⟩
theorem ir_law_is_term_ok : cSs 60 ⟨["_law_matter", "_law_names_so"], defScope (topS 38), []⟩ (defBody (topS 38)) = ir_law_is_term := by kernel_rfl
theorem sc_law_is_change : FnScope ["_law_fields_so", "_law_matter", "_law_names_so", "_law_bit"] ["_law_fields_so", "_law_matter", "_law_names_so"] (defScope (topS 39)) := ⟨rfl, rfl, rfl, by decide +kernel, rfl, by decide +kernel, by decide +kernel⟩
theorem ir_law_is_change_ok : cSs 60 ⟨["_law_fields_so", "_law_matter", "_law_names_so", "_law_bit"], defScope (topS 39), []⟩ (defBody (topS 39)) = ir_law_is_change := by kernel_rfl
theorem sc_law_is_say : FnScope ["_law_fields_so", "_law_matter", "_law_names_so", "_law_own"] ["_law_fields_so", "_law_matter", "_law_names_so"] (defScope (topS 40)) := ⟨rfl, rfl, rfl, by decide +kernel, rfl, by decide +kernel, by decide +kernel⟩
theorem ir_law_is_say_ok : cSs 60 ⟨["_law_fields_so", "_law_matter", "_law_names_so", "_law_own"], defScope (topS 40), []⟩ (defBody (topS 40)) = ir_law_is_say := by kernel_rfl
theorem sc_law_is_body : FnScope ["_law_fields_so", "_law_matter", "_law_names_so", "_law_sure_so", "_law_word_so", "_law_size_so", "_law_own"] ["_law_fields_so", "_law_matter", "_law_names_so", "_law_sure_so"] (defScope (topS 41)) := ⟨rfl, rfl, rfl, by decide +kernel, rfl, by decide +kernel, by decide +kernel⟩
theorem ir_law_is_body_ok : cSs 60 ⟨["_law_fields_so", "_law_matter", "_law_names_so", "_law_sure_so", "_law_word_so", "_law_size_so", "_law_own"], defScope (topS 41), []⟩ (defBody (topS 41)) = ir_law_is_body := by kernel_rfl
theorem sc_law_is_kind : FnScope ["_law_fields_so", "_law_matter", "_law_names_so", "_law_own"] ["_law_fields_so", "_law_matter"] (defScope (topS 42)) := ⟨rfl, rfl, rfl, by decide +kernel, rfl, by decide +kernel, by decide +kernel⟩
theorem ir_law_is_kind_ok : cSs 60 ⟨["_law_fields_so", "_law_matter", "_law_names_so", "_law_own"], defScope (topS 42), []⟩ (defBody (topS 42)) = ir_law_is_kind := by kernel_rfl
theorem sc_law_of : FnScope ["_law_box_here", "_law_some"] ["_law_box_here", "_law_some"] (defScope (topS 29)) := ⟨rfl, rfl, rfl, by decide +kernel, rfl, by decide +kernel, by decide +kernel⟩
theorem ir_law_of_ok : cSs 60 ⟨["_law_box_here", "_law_some"], defScope (topS 29), []⟩ (defBody (topS 29)) = ir_law_of := by kernel_rfl
theorem sc_law_names : FnScope ["_law_box_here", "_law_many", "_law_found", "_law_k", "_law_word_so", "_law_lap"] ["_law_box_here", "_law_many"] (defScope (topS 33)) := ⟨rfl, rfl, rfl, by decide +kernel, rfl, by decide +kernel, by decide +kernel⟩
theorem ir_law_names_ok : cSs 60 ⟨["_law_box_here", "_law_many", "_law_found", "_law_k", "_law_word_so", "_law_lap"], defScope (topS 33), ["_law_found"]⟩ (defBody (topS 33)) = ir_law_names := by kernel_rfl
theorem sc_law_say : FnScope ["_law_box_here", "_law_fields_so", "_law_terms_so", "_law_words_so", "_law_changes_so", "_law_lap", "_law_key_so", "_law_sort_so", "_law_own"] ["_law_box_here", "_law_fields_so", "_law_terms_so", "_law_words_so"] (defScope (topS 34)) := ⟨rfl, rfl, rfl, by decide +kernel, rfl, by decide +kernel, by decide +kernel⟩
theorem ir_law_say_ok : cSs 60 ⟨["_law_box_here", "_law_fields_so", "_law_terms_so", "_law_words_so", "_law_changes_so", "_law_lap", "_law_key_so", "_law_sort_so", "_law_own"], defScope (topS 34), ["_law_changes_so"]⟩ (defBody (topS 34)) = ir_law_say := by kernel_rfl
theorem sc_law_body : FnScope ["_law_box_here", "_law_fields_so", "_law_terms_so", "_law_sure_so", "_law_tests_so", "_law_lets_so", "_law_words_so", "_law_name_so", "_law_spot", "_law_field_so", "_law_rest", "_law_first_so", "_law_head", "_law_one_so", "_law_key_so", "_law_other_so"] ["_law_box_here", "_law_fields_so", "_law_terms_so", "_law_sure_so", "_law_tests_so", "_law_lets_so", "_law_words_so"] (defScope (topS 35)) := ⟨rfl, rfl, rfl, by decide +kernel, rfl, by decide +kernel, by decide +kernel⟩
theorem ir_law_body_ok : cSs 60 ⟨["_law_box_here", "_law_fields_so", "_law_terms_so", "_law_sure_so", "_law_tests_so", "_law_lets_so", "_law_words_so", "_law_name_so", "_law_spot", "_law_field_so", "_law_rest", "_law_first_so", "_law_head", "_law_one_so", "_law_key_so", "_law_other_so"], defScope (topS 35), []⟩ (defBody (topS 35)) = ir_law_body := by kernel_rfl
theorem sc_law_kind : FnScope ["_law_box_here", "_law_fields_so", "_law_name_so", "_law_words_so", "_law_lets_so", "_law_most_tests", "_law_consts_so", "_law_names_so", "_law_terms_so", "_law_body_so"] ["_law_box_here", "_law_fields_so", "_law_name_so", "_law_words_so", "_law_lets_so", "_law_most_tests", "_law_consts_so"] (defScope (topS 36)) := ⟨rfl, rfl, rfl, by decide +kernel, rfl, by decide +kernel, by decide +kernel⟩
theorem ir_law_kind_ok : cSs 60 ⟨["_law_box_here", "_law_fields_so", "_law_name_so", "_law_words_so", "_law_lets_so", "_law_most_tests", "_law_consts_so", "_law_names_so", "_law_terms_so", "_law_body_so"], defScope (topS 36), []⟩ (defBody (topS 36)) = ir_law_kind := by kernel_rfl
theorem sc_law_lists : FnScope ["_law_matter", "_law_key", "_law_bit"] ["_law_matter"] (defScope (topS 30)) := ⟨rfl, rfl, rfl, by decide +kernel, rfl, by decide +kernel, by decide +kernel⟩
theorem ir_law_lists_ok : cSs 60 ⟨["_law_matter", "_law_key", "_law_bit"], defScope (topS 30), []⟩ (defBody (topS 30)) = ir_law_lists := by kernel_rfl
theorem sc_law_odd : FnScope ["_law_box_here", "_law_names_so", "_law_some"] ["_law_box_here", "_law_names_so"] (defScope (topS 43)) := ⟨rfl, rfl, rfl, by decide +kernel, rfl, by decide +kernel, by decide +kernel⟩
theorem ir_law_odd_ok : cSs 60 ⟨["_law_box_here", "_law_names_so", "_law_some"], defScope (topS 43), ["_law_some"]⟩ (defBody (topS 43)) = ir_law_odd := by kernel_rfl
theorem sc_law_bent : FnScope ["_law_box_here", "_law_matter", "_law_names_so", "_law_deep_so", "_law_k", "_law_sort_so", "_law_inner"] ["_law_box_here", "_law_matter", "_law_names_so", "_law_deep_so"] (defScope (topS 44)) := ⟨rfl, rfl, rfl, by decide +kernel, rfl, by decide +kernel, by decide +kernel⟩
theorem ir_law_bent_ok : cSs 60 ⟨["_law_box_here", "_law_matter", "_law_names_so", "_law_deep_so", "_law_k", "_law_sort_so", "_law_inner"], defScope (topS 44), []⟩ (defBody (topS 44)) = ir_law_bent := by kernel_rfl
theorem q_is_number (M : Md w K mg (tabOf [] noSm)) (d : ∃ f, DF K mg "is_number" (topS 5) f)  : FnQ P w K mg base 1 "is_number" fsNum := fn_q (mu := []) d sc_is_number (fun f fd F => F.binds fun _ _ _ _ _ _ us hl => match us, hl with | [_], _ => rfl) [] noSm ir_is_number ir_is_number_ok M all0 no_sm (by decide) (fun ds n Q E h => by obtain ⟨_, rfl, _⟩ := h; rfl) (fun ds n Q E h => b_is_number h)
theorem q_is_name (M : Md w K mg (tabOf [] noSm)) (d : ∃ f, DF K mg "is_name" (topS 6) f)  : FnQ P w K mg base 1 "is_name" fsName := fn_q (mu := []) d sc_is_name (fun f fd F => F.binds fun _ _ _ _ _ _ us hl => match us, hl with | [_], _ => rfl) [] noSm ir_is_name ir_is_name_ok M all0 no_sm (by decide) (fun ds n Q E h => by obtain ⟨_, rfl, _⟩ := h; rfl) (fun ds n Q E h => b_is_name rfl rfl h)
theorem q_are_names (M : Md w K mg (tabOf [] noSm)) (d : ∃ f, DF K mg "are_names" (topS 7) f) (h0 : FnQ P w K mg base 1 "is_name" fsName) : FnQ P w K mg base 2 "are_names" fsNames := fn_q (mu := []) d sc_are_names (fun f fd F => F.binds fun _ _ _ _ _ _ us hl => match us, hl with | [_, _, _], _ => rfl) [(("is_name" : Str), fsName)] noSm ir_are_names ir_are_names_ok M (allc h0 (by decide) all0) no_sm (by decide) (fun ds n Q E h => by obtain ⟨_, _, _, _, rfl, _⟩ := h; rfl) (fun ds n Q E h => b_are_names rfl h)
theorem q_is_term (M : Md w K mg (tabOf [] noSm)) (d : ∃ f, DF K mg "is_term" (topS 18) f) (h0 : FnQ P w K mg base 1 "is_number" fsNum) : FnQ P w K mg base 2 "is_term" fsTerm := fn_q (mu := []) d sc_is_term (fun f fd F => F.binds fun _ _ _ _ _ _ us hl => match us, hl with | [_, _], _ => rfl) [(("is_number" : Str), fsNum)] noSm ir_is_term ir_is_term_ok M (allc h0 (by decide) all0) no_sm (by decide) (fun ds n Q E h => by obtain ⟨_, _, rfl, _⟩ := h; rfl) (fun ds n Q E h => b_is_term rfl h)
theorem q_is_change (M : Md w K mg (tabOf [] noSm)) (d : ∃ f, DF K mg "is_change" (topS 19) f) (h0 : FnQ P w K mg base 2 "is_term" fsTerm) : FnQ P w K mg base 3 "is_change" fsChange := fn_q (mu := []) d sc_is_change (fun f fd F => F.binds fun _ _ _ _ _ _ us hl => match us, hl with | [_, _, _], _ => rfl) [(("is_term" : Str), fsTerm)] noSm ir_is_change ir_is_change_ok M (allc h0 (by decide) all0) no_sm (by decide) (fun ds n Q E h => by obtain ⟨_, _, _, _, rfl, _⟩ := h; rfl) (fun ds n Q E h => b_is_change rfl h)
theorem q_is_body (M : Md w K mg (tabOf [] noSm)) (d : ∃ f, DF K mg "is_body" (topS 20) f) (h0 : FnQ P w K mg base 1 "is_name" fsName) (h1 : FnQ P w K mg base 2 "is_term" fsTerm) (h2 : FnQ P w K mg base 3 "is_change" fsChange) : ∀ m, FnQ P w K mg base (3 + m + 1) "is_body" (fsBody m)
  | 0 => fn_q (mu := []) d sc_is_body (fun f fd F => F.binds fun _ _ _ _ _ _ us hl => match us, hl with | [_, _, _, _], _ => rfl) [(("is_name" : Str), fsName), (("is_term" : Str), fsTerm), (("is_change" : Str), fsChange)] noSm ir_is_body ir_is_body_ok M (allc h0 (by omega) (allc h1 (by omega) (allc h2 (by omega) all0))) no_sm (by decide) (fun ds n Q E h => by obtain ⟨_, _, _, _, rfl, _⟩ := h; rfl) (fun ds n Q E h => b_is_body 0 rfl rfl rfl (fun j e => nomatch e) rfl h)
  | m + 1 => fn_q (mu := []) d sc_is_body (fun f fd F => F.binds fun _ _ _ _ _ _ us hl => match us, hl with | [_, _, _, _], _ => rfl) [(("is_body" : Str), fsBody m), (("is_name" : Str), fsName), (("is_term" : Str), fsTerm), (("is_change" : Str), fsChange)] noSm ir_is_body ir_is_body_ok M (allc (q_is_body M d h0 h1 h2 m) (by omega) (allc h0 (by omega) (allc h1 (by omega) (allc h2 (by omega) all0)))) no_sm (by decide) (fun ds n Q E h => by obtain ⟨_, _, _, _, rfl, _⟩ := h; rfl) (fun ds n Q E h => b_is_body (m + 1) rfl rfl rfl (fun j e => by cases e; rfl) rfl h)
theorem q_is_kind_of (M : Md w K mg (tabOf [] noSm)) (d : ∃ f, DF K mg "is_kind_of" (topS 21) f) (h0 : FnQ P w K mg base 1 "is_name" fsName) (h1 : FnQ P w K mg base 2 "are_names" fsNames) (h2 : FnQ P w K mg base 24 "is_body" (fsBody 20)) : FnQ P w K mg base 25 "is_kind_of" (fsKind 20) := fn_q (mu := []) d sc_is_kind_of (fun f fd F => F.binds fun _ _ _ _ _ _ us hl => match us, hl with | [_, _], _ => rfl) [(("is_name" : Str), fsName), (("are_names" : Str), fsNames), (("is_body" : Str), (fsBody 20))] noSm ir_is_kind_of ir_is_kind_of_ok M (allc h0 (by decide) (allc h1 (by decide) (allc h2 (by decide) all0))) no_sm (by decide) (fun ds n Q E h => by obtain ⟨_, _, rfl, _⟩ := h; rfl) (fun ds n Q E h => b_is_kind_of 20 (by decide) rfl rfl rfl rfl h)
theorem q_tupled (M : Md w K mg (tabOf [] noSm)) (d : ∃ f, DF K mg "tupled" (topS 4) f)  : ∀ m, FnQ P w K mg base (0 + m + 1) "tupled" (fsTupled m)
  | 0 => fn_q (mu := []) d sc_tupled (fun f fd F => F.binds fun _ _ _ _ _ _ us hl => match us, hl with | [_], _ => rfl) [] noSm ir_tupled ir_tupled_ok M all0 no_sm (by decide) (fun ds n Q E h => by obtain ⟨_, rfl, _⟩ := h; rfl) (fun ds n Q E h => b_tupled 0 (fun j e => nomatch e) h)
  | m + 1 => fn_q (mu := []) d sc_tupled (fun f fd F => F.binds fun _ _ _ _ _ _ us hl => match us, hl with | [_], _ => rfl) [(("tupled" : Str), fsTupled m)] noSm ir_tupled ir_tupled_ok M (allc (q_tupled M d  m) (by omega) all0) no_sm (by decide) (fun ds n Q E h => by obtain ⟨_, rfl, _⟩ := h; rfl) (fun ds n Q E h => b_tupled (m + 1) (fun j e => by cases e; rfl) h)
theorem q_law_is_number (M : Md w K mg (tabOf [] noSm)) (d : ∃ f, DF K mg "_law_is_number" (topS 32) f)  : FnQ P w K mg base 1 "_law_is_number" fsNum := fn_q (mu := []) d sc_law_is_number (fun f fd F => F.binds fun _ _ _ _ _ _ us hl => match us, hl with | [_], _ => rfl) [] noSm ir_law_is_number ir_law_is_number_ok M all0 no_sm (by decide) (fun ds n Q E h => by obtain ⟨_, rfl, _⟩ := h; rfl) (fun ds n Q E h => b_law_is_number h)
theorem q_law_is_name (M : Md w K mg (tabOf [] noSm)) (d : ∃ f, DF K mg "_law_is_name" (topS 37) f)  : FnQ P w K mg base 1 "_law_is_name" fsName := fn_q (mu := []) d sc_law_is_name (fun f fd F => F.binds fun _ _ _ _ _ _ us hl => match us, hl with | [_], _ => rfl) [] noSm ir_law_is_name ir_law_is_name_ok M all0 no_sm (by decide) (fun ds n Q E h => by obtain ⟨_, rfl, _⟩ := h; rfl) (fun ds n Q E h => b_law_is_name h)
theorem q_law_is_term (M : Md w K mg (tabOf [] noSm)) (d : ∃ f, DF K mg "_law_is_term" (topS 38) f) (h0 : FnQ P w K mg base 1 "_law_is_number" fsNum) : FnQ P w K mg base 2 "_law_is_term" fsTermL := fn_q (mu := []) d sc_law_is_term (fun f fd F => F.binds fun _ _ _ _ _ _ us hl => match us, hl with | [_, _], _ => rfl) [(("_law_is_number" : Str), fsNum)] noSm ir_law_is_term ir_law_is_term_ok M (allc h0 (by decide) all0) no_sm (by decide) (fun ds n Q E h => by obtain ⟨_, _, rfl, _⟩ := h; rfl) (fun ds n Q E h => b_law_is_term rfl h)
theorem q_law_is_change (M : Md w K mg (tabOf [] noSm)) (d : ∃ f, DF K mg "_law_is_change" (topS 39) f) (h0 : FnQ P w K mg base 2 "_law_is_term" fsTermL) : FnQ P w K mg base 3 "_law_is_change" fsChangeL := fn_q (mu := []) d sc_law_is_change (fun f fd F => F.binds fun _ _ _ _ _ _ us hl => match us, hl with | [_, _, _], _ => rfl) [(("_law_is_term" : Str), fsTermL)] noSm ir_law_is_change ir_law_is_change_ok M (allc h0 (by decide) all0) no_sm (by decide) (fun ds n Q E h => by obtain ⟨_, _, _, _, rfl, _⟩ := h; rfl) (fun ds n Q E h => b_law_is_change rfl h)
theorem q_law_is_say (M : Md w K mg (tabOf [] noSm)) (d : ∃ f, DF K mg "_law_is_say" (topS 40) f) (h0 : FnQ P w K mg base 1 "_law_is_name" fsName) (h1 : FnQ P w K mg base 3 "_law_is_change" fsChangeL) : FnQ P w K mg base 4 "_law_is_say" fsSayL := fn_q (mu := []) d sc_law_is_say (fun f fd F => F.binds fun _ _ _ _ _ _ us hl => match us, hl with | [_, _, _], _ => rfl) [(("_law_is_name" : Str), fsName), (("_law_is_change" : Str), fsChangeL)] noSm ir_law_is_say ir_law_is_say_ok M (allc h0 (by decide) (allc h1 (by decide) all0)) no_sm (by decide) (fun ds n Q E h => by obtain ⟨_, _, _, _, _, _, rfl, _⟩ := h; rfl) (fun ds n Q E h => b_law_is_say rfl rfl h)
theorem q_law_is_body (M : Md w K mg (tabOf [] noSm)) (d : ∃ f, DF K mg "_law_is_body" (topS 41) f) (h0 : FnQ P w K mg base 1 "_law_is_name" fsName) (h1 : FnQ P w K mg base 2 "_law_is_term" fsTermL) (h2 : FnQ P w K mg base 4 "_law_is_say" fsSayL) : ∀ m, FnQ P w K mg base (4 + m + 1) "_law_is_body" (fsBodyL m)
  | 0 => fn_q (mu := []) d sc_law_is_body (fun f fd F => F.binds fun _ _ _ _ _ _ us hl => match us, hl with | [_, _, _, _], _ => rfl) [(("_law_is_name" : Str), fsName), (("_law_is_term" : Str), fsTermL), (("_law_is_say" : Str), fsSayL)] noSm ir_law_is_body ir_law_is_body_ok M (allc h0 (by omega) (allc h1 (by omega) (allc h2 (by omega) all0))) no_sm (by decide) (fun ds n Q E h => by obtain ⟨_, _, _, _, rfl, _⟩ := h; rfl) (fun ds n Q E h => b_law_is_body 0 rfl rfl rfl (fun j e => nomatch e) h)
  | m + 1 => fn_q (mu := []) d sc_law_is_body (fun f fd F => F.binds fun _ _ _ _ _ _ us hl => match us, hl with | [_, _, _, _], _ => rfl) [(("_law_is_body" : Str), fsBodyL m), (("_law_is_name" : Str), fsName), (("_law_is_term" : Str), fsTermL), (("_law_is_say" : Str), fsSayL)] noSm ir_law_is_body ir_law_is_body_ok M (allc (q_law_is_body M d h0 h1 h2 m) (by omega) (allc h0 (by omega) (allc h1 (by omega) (allc h2 (by omega) all0)))) no_sm (by decide) (fun ds n Q E h => by obtain ⟨_, _, _, _, rfl, _⟩ := h; rfl) (fun ds n Q E h => b_law_is_body (m + 1) rfl rfl rfl (fun j e => by cases e; rfl) h)
theorem q_law_is_kind (M : Md w K mg (tabOf [] noSm)) (d : ∃ f, DF K mg "_law_is_kind" (topS 42) f) (h0 : FnQ P w K mg base 1 "_law_is_name" fsName) (h1 : FnQ P w K mg base 25 "_law_is_body" (fsBodyL 20)) : FnQ P w K mg base 26 "_law_is_kind" (fsKindL 20) := fn_q (mu := []) d sc_law_is_kind (fun f fd F => F.binds fun _ _ _ _ _ _ us hl => match us, hl with | [_, _], _ => rfl) [(("_law_is_name" : Str), fsName), (("_law_is_body" : Str), (fsBodyL 20))] noSm ir_law_is_kind ir_law_is_kind_ok M (allc h0 (by decide) (allc h1 (by decide) all0)) no_sm (by decide) (fun ds n Q E h => by obtain ⟨_, _, rfl, _⟩ := h; rfl) (fun ds n Q E h => b_law_is_kind 20 (by decide) rfl rfl h)
theorem q_law_of (M : Md w K mg (tabOf [] noSm)) (d : ∃ f, DF K mg "_law_of" (topS 29) f) (h0 : FnQ P w K mg base 1 "_law_take" fsTake) : FnQ P w K mg base 2 "_law_of" fsOf := fn_q (mu := []) d sc_law_of (fun f fd F => F.binds fun _ _ _ _ _ _ us hl => match us, hl with | [_, _], _ => rfl) [(("_law_take" : Str), fsTake)] noSm ir_law_of ir_law_of_ok M (allc h0 (by decide) all0) no_sm (by decide) (fun ds n Q E h => by obtain ⟨_, _, rfl, _⟩ := h; rfl) (fun ds n Q E h => b_law_of rfl h)
theorem q_law_names (M : Md w K mg (tabOf [] noSm)) (d : ∃ f, DF K mg "_law_names" (topS 33) f) (h0 : FnQ P w K mg base 1 "_law_take" fsTake) (h1 : FnQ P w K mg base 2 "_law_of" fsOf) : FnQ P w K mg base 3 "_law_names" fsNamesG := fn_q (mu := ["_law_found"]) d sc_law_names (fun f fd F => F.binds fun _ _ _ _ _ _ us hl => match us, hl with | [_, _], _ => rfl) [(("_law_take" : Str), fsTake), (("_law_of" : Str), fsOf)] noSm ir_law_names ir_law_names_ok M (allc h0 (by decide) (allc h1 (by decide) all0)) no_sm (by decide) (fun ds n Q E h => by obtain ⟨_, rfl, _⟩ := h; rfl) (fun ds n Q E h => b_law_names rfl rfl h)
theorem q_law_say (M : Md w K mg (tabOf [] noSm)) (d : ∃ f, DF K mg "_law_say" (topS 34) f) (h0 : FnQ P w K mg base 1 "_law_take" fsTake) (h1 : FnQ P w K mg base 2 "_law_of" fsOf) : FnQ P w K mg base 3 "_law_say" fsSayG := fn_q (mu := ["_law_changes_so"]) d sc_law_say (fun f fd F => F.binds fun _ _ _ _ _ _ us hl => match us, hl with | [_, _, _, _], _ => rfl) [(("_law_take" : Str), fsTake), (("_law_of" : Str), fsOf)] noSm ir_law_say ir_law_say_ok M (allc h0 (by decide) (allc h1 (by decide) all0)) no_sm (by decide) (fun ds n Q E h => by obtain ⟨_, _, _, rfl, _⟩ := h; rfl) (fun ds n Q E h => b_law_say rfl rfl h)
theorem q_law_body (M : Md w K mg (tabOf [] noSm)) (d : ∃ f, DF K mg "_law_body" (topS 35) f) (h0 : FnQ P w K mg base 1 "_law_take" fsTake) (h1 : FnQ P w K mg base 2 "_law_of" fsOf) (h2 : FnQ P w K mg base 3 "_law_say" fsSayG) : ∀ m, FnQ P w K mg base (3 + m + 1) "_law_body" (fsBodyG m)
  | 0 => fn_q (mu := []) d sc_law_body (fun f fd F => F.binds fun _ _ _ _ _ _ us hl => match us, hl with | [_, _, _, _, _, _, _], _ => rfl) [(("_law_take" : Str), fsTake), (("_law_of" : Str), fsOf), (("_law_say" : Str), fsSayG)] noSm ir_law_body ir_law_body_ok M (allc h0 (by omega) (allc h1 (by omega) (allc h2 (by omega) all0))) no_sm (by decide) (fun ds n Q E h => by obtain ⟨_, _, _, _, _, _, rfl, _⟩ := h; rfl) (fun ds n Q E h => b_law_body 0 rfl rfl rfl (fun j e => nomatch e) h)
  | m + 1 => fn_q (mu := []) d sc_law_body (fun f fd F => F.binds fun _ _ _ _ _ _ us hl => match us, hl with | [_, _, _, _, _, _, _], _ => rfl) [(("_law_body" : Str), fsBodyG m), (("_law_take" : Str), fsTake), (("_law_of" : Str), fsOf), (("_law_say" : Str), fsSayG)] noSm ir_law_body ir_law_body_ok M (allc (q_law_body M d h0 h1 h2 m) (by omega) (allc h0 (by omega) (allc h1 (by omega) (allc h2 (by omega) all0)))) no_sm (by decide) (fun ds n Q E h => by obtain ⟨_, _, _, _, _, _, rfl, _⟩ := h; rfl) (fun ds n Q E h => b_law_body (m + 1) rfl rfl rfl (fun j e => by cases e; rfl) h)
theorem q_law_kind (M : Md w K mg (tabOf [] noSm)) (d : ∃ f, DF K mg "_law_kind" (topS 36) f) (h0 : FnQ P w K mg base 1 "_law_take" fsTake) (h1 : FnQ P w K mg base 2 "_law_of" fsOf) (h2 : FnQ P w K mg base 8 "_law_body" (fsBodyG 4)) : FnQ P w K mg base 9 "_law_kind" fsKindG := fn_q (mu := []) d sc_law_kind (fun f fd F => F.binds fun _ _ _ _ _ _ us hl => match us, hl with | [_, _, _, _, _, _, _], _ => rfl) [(("_law_take" : Str), fsTake), (("_law_of" : Str), fsOf), (("_law_body" : Str), (fsBodyG 4))] noSm ir_law_kind ir_law_kind_ok M (allc h0 (by decide) (allc h1 (by decide) (allc h2 (by decide) all0))) no_sm (by decide) (fun ds n Q E h => by obtain ⟨_, _, _, _, rfl, _⟩ := h; rfl) (fun ds n Q E h => b_law_kind rfl rfl rfl h)
theorem q_law_lists (M : Md w K mg (tabOf [] noSm)) (d : ∃ f, DF K mg "_law_lists" (topS 30) f)  : ∀ m, FnQ P w K mg base (0 + m + 1) "_law_lists" (fsLists m)
  | 0 => fn_q (mu := []) d sc_law_lists (fun f fd F => F.binds fun _ _ _ _ _ _ us hl => match us, hl with | [_], _ => rfl) [] noSm ir_law_lists ir_law_lists_ok M all0 no_sm (by decide) (fun ds n Q E h => by obtain ⟨_, rfl, _⟩ := h; rfl) (fun ds n Q E h => b_law_lists 0 (fun j e => nomatch e) h)
  | m + 1 => fn_q (mu := []) d sc_law_lists (fun f fd F => F.binds fun _ _ _ _ _ _ us hl => match us, hl with | [_], _ => rfl) [(("_law_lists" : Str), fsLists m)] noSm ir_law_lists ir_law_lists_ok M (allc (q_law_lists M d  m) (by omega) all0) no_sm (by decide) (fun ds n Q E h => by obtain ⟨_, rfl, _⟩ := h; rfl) (fun ds n Q E h => b_law_lists (m + 1) (fun j e => by cases e; rfl) h)
theorem q_law_odd (M : Md w K mg (tabOf [] noSm)) (d : ∃ f, DF K mg "_law_odd" (topS 43) f) (h0 : FnQ P w K mg base 2 "_law_of" fsOf) : FnQ P w K mg base 3 "_law_odd" fsOdd := fn_q (mu := ["_law_some"]) d sc_law_odd (fun f fd F => F.binds fun _ _ _ _ _ _ us hl => match us, hl with | [_, _], _ => rfl) [(("_law_of" : Str), fsOf)] noSm ir_law_odd ir_law_odd_ok M (allc h0 (by decide) all0) no_sm (by decide) (fun ds n Q E h => by obtain ⟨_, rfl, _⟩ := h; rfl) (fun ds n Q E h => b_law_odd rfl h)
theorem q_law_bent (M : Md w K mg (tabOf [] noSm)) (d : ∃ f, DF K mg "_law_bent" (topS 44) f) (h0 : FnQ P w K mg base 1 "_law_take" fsTake) (h1 : FnQ P w K mg base 3 "_law_odd" fsOdd) : ∀ m, FnQ P w K mg base (3 + m + 1) "_law_bent" (fsBent m)
  | 0 => fn_q (mu := []) d sc_law_bent (fun f fd F => F.binds fun _ _ _ _ _ _ us hl => match us, hl with | [_, _, _, _], _ => rfl) [(("_law_take" : Str), fsTake), (("_law_odd" : Str), fsOdd)] noSm ir_law_bent ir_law_bent_ok M (allc h0 (by omega) (allc h1 (by omega) all0)) no_sm (by decide) (fun ds n Q E h => by obtain ⟨_, _, rfl, _⟩ := h; rfl) (fun ds n Q E h => b_law_bent 0 rfl rfl (fun j e => nomatch e) h)
  | m + 1 => fn_q (mu := []) d sc_law_bent (fun f fd F => F.binds fun _ _ _ _ _ _ us hl => match us, hl with | [_, _, _, _], _ => rfl) [(("_law_bent" : Str), fsBent m), (("_law_take" : Str), fsTake), (("_law_odd" : Str), fsOdd)] noSm ir_law_bent ir_law_bent_ok M (allc (q_law_bent M d h0 h1 m) (by omega) (allc h0 (by omega) (allc h1 (by omega) all0))) no_sm (by decide) (fun ds n Q E h => by obtain ⟨_, _, rfl, _⟩ := h; rfl) (fun ds n Q E h => b_law_bent (m + 1) rfl rfl (fun j e => by cases e; rfl) h)
end
end Dl

set_option Elab.async false
set_option linter.all false
set_option maxRecDepth 100000
set_option maxHeartbeats 4000000
/-! The static method, the things told by hand, the law's last defs. -/
namespace Dl
open PySem PySem.Spec PyProof.Rows L2
open Sg (topS)
def inClass (s : Stmt) (j : Nat) : Stmt := match s with
  | .ClassDef _ _ _ b _ _ _ _ _ _ _ => b.getD j (.Pass ⟨0, 0, 0, 0⟩)
  | _ => .Pass ⟨0, 0, 0, 0⟩
def stKind : Stmt := inClass (topS 22) 1
def ir_is_kind : ISs := .cons (.ret (.call "is_kind_of" (.cons (.call "tupled" (.cons (.v 0) .nil)) (.cons (.v 1) .nil)))) .nil
theorem sc_is_kind : FnScope ["fields", "thing"] ["fields", "thing"] (defScope stKind) := ⟨rfl, rfl, rfl, by decide +kernel, rfl, by decide +kernel, by decide +kernel⟩
theorem ir_is_kind_ok : cSs 60 ⟨["fields", "thing"], defScope stKind, []⟩ (defBody stKind) = ir_is_kind := by kernel_rfl
theorem dp1_strs (fs : List Str) : (D.tup (fs.map .str)).dp 1 = true ∧ (D.list (fs.map .str)).dp 1 = true := by
  have h : ∀ x ∈ fs.map D.str, x.dp 0 = true := fun x hx => by
    obtain ⟨z, _, rfl⟩ := List.mem_map.mp hx
    rw [D.dp]
  exact ⟨dp_of_tup h, dp_of_list h⟩
theorem b_is_kind {T : Tab} {n : Nat} {Q : D → Nat → Prop} {E : QX} {ds : List D} (f1 : T.fs "is_kind_of" = some (fsKind 20)) (f2 : T.fs "tupled" = some (fsTupled 1)) (h : fsIsKind 20 ds n Q E) : wB T ir_is_kind (ent0 ["fields", "thing"] ds) n (eQ Q E) := by
  obtain ⟨fs, x, d, rfl, hx, hd, q⟩ := h
  unfold ir_is_kind ent0
  simp only [wB, wS, wE, wA, wAnd, wOr, wAndT, wOrT, wP, wI, tru, eQ, exAt_eq, IAs.isNil, List.map_cons, List.map_nil, List.cons_append, List.nil_append, List.getElem?_cons_zero, List.getElem?_cons_succ, List.set_cons_zero, List.set_cons_succ, Bool.false_eq_true, if_false, if_true, if_pos, List.any_cons, List.any_nil, ofO_some, ofO_none, setMany, bindT, D.truth, D.isTy, D.isBox, bi_len_tup, bi_len_list, bi_len_str, bi_tuple_list, bi_tuple_tup, bi_list_list, bi_list_tup, bi_int_int, eq_int, ne_int, lt_int, le_int, gt_int, ge_int, Bool.or_false, Bool.or_true, Bool.false_or, Bool.true_or, Bool.and_true, Bool.true_and, Bool.not_true, Bool.not_false, Bool.and_false, Bool.false_and, Option.map_some, reduceCtorEq, and_true, true_and, and_self, f1, f2, List.length_cons, List.length_nil, List.replicate]
  rcases hx with rfl | rfl
  · refine ⟨_, rfl, (dp1_strs fs).1, fs, d, ?_, hd, q⟩
    rw [tupD, tups_strs]
  · refine ⟨_, rfl, (dp1_strs fs).2, fs, d, ?_, hd, q⟩
    rw [tupD, tups_strs]
section
variable {P : Program} {w : World} {K : PySem.W.Frag} {mg : Str → Option Value} {base : Heap}
/-- what the head tells of the static method -/
def SF (K : PySem.W.Frag) (mg : Str → Option Value) : Prop := ∃ (Ca f : Addr) (fd : FuncData), mg "Book" = some (.ref Ca) ∧ Stat K Ca "is_kind" f ∧ Fun K "is_kind" "Book.is_kind" stKind f fd
theorem sm_kind (M : Md w K mg (tabOf [] noSm)) (d : SF K mg) (h1 : FnQ P w K mg base 25 "is_kind_of" (fsKind 20)) (h2 : ∀ m, FnQ P w K mg base (0 + m + 1) "tupled" (fsTupled m)) : SmQ P w K mg base 26 "Book" "is_kind" kws2 (fsIsKind 20) := by
  obtain ⟨Ca, f, fd, g, S, F⟩ := d
  have bn : Binds K fd kws2 [] := F.binds fun _ _ _ _ _ _ us hl => match us, hl with
    | [_, _], _ => rfl
  refine ⟨Ca, f, fd, g, S, bn, ⟨fun s us ws _ hu hw => ?_, fun h1 h2 => h2⟩, fn_ok F sc_is_kind (tabOf [(("is_kind_of" : Str), fsKind 20), (("tupled" : Str), fsTupled 1)] noSm) 60 [] ir_is_kind ir_is_kind_ok (md_of M) (fun g gs h => ?_) no_sm (by decide) (fun ds n Q E h => by obtain ⟨_, _, _, rfl, _⟩ := h; rfl) (fun ds n Q E h => b_is_kind rfl rfl h)⟩
  · obtain ⟨oc, od, kV, doc, pm, an, cdv, ct, osl, rfl, lk, hcd⟩ := F.ex
    match us, hu, ws, hw with
    | [], _, [_, _], _ => exact .of_eq rfl
  · obtain ⟨p, hp, rfl, rfl⟩ := lookup_mem h
    exact allc h1 (by decide) (allc (h2 1) (by decide) all0) p hp
def smK : SmT := fun C m => if C = "Book" ∧ m = "is_kind" then some (kws2, fsIsKind 20) else none
theorem smK_ok {k : Nat} (hk : 26 ≤ k) (h : SmQ P w K mg base 26 "Book" "is_kind" kws2 (fsIsKind 20)) : ∀ C m ps gs, smK C m = some (ps, gs) → SmQ P w K mg base k C m ps gs := fun C m ps gs e => by
  unfold smK at e
  split at e
  · rename_i c
    obtain ⟨rfl, rfl⟩ := c
    cases e
    exact h.mono hk
  · cases e
theorem hasK {l : List (Str × FS)} : HasK (tabOf l smK) := by
  show smK "Book" "is_kind" = _
  unfold smK
  rw [if_pos ⟨rfl, rfl⟩]
theorem sc_law_same : FnScope ["_law_got", "_law_due", "_law_key", "_law_mine", "_law_its"] ["_law_got", "_law_due"] (defScope (topS 31)) := ⟨rfl, rfl, rfl, by decide +kernel, rfl, by decide +kernel, by decide +kernel⟩
theorem ir_law_same_ok : cSs 60 ⟨["_law_got", "_law_due", "_law_key", "_law_mine", "_law_its"], defScope (topS 31), []⟩ (defBody (topS 31)) = ir_law_same := by kernel_rfl
theorem q_law_same (M : Md w K mg (tabOf [] noSm)) (d : ∃ f, DF K mg "_law_same" (topS 31) f) : FnQ P w K mg base 2 "_law_same" fsSame := by
  have h0 : FnQ P w K mg base 1 "_law_same" fsSame0 := fn_q (mu := []) d sc_law_same (fun f fd F => F.binds fun _ _ _ _ _ _ us hl => match us, hl with | [_, _], _ => rfl) [] noSm ir_law_same ir_law_same_ok M all0 no_sm (by decide) (fun ds n Q E h => by obtain ⟨_, _, rfl, _⟩ := h; rfl) (fun ds n Q E h => b_law_same0 h)
  refine fn_q (mu := []) d sc_law_same (fun f fd F => F.binds fun _ _ _ _ _ _ us hl => match us, hl with | [_, _], _ => rfl) [(("_law_same" : Str), fsSame0)] noSm ir_law_same ir_law_same_ok M (allc h0 (by decide) all0) no_sm (by decide) (fun ds n Q E h => ?_) (fun ds n Q E h => ?_)
  · rcases h with ⟨_, _, rfl, _⟩ | ⟨_, _, rfl, _⟩ <;> rfl
  · rcases h with h | h
    · exact b_law_same0 h
    · exact b_law_same1 rfl h
theorem sc_hand : FnScope handN [] (defScope (topS 45)) := ⟨rfl, rfl, rfl, by decide +kernel, rfl, by decide +kernel, by decide +kernel⟩
theorem ir_hand_ok : cSs 60 ⟨handN, defScope (topS 45), ["_law_right_here", "_law_wrong"]⟩ (defBody (topS 45)) = ir_law_by_hand_right := by kernel_rfl
theorem q_hand (M : Md w K mg (tabOf [] noSm)) (d : ∃ f, DF K mg "_law_by_hand_right" (topS 45) f) (hk : SmQ P w K mg base 26 "Book" "is_kind" kws2 (fsIsKind 20)) (h1 : FnQ P w K mg base 2 "_law_same" fsSame) : FnQ P w K mg base 27 "_law_by_hand_right" fsHand :=
  fn_q (mu := ["_law_right_here", "_law_wrong"]) d sc_hand (fun f fd F => F.binds fun _ _ _ _ _ _ us hl => match us, hl with | [], _ => rfl) [(("_law_same" : Str), fsSame)] smK ir_law_by_hand_right ir_hand_ok M (allc h1 (by decide) all0) (smK_ok (by decide) hk) (by decide) (fun ds n Q E h => by obtain ⟨rfl, _⟩ := h; rfl) (fun ds n Q E h => b_law_by_hand rfl hasK h)
abbrev rightN : List Str := ["_law_box_here", "_law_turn", "_law_names_so", "_law_consts_so", "_law_own", "_law_some", "_law_lap", "_law_matter", "_law_due", "_law_told_so"]
theorem sc_right : FnScope rightN ["_law_box_here"] (defScope (topS 46)) := ⟨rfl, rfl, rfl, by decide +kernel, rfl, by decide +kernel, by decide +kernel⟩
theorem ir_right_ok : cSs 60 ⟨rightN, defScope (topS 46), ["_law_some"]⟩ (defBody (topS 46)) = ir_law_right := by kernel_rfl
theorem q_right (M : Md w K mg (tabOf [] noSm)) (d : ∃ f, DF K mg "_law_right" (topS 46) f) (hk : SmQ P w K mg base 26 "Book" "is_kind" kws2 (fsIsKind 20)) (h1 : FnQ P w K mg base 27 "_law_by_hand_right" fsHand) (h2 : FnQ P w K mg base 3 "_law_names" fsNamesG) (h3 : FnQ P w K mg base 1 "_law_take" fsTake) (h4 : FnQ P w K mg base 9 "_law_kind" fsKindG) (h5 : FnQ P w K mg base 10 "_law_lists" (fsLists 9)) (h6 : FnQ P w K mg base 12 "_law_bent" (fsBent 8)) (h7 : FnQ P w K mg base 26 "_law_is_kind" (fsKindL 20)) (h8 : FnQ P w K mg base 2 "_law_same" fsSame) : FnQ P w K mg base 28 "_law_right" fsRight :=
  fn_q (mu := ["_law_some"]) d sc_right (fun f fd F => F.binds fun _ _ _ _ _ _ us hl => match us, hl with | [_], _ => rfl) [(("_law_by_hand_right" : Str), fsHand), (("_law_names" : Str), fsNamesG), (("_law_take" : Str), fsTake), (("_law_kind" : Str), fsKindG), (("_law_lists" : Str), fsLists 9), (("_law_bent" : Str), fsBent 8), (("_law_is_kind" : Str), fsKindL 20), (("_law_same" : Str), fsSame)] smK ir_law_right ir_right_ok M (allc h1 (by decide) (allc h2 (by decide) (allc h3 (by decide) (allc h4 (by decide) (allc h5 (by decide) (allc h6 (by decide) (allc h7 (by decide) (allc h8 (by decide) all0)))))))) (smK_ok (by decide) hk) (by decide) (fun ds n Q E h => by obtain ⟨rfl, _⟩ := h; rfl) (fun ds n Q E h => b_law_right rfl rfl rfl rfl rfl rfl rfl rfl hasK h)
end
end Dl
namespace Sg
open PySem PySem.Spec PyProof.Rows L2
abbrev sLaw : Stmt := topS 47
def spRight : Sp := fun vs H Q _ => ∃ b : Addr, vs = [.ref b] ∧ BoxAt H b 0 ∧ ∀ H', But b H H' → Q (.bl true) H'
section
variable {P : Program} {w : World} {K : PySem.W.Frag} {mg : Str → Option Value} {base : Heap}
theorem right_dn {f : Addr} {fd : FuncData} {k : Nat} {ps : List Str} (F : FnOk P w K mg base (L2.CX P w) k f fd ps (Dl.spOf ⟨K, mg⟩ Dl.fsRight)) : FnOk P w K mg base CX0 k f fd ps spRight := by
  refine (Dl.fn_dn F).imp fun vs H Q E h => ?_
  obtain ⟨b, rfl, ⟨x, y, z, e, hz⟩, q⟩ := h
  refine ⟨some b, fun _ => none, 0, [.box], fun d _ => d = .bl true, fun _ _ => False, ⟨fun a o h => (nomatch h), fun p hp => ?_⟩, .cons (.box rfl) .nil, ⟨rfl, by decide, fun _ => rfl⟩, fun cls d G' H' n' xx st rx z => z, fun v G' H' n' d st rr qq => ?_⟩
  · cases hp
    exact ⟨rfl, x, y, z, e, hz⟩
  · subst qq
    rw [Dl.rp_bl_inv rr]
    exact q H' fun c o nc ec => st.kp c o (fun e => nc (Option.some.inj e)) ec
def spLaw (K : PySem.W.Frag) : Sp := fun vs H Q _ => ∃ (a : Addr) (ns : List Int), vs = [.ref a] ∧ SqL K H a (ns.map V.int) ∧ ns.length ≤ 63 ∧ ∀ H', Q (.bl true) H'
abbrev nLaw : List Str := ["_law_script", "_law_cells_here", "_law_k"]
theorem scLaw : FnScope nLaw ["_law_script"] (defScope sLaw) := ⟨rfl, rfl, rfl, by decide +kernel, rfl, by decide +kernel, by decide +kernel⟩
theorem ok_law {psR : List Str} {f fC fB fR : Addr} {fd fdC fdB fdR : FuncData} (F : Fun K "law" "law" sLaw f fd) (T : Blt mg)
    (GC : FnOk P w K mg base CX0 1 fC fdC ["_law_script", "_law_most_so"] (spCells K)) (gC : mg "_law_cells" = some (.ref fC)) (kC : PySem.W.keepIn K (.ref fC) = true) (bC : Binds K fdC ["_law_script", "_law_most_so"] [])
    (GB : FnOk P w K mg base CX0 1 fB fdB ["_law_script", "_law_k"] (spBox K)) (gB : mg "_law_box" = some (.ref fB)) (kB : PySem.W.keepIn K (.ref fB) = true) (bB : Binds K fdB ["_law_script", "_law_k"] [])
    (GR : FnOk P w K mg base CX0 28 fR fdR psR spRight) (gR : mg "_law_right" = some (.ref fR)) (kR : PySem.W.keepIn K (.ref fR) = true) (bR : Binds K fdR psR []) :
    FnOk P w K mg base CX0 29 f fd ["_law_script"] (spLaw K) := by
  refine F.ok scLaw (fun vs H Q E h => ?_) (fun cdv A outer s H vs Q E hr h => ?_)
  · obtain ⟨a, ns, rfl, _⟩ := h
    rfl
  · obtain ⟨a, ns, rfl, hS, hlen, q⟩ := h
    refine ⟨_, pss_cons (ps_set (i := 1) scLaw.nd rfl (.inr rfl) (pe_call GC (hr.mono (by decide)) (by rfl) gC kC bC .nil pass0 (pa_cons (pv 0) (pa_cons pe_int pa_nil))))
      (pss_one (ps_ret (pe_callB (cr_all rfl) (by rfl) T.all (by decide +kernel) (pa_cons
        (pe_lc (te := tCall spRight [] E0 (tCons (tCall (spBox K) [] E0 (tCons (tVar 1) (tCons (tVar 2) tNil))) tNil)) (own := [("_law_k", 2)]) (g := gName 2) (tt := tYes) rfl scLaw.nd
          (pi_range1 (by rfl) T.range (pa_cons (pe_callB call_len_seq (by rfl) T.len boot_len (pa_cons (pv 1) pa_nil)) pa_nil))
          (blkOk_by (own := [("_law_k", 2)]) (N := nLaw) (sc := defScope sLaw) (by decide +kernel)) (fun _ _ _ _ _ => pg_name (i := 2) scLaw.nd rfl (.inl rfl)) (fun _ _ _ _ _ => pts_nil)
          (fun _ _ _ _ _ => pe_call GR (hr.mono (by decide)) (by rfl) gR kR bR .nil pass0 (pa_cons (pe_call GB (hr.mono (by decide)) (by rfl) gB kB bB .nil pass0 (pa_cons (pv 1) (pa_cons (pv 2) pa_nil))) pa_nil))) pa_nil)))), ?_⟩
    refine ⟨_, rfl, a, ns, 3, rfl, hS, hlen, by decide, by decide, fun p cs H1 np s1 h1 h2 hp => ?_⟩
    refine ⟨_, rfl, p, _, rfl, .inl (SqL.of hp), _, rfl, by omega, by rw [List.length_map]; omega, fun D nD => ?_⟩
    refine lc_range (lo := 0) (n := (((cs.map V.int).length : Nat) : Int).toNat) (fun j J => ∃ bs : List Bool, bs.length = j ∧ (∀ b ∈ bs, b = true) ∧ J D = some (.lst (bs.map V.bl)) ∧ Same H1 J) ?_ ?_ ?_
    · exact ⟨[], rfl, (fun b hb => absurd hb (by simp)), upd_same, same_upd nD⟩
    · rintro j J hj ⟨bs, hb, hbt, hD, sj⟩
      rw [List.length_map, Int.toNat_natCast] at hj
      refine ⟨rfl, _, rfl, _, rfl, p, cs, _, rfl, SqL.of (sj _ _ hp), by omega, by omega, fun b x y nb => ?_⟩
      have nbD : b ≠ D := (ne_of_none hD nb).symm
      refine ⟨b, rfl, ⟨x, y, 0, upd_same, by decide, by decide⟩, fun J2 bu => ?_⟩
      have s2 : Same J J2 := fun c o e => bu c o (ne_of_none e nb) (same_upd nb _ _ e)
      refine ⟨_, s2 _ _ hD, ?_, bs ++ [true], by rw [List.length_append, hb]; rfl, fun b hb' => ?_, by rw [upd_same, List.map_append]; rfl, fun c o e => ?_⟩
      · rw [List.length_map, hb, sizeLine_eq]
        omega
      · rcases List.mem_append.mp hb' with z | z
        · exact hbt b z
        · exact List.mem_singleton.mp z
      · rw [upd_ne (ne_of_none e nD)]
        exact s2 _ _ (sj _ _ e)
    · rintro J ⟨bs, hb, hbt, hD, sj⟩
      refine ⟨D, _, rfl, SqL.of hD, ?_⟩
      have ea : bs.all id = true := List.all_eq_true.mpr fun b hb' => hbt b hb'
      rw [ea]
      exact q _
end
end Sg

set_option Elab.async false
set_option linter.all false
set_option maxRecDepth 100000
set_option maxHeartbeats 4000000
/-! What the head tells, put together. -/
namespace Dl
open PySem PySem.Spec PyProof.Rows L2
theorem law_binds {K : PySem.W.Frag} {f : Addr} {fd : FuncData} (F : Fun K "law" "law" Sg.sLaw f fd) (s : Shared) (v : Value) : BindsTo s fd ⟨[v], []⟩ [("_law_script", v)] := by
  obtain ⟨oc, od, kV, doc, pm, an, cdv, ct, osl, rfl, lk, hcd⟩ := F.ex
  exact .of_eq rfl
section
variable {P : Program} {w : World} {K : PySem.W.Frag} {h : Heap} {mg : Str → Option Value}
theorem def_mk {nm : Str} {st : Stmt} {f : Addr} {oc kV doc pm cdv ct : Value} {od an : Option Addr} {osl : Array (Option Value)} (X : K.In h) (G : h.Ns mainGlobals mg) (a : PySem.W.nsIn K mainGlobals nm = some (some (.ref f)))
    (l1 : K.lookup f = some ⟨oc, od, .func (PySem.W.fnOf nm nm (defArgs st) (defBody st) (defScope st) .none kV doc pm an cdv ct), osl⟩) (c : PySem.W.codeIn K cdv nm = true) (k : PySem.W.keepIn K (.ref f) = true) : ∃ f, DF K mg nm st f :=
  ⟨f, PySem.W.mg_of X G a, _, fun_mk l1 c k⟩
theorem def_mkL {nm : Str} {st : Stmt} {f fa : Addr} {oc kV doc pm cdv ct : Value} {od an : Option Addr} {osl : Array (Option Value)} (X : K.In h) (G : h.Ns mainGlobals mg) (hfa : mg nm = some (.ref fa)) (a : PySem.W.nsIn K mainGlobals nm = some (some (.ref f)))
    (l1 : K.lookup f = some ⟨oc, od, .func (PySem.W.fnOf nm nm (defArgs st) (defBody st) (defScope st) .none kV doc pm an cdv ct), osl⟩) (c : PySem.W.codeIn K cdv nm = true) (k : PySem.W.keepIn K (.ref f) = true) : DF K mg nm st fa := by
  have e := hfa.symm.trans (PySem.W.mg_of X G a)
  cases e
  exact ⟨PySem.W.mg_of X G a, _, fun_mk l1 c k⟩
theorem stat_mk {C p f : Addr} {rest : List Value} {oc kV doc pm cdv ct : Value} {od an : Option Addr} {osl : Array (Option Value)} (X : K.In h) (G : h.Ns mainGlobals mg) (aC : PySem.W.nsIn K mainGlobals "Book" = some (some (.ref C)))
    (ga : PySem.W.specialIn K (.ref C) "__getattribute__" = some (some (.builtin "type.__getattribute__"))) (rd : PySem.W.readsIn K C (.type "type") = true)
    (fc : PySem.W.findCls K (.ref C) (.type "type") "is_kind" = some (.get (.builtin "staticmethod.__get__") (.ref p) .none (.ref C))) (rc : PySem.W.recIn K p "staticmethod" = some (.ref f :: rest)) (hv : PySem.W.handedIn (.ref f) = true) (kp : PySem.W.keepIn K (.ref f) = true)
    (l1 : K.lookup f = some ⟨oc, od, .func (PySem.W.fnOf "is_kind" "Book.is_kind" (defArgs stKind) (defBody stKind) (defScope stKind) .none kV doc pm an cdv ct), osl⟩) (c : PySem.W.codeIn K cdv "Book.is_kind" = true) : SF K mg :=
  ⟨C, f, _, PySem.W.mg_of X G aC, ⟨ga, rd, ⟨p, rest, fc, rc⟩, hv, kp⟩, fun_mk l1 c kp⟩
theorem sizes_at {d : Addr} {e1 e2 e3 e4 : DictEntry} {n : Nat} {t1 t2 t3 t4 u1 u2 u3 u4 : Tok} (l : K.lookup d = some ⟨.type "dict", none, .dict #[e1, e2, e3, e4] n, #[]⟩) (k1 : e1.key = .str "say" t1) (k2 : e2.key = .str "has" t2) (k3 : e3.key = .str "is" t3) (k4 : e4.key = .str "let" t4)
    (v1 : e1.val = .int 3 u1) (v2 : e2.val = .int 4 u2) (v3 : e3.val = .int 6 u3) (v4 : e4.val = .int 5 u4) (k : Str) : (∃ u v, PySem.W.nsIn K d k = some (some u) ∧ L2.RelV v u ∧ ∃ e, sizesD.lookup k = some e ∧ ∀ b G, Rp K b G v e) ∨ (PySem.W.nsIn K d k = some none ∧ sizesD.lookup k = none) := by
  have r1 : ∀ (y : Str) (t : Tok), (Value.str y t).isStr k = (y == k) := fun _ _ => rfl
  have ns : PySem.W.nsIn K d k = (match [e1, e2, e3, e4].find? (·.key.isStr k) with
      | some e => some (some e.val)
      | none => if [e1, e2, e3, e4].any (·.refKey) then none else some none) := by
    unfold PySem.W.nsIn
    rw [l]
    rfl
  have q1 : ∀ y : Str, (k == y) = (y == k) := fun y => by
    rw [Bool.eq_iff_iff, beq_iff_eq, beq_iff_eq]
    exact ⟨Eq.symm, Eq.symm⟩
  rw [ns]
  unfold sizesD
  simp only [List.find?, k1, k2, k3, k4, r1, List.lookup, q1]
  cases h1 : ((Str.ofString "say") == k) with
  | true => exact .inl ⟨_, .int 3, (show some (some e1.val) = some (some (.int 3 u1)) by rw [v1]), ⟨_, rfl⟩, _, rfl, fun _ _ => .int _⟩
  | false =>
    cases h2 : ((Str.ofString "has") == k) with
    | true => exact .inl ⟨_, .int 4, (show some (some e2.val) = some (some (.int 4 u2)) by rw [v2]), ⟨_, rfl⟩, _, rfl, fun _ _ => .int _⟩
    | false =>
      cases h3 : ((Str.ofString "is") == k) with
      | true => exact .inl ⟨_, .int 6, (show some (some e3.val) = some (some (.int 6 u3)) by rw [v3]), ⟨_, rfl⟩, _, rfl, fun _ _ => .int _⟩
      | false =>
        cases h4 : ((Str.ofString "let") == k) with
        | true => exact .inl ⟨_, .int 5, (show some (some e4.val) = some (some (.int 5 u4)) by rw [v4]), ⟨_, rfl⟩, _, rfl, fun _ _ => .int _⟩
        | false =>
          refine .inr ⟨?_, rfl⟩
          show (if [e1, e2, e3, e4].any (·.refKey) then none else some none) = some none
          rw [if_neg]
          simp [PySem.DictEntry.refKey, k1, k2, k3, k4]
theorem md_mk {d : Addr} {e1 e2 e3 e4 : DictEntry} {n : Nat} {t1 t2 t3 t4 u1 u2 u3 u4 tl tn tm : Tok} (X : K.In h) (G : h.Ns mainGlobals mg) (aL : PySem.W.nsIn K mainGlobals "LETTERS" = some (some (.str lettersS tl))) (aN : PySem.W.nsIn K mainGlobals "LONGEST" = some (some (.int 8 tn))) (aM : PySem.W.nsIn K mainGlobals "MOST_PARAMETERS" = some (some (.int 2 tm))) (aS : PySem.W.nsIn K mainGlobals "SIZES" = some (some (.ref d)))
    (l : K.lookup d = some ⟨.type "dict", none, .dict #[e1, e2, e3, e4] n, #[]⟩) (k1 : e1.key = .str "say" t1) (k2 : e2.key = .str "has" t2) (k3 : e3.key = .str "is" t3) (k4 : e4.key = .str "let" t4)
    (v1 : e1.val = .int 3 u1) (v2 : e2.val = .int 4 u2) (v3 : e3.val = .int 6 u3) (v4 : e4.val = .int 5 u4) (kl : PySem.W.KeysLit w.params [e1, e2, e3, e4]) (low : (d == sysModules) = false) (bl : ∀ x ∈ bltNames, mg x = none) : Md w K mg (tabOf [] noSm) := by
  refine ⟨bl, fun x dd hx => ?_, fun x kv hx => ?_⟩
  · have hx : List.lookup x [(("LETTERS" : Str), D.str lettersS), (("LONGEST" : Str), D.int 8), (("MOST_PARAMETERS" : Str), D.int 2)] = some dd := hx
    simp only [List.lookup] at hx
    split at hx
    · rename_i e
      cases hx
      rw [beq_iff_eq.mp e]
      exact ⟨.str lettersS, _, PySem.W.mg_of X G aL, ⟨_, rfl⟩, fun _ _ => .str _ (by rw [sizeLine_eq]; decide) (by decide +kernel)⟩
    · split at hx
      · rename_i e
        cases hx
        rw [beq_iff_eq.mp e]
        exact ⟨.int 8, _, PySem.W.mg_of X G aN, ⟨_, rfl⟩, fun _ _ => .int _⟩
      · split at hx
        · rename_i e
          cases hx
          rw [beq_iff_eq.mp e]
          exact ⟨.int 2, _, PySem.W.mg_of X G aM, ⟨_, rfl⟩, fun _ _ => .int _⟩
        · cases hx
  · have hx : List.lookup x [(("SIZES" : Str), sizesD)] = some kv := hx
    simp only [List.lookup] at hx
    split at hx
    · rename_i e
      cases hx
      rw [beq_iff_eq.mp e]
      exact ⟨d, _, n, PySem.W.mg_of X G aS, ⟨l, kl, low⟩, sizes_at l k1 k2 k3 k4 v1 v2 v3 v4⟩
    · cases hx
theorem blt_mk (X : K.In h) (G : h.Ns mainGlobals mg) (z_len : PySem.W.nsIn K mainGlobals "len" = some none) (z_tuple : PySem.W.nsIn K mainGlobals "tuple" = some none) (z_list : PySem.W.nsIn K mainGlobals "list" = some none) (z_all : PySem.W.nsIn K mainGlobals "all" = some none) (z_any : PySem.W.nsIn K mainGlobals "any" = some none) (z_int : PySem.W.nsIn K mainGlobals "int" = some none) (z_abs : PySem.W.nsIn K mainGlobals "abs" = some none) (z_isinstance : PySem.W.nsIn K mainGlobals "isinstance" = some none) (z_bool : PySem.W.nsIn K mainGlobals "bool" = some none) (z_str : PySem.W.nsIn K mainGlobals "str" = some none) (z_dict : PySem.W.nsIn K mainGlobals "dict" = some none) (z_range : PySem.W.nsIn K mainGlobals "range" = some none) (z_enumerate : PySem.W.nsIn K mainGlobals "enumerate" = some none) (z_zip : PySem.W.nsIn K mainGlobals "zip" = some none) (z_set : PySem.W.nsIn K mainGlobals "set" = some none) (z_sum : PySem.W.nsIn K mainGlobals "sum" = some none) (z_max : PySem.W.nsIn K mainGlobals "max" = some none) (z_min : PySem.W.nsIn K mainGlobals "min" = some none) (z_sorted : PySem.W.nsIn K mainGlobals "sorted" = some none) : ∀ x ∈ bltNames, mg x = none := fun x hx => by
  simp only [bltNames, List.mem_cons, List.not_mem_nil, or_false] at hx
  rcases hx with rfl | rfl | rfl | rfl | rfl | rfl | rfl | rfl | rfl | rfl | rfl | rfl | rfl | rfl | rfl | rfl | rfl | rfl | rfl
  · exact PySem.W.mg_none_of X G z_len
  · exact PySem.W.mg_none_of X G z_tuple
  · exact PySem.W.mg_none_of X G z_list
  · exact PySem.W.mg_none_of X G z_all
  · exact PySem.W.mg_none_of X G z_any
  · exact PySem.W.mg_none_of X G z_int
  · exact PySem.W.mg_none_of X G z_abs
  · exact PySem.W.mg_none_of X G z_isinstance
  · exact PySem.W.mg_none_of X G z_bool
  · exact PySem.W.mg_none_of X G z_str
  · exact PySem.W.mg_none_of X G z_dict
  · exact PySem.W.mg_none_of X G z_range
  · exact PySem.W.mg_none_of X G z_enumerate
  · exact PySem.W.mg_none_of X G z_zip
  · exact PySem.W.mg_none_of X G z_set
  · exact PySem.W.mg_none_of X G z_sum
  · exact PySem.W.mg_none_of X G z_max
  · exact PySem.W.mg_none_of X G z_min
  · exact PySem.W.mg_none_of X G z_sorted
theorem all_mk {l : PySem.W.OpenLaw} {fa : Addr} (M : Md w K mg (tabOf [] noSm)) (sf : SF K mg) (dL : DF K mg "law" Sg.sLaw fa)
    (d_tupled : ∃ f, DF K mg "tupled" (Sg.topS 4) f)
    (d_is_number : ∃ f, DF K mg "is_number" (Sg.topS 5) f)
    (d_is_name : ∃ f, DF K mg "is_name" (Sg.topS 6) f)
    (d_are_names : ∃ f, DF K mg "are_names" (Sg.topS 7) f)
    (d_is_term : ∃ f, DF K mg "is_term" (Sg.topS 18) f)
    (d_is_change : ∃ f, DF K mg "is_change" (Sg.topS 19) f)
    (d_is_body : ∃ f, DF K mg "is_body" (Sg.topS 20) f)
    (d_is_kind_of : ∃ f, DF K mg "is_kind_of" (Sg.topS 21) f)
    (d_law_box : ∃ f, DF K mg "_law_box" (Sg.topS 26) f)
    (d_law_take : ∃ f, DF K mg "_law_take" (Sg.topS 27) f)
    (d_law_cells : ∃ f, DF K mg "_law_cells" (Sg.topS 28) f)
    (d_law_of : ∃ f, DF K mg "_law_of" (Sg.topS 29) f)
    (d_law_lists : ∃ f, DF K mg "_law_lists" (Sg.topS 30) f)
    (d_law_same : ∃ f, DF K mg "_law_same" (Sg.topS 31) f)
    (d_law_is_number : ∃ f, DF K mg "_law_is_number" (Sg.topS 32) f)
    (d_law_names : ∃ f, DF K mg "_law_names" (Sg.topS 33) f)
    (d_law_say : ∃ f, DF K mg "_law_say" (Sg.topS 34) f)
    (d_law_body : ∃ f, DF K mg "_law_body" (Sg.topS 35) f)
    (d_law_kind : ∃ f, DF K mg "_law_kind" (Sg.topS 36) f)
    (d_law_is_name : ∃ f, DF K mg "_law_is_name" (Sg.topS 37) f)
    (d_law_is_term : ∃ f, DF K mg "_law_is_term" (Sg.topS 38) f)
    (d_law_is_change : ∃ f, DF K mg "_law_is_change" (Sg.topS 39) f)
    (d_law_is_say : ∃ f, DF K mg "_law_is_say" (Sg.topS 40) f)
    (d_law_is_body : ∃ f, DF K mg "_law_is_body" (Sg.topS 41) f)
    (d_law_is_kind : ∃ f, DF K mg "_law_is_kind" (Sg.topS 42) f)
    (d_law_odd : ∃ f, DF K mg "_law_odd" (Sg.topS 43) f)
    (d_law_bent : ∃ f, DF K mg "_law_bent" (Sg.topS 44) f)
    (d_law_by_hand_right : ∃ f, DF K mg "_law_by_hand_right" (Sg.topS 45) f)
    (d_law_right : ∃ f, DF K mg "_law_right" (Sg.topS 46) f) :
    ∃ fd : FuncData, (∀ (s : Shared) (v : Value), BindsTo s fd ⟨[v], []⟩ [("_law_script", v)]) ∧ ∀ base : Heap, K.In base → base.Ns mainGlobals mg → FnOk l.prog w K mg base CX0 29 fa fd ["_law_script"] (Sg.spLaw K) := by
  have B : Sg.Blt mg := ⟨M.blt _ (by decide +kernel), M.blt _ (by decide +kernel), M.blt _ (by decide +kernel), M.blt _ (by decide +kernel), M.blt _ (by decide +kernel), M.blt _ (by decide +kernel), M.blt _ (by decide +kernel), M.blt _ (by decide +kernel), M.blt _ (by decide +kernel), M.blt _ (by decide +kernel), M.blt _ (by decide +kernel), M.blt _ (by decide +kernel), M.blt _ (by decide +kernel), M.blt _ (by decide +kernel)⟩
  obtain ⟨_, fdL, FL⟩ := dL
  refine ⟨fdL, fun s v => law_binds FL s v, fun base _ _ => ?_⟩
  have i_num := q_is_number (P := l.prog) (base := base) M d_is_number
  have i_name := q_is_name (P := l.prog) (base := base) M d_is_name
  have i_names := q_are_names M d_are_names i_name
  have i_term := q_is_term M d_is_term i_num
  have i_change := q_is_change M d_is_change i_term
  have i_body := q_is_body M d_is_body i_name i_term i_change 20
  have i_kind := q_is_kind_of M d_is_kind_of i_name i_names i_body
  have sm := sm_kind M sf i_kind (q_tupled M d_tupled)
  have l_num := q_law_is_number (P := l.prog) (base := base) M d_law_is_number
  have l_name := q_law_is_name (P := l.prog) (base := base) M d_law_is_name
  have l_term := q_law_is_term M d_law_is_term l_num
  have l_change := q_law_is_change M d_law_is_change l_term
  have l_say := q_law_is_say M d_law_is_say l_name l_change
  have l_body := q_law_is_body M d_law_is_body l_name l_term l_say 20
  have l_kind := q_law_is_kind M d_law_is_kind l_name l_body
  have take : FnQ l.prog w K mg base 1 "_law_take" fsTake := by
    obtain ⟨f, g, fd, F⟩ := d_law_take
    exact ⟨f, fd, _, g, F.kp, F.binds fun _ _ _ _ _ _ us hl => match us, hl with | [_, _], _ => rfl, take_fs (Sg.ok_take F B)⟩
  have g_of := q_law_of M d_law_of take
  have g_names := q_law_names M d_law_names take g_of
  have g_say := q_law_say M d_law_say take g_of
  have g_body := q_law_body M d_law_body take g_of g_say 4
  have g_kind := q_law_kind M d_law_kind take g_of g_body
  have g_lists := q_law_lists (P := l.prog) (base := base) M d_law_lists 9
  have g_odd := q_law_odd M d_law_odd g_of
  have g_bent := q_law_bent M d_law_bent take g_odd 8
  have same := q_law_same (P := l.prog) (base := base) M d_law_same
  have hand := q_hand M d_law_by_hand_right sm same
  have right := q_right M d_law_right sm hand g_names take g_kind g_lists g_bent l_kind same
  obtain ⟨fR, fdR, psR, gR, kR, bR, GR⟩ := right.ex
  obtain ⟨fC, gC, fdC, FC⟩ := d_law_cells
  obtain ⟨fB, gB, fdB, FB⟩ := d_law_box
  exact Sg.ok_law FL B (Sg.ok_cells FC B) gC FC.kp (FC.binds fun _ _ _ _ _ _ us hl => match us, hl with | [_, _], _ => rfl) (Sg.ok_box FB B) gB FB.kp (FB.binds fun _ _ _ _ _ _ us hl => match us, hl with | [_, _], _ => rfl) (Sg.right_dn GR) gR kR bR
end
end Dl

set_option Elab.async false
set_option linter.all false
open PySem PySem.W PyProof.Rows in
set_option maxRecDepth 100000 in
set_option maxHeartbeats 0 in
theorem PySem.Challenge.cw_stillgood_k00_kinds_or_none_holds : PySem.Challenge.rw_stillgood_k00_kinds_or_none.Holds := by
  w_on; o_law; k_head; (case hw => w_witness2)
  k_fill
  refine L2.walk_of (l := PySem.Challenge.rw_stillgood_k00_kinds_or_none) (n := 63) (k := 29) (x := "_law_script") (CX := fun _ => L2.CX0) (sp := fun w => Sg.spLaw _) rfl (by decide) rfl ⟨rfl, by decide, by decide⟩ (fun w h Y => PySem.W.kIn_of Y) ?F (fun _ _ a ns hl _ hS => ⟨a, ns, rfl, hS, hl, fun _ => rfl⟩) fun _ _ _ _ _ z => z
  case F =>
    intro w mg fa h KX G hmg
    refine' Dl.all_mk (l := PySem.Challenge.rw_stillgood_k00_kinds_or_none) ?hxM ?hxsf ?hxdL ?hxd_tupled ?hxd_is_number ?hxd_is_name ?hxd_are_names ?hxd_is_term ?hxd_is_change ?hxd_is_body ?hxd_is_kind_of ?hxd_law_box ?hxd_law_take ?hxd_law_cells ?hxd_law_of ?hxd_law_lists ?hxd_law_same ?hxd_law_is_number ?hxd_law_names ?hxd_law_say ?hxd_law_body ?hxd_law_kind ?hxd_law_is_name ?hxd_law_is_term ?hxd_law_is_change ?hxd_law_is_say ?hxd_law_is_body ?hxd_law_is_kind ?hxd_law_odd ?hxd_law_bent ?hxd_law_by_hand_right ?hxd_law_right
    case hxM =>
      refine' Dl.md_mk KX G ?hxmaL ?hxmaN ?hxmaM ?hxmaS ?hxml ?hxmk1 ?hxmk2 ?hxmk3 ?hxmk4 ?hxmv1 ?hxmv2 ?hxmv3 ?hxmv4 ?hxmkl ?hxmlow ?hxmbl
      (case hxmaL => k_is); (case hxmaN => k_is); (case hxmaM => k_is); (case hxmaS => k_is); (case hxml => k_is)
      (case hxmk1 => exact rfl); (case hxmk2 => exact rfl); (case hxmk3 => exact rfl); (case hxmk4 => exact rfl); (case hxmv1 => exact rfl); (case hxmv2 => exact rfl); (case hxmv3 => exact rfl); (case hxmv4 => exact rfl)
      (case hxmkl => k_keys); (case hxmlow => first | rfl | decide)
      case hxmbl =>
        refine' Dl.blt_mk KX G ?zb0 ?zb1 ?zb2 ?zb3 ?zb4 ?zb5 ?zb6 ?zb7 ?zb8 ?zb9 ?zb10 ?zb11 ?zb12 ?zb13 ?zb14 ?zb15 ?zb16 ?zb17 ?zb18
        (case zb0 => k_is); (case zb1 => k_is); (case zb2 => k_is); (case zb3 => k_is); (case zb4 => k_is); (case zb5 => k_is); (case zb6 => k_is); (case zb7 => k_is); (case zb8 => k_is); (case zb9 => k_is); (case zb10 => k_is); (case zb11 => k_is); (case zb12 => k_is); (case zb13 => k_is); (case zb14 => k_is); (case zb15 => k_is); (case zb16 => k_is); (case zb17 => k_is); (case zb18 => k_is)
    case hxsf =>
      refine' Dl.stat_mk KX G ?hxsaC ?hxsga ?hxsrd ?hxsfc ?hxsrc ?hxshv ?hxskp ?hxsl1 ?hxsc
      (case hxsaC => k_is); (case hxsga => k_is); (case hxsrd => k_is); (case hxsfc => k_is); (case hxsrc => k_is); (case hxshv => first | rfl | k_is); (case hxskp => k_is); (case hxsl1 => k_is); (case hxsc => k_is)
    case hxdL =>
      refine' Dl.def_mkL KX G hmg ?aL9 ?lL9 ?cL9 ?kL9
      (case aL9 => k_is); (case lL9 => k_is); (case cL9 => k_is); (case kL9 => k_is)
    case hxd_tupled =>
      refine' Dl.def_mk KX G ?a_tupled ?l_tupled ?c_tupled ?k_tupled
      (case a_tupled => k_is); (case l_tupled => k_is); (case c_tupled => k_is); (case k_tupled => k_is)
    case hxd_is_number =>
      refine' Dl.def_mk KX G ?a_is_number ?l_is_number ?c_is_number ?k_is_number
      (case a_is_number => k_is); (case l_is_number => k_is); (case c_is_number => k_is); (case k_is_number => k_is)
    case hxd_is_name =>
      refine' Dl.def_mk KX G ?a_is_name ?l_is_name ?c_is_name ?k_is_name
      (case a_is_name => k_is); (case l_is_name => k_is); (case c_is_name => k_is); (case k_is_name => k_is)
    case hxd_are_names =>
      refine' Dl.def_mk KX G ?a_are_names ?l_are_names ?c_are_names ?k_are_names
      (case a_are_names => k_is); (case l_are_names => k_is); (case c_are_names => k_is); (case k_are_names => k_is)
    case hxd_is_term =>
      refine' Dl.def_mk KX G ?a_is_term ?l_is_term ?c_is_term ?k_is_term
      (case a_is_term => k_is); (case l_is_term => k_is); (case c_is_term => k_is); (case k_is_term => k_is)
    case hxd_is_change =>
      refine' Dl.def_mk KX G ?a_is_change ?l_is_change ?c_is_change ?k_is_change
      (case a_is_change => k_is); (case l_is_change => k_is); (case c_is_change => k_is); (case k_is_change => k_is)
    case hxd_is_body =>
      refine' Dl.def_mk KX G ?a_is_body ?l_is_body ?c_is_body ?k_is_body
      (case a_is_body => k_is); (case l_is_body => k_is); (case c_is_body => k_is); (case k_is_body => k_is)
    case hxd_is_kind_of =>
      refine' Dl.def_mk KX G ?a_is_kind_of ?l_is_kind_of ?c_is_kind_of ?k_is_kind_of
      (case a_is_kind_of => k_is); (case l_is_kind_of => k_is); (case c_is_kind_of => k_is); (case k_is_kind_of => k_is)
    case hxd_law_box =>
      refine' Dl.def_mk KX G ?a_law_box ?l_law_box ?c_law_box ?k_law_box
      (case a_law_box => k_is); (case l_law_box => k_is); (case c_law_box => k_is); (case k_law_box => k_is)
    case hxd_law_take =>
      refine' Dl.def_mk KX G ?a_law_take ?l_law_take ?c_law_take ?k_law_take
      (case a_law_take => k_is); (case l_law_take => k_is); (case c_law_take => k_is); (case k_law_take => k_is)
    case hxd_law_cells =>
      refine' Dl.def_mk KX G ?a_law_cells ?l_law_cells ?c_law_cells ?k_law_cells
      (case a_law_cells => k_is); (case l_law_cells => k_is); (case c_law_cells => k_is); (case k_law_cells => k_is)
    case hxd_law_of =>
      refine' Dl.def_mk KX G ?a_law_of ?l_law_of ?c_law_of ?k_law_of
      (case a_law_of => k_is); (case l_law_of => k_is); (case c_law_of => k_is); (case k_law_of => k_is)
    case hxd_law_lists =>
      refine' Dl.def_mk KX G ?a_law_lists ?l_law_lists ?c_law_lists ?k_law_lists
      (case a_law_lists => k_is); (case l_law_lists => k_is); (case c_law_lists => k_is); (case k_law_lists => k_is)
    case hxd_law_same =>
      refine' Dl.def_mk KX G ?a_law_same ?l_law_same ?c_law_same ?k_law_same
      (case a_law_same => k_is); (case l_law_same => k_is); (case c_law_same => k_is); (case k_law_same => k_is)
    case hxd_law_is_number =>
      refine' Dl.def_mk KX G ?a_law_is_number ?l_law_is_number ?c_law_is_number ?k_law_is_number
      (case a_law_is_number => k_is); (case l_law_is_number => k_is); (case c_law_is_number => k_is); (case k_law_is_number => k_is)
    case hxd_law_names =>
      refine' Dl.def_mk KX G ?a_law_names ?l_law_names ?c_law_names ?k_law_names
      (case a_law_names => k_is); (case l_law_names => k_is); (case c_law_names => k_is); (case k_law_names => k_is)
    case hxd_law_say =>
      refine' Dl.def_mk KX G ?a_law_say ?l_law_say ?c_law_say ?k_law_say
      (case a_law_say => k_is); (case l_law_say => k_is); (case c_law_say => k_is); (case k_law_say => k_is)
    case hxd_law_body =>
      refine' Dl.def_mk KX G ?a_law_body ?l_law_body ?c_law_body ?k_law_body
      (case a_law_body => k_is); (case l_law_body => k_is); (case c_law_body => k_is); (case k_law_body => k_is)
    case hxd_law_kind =>
      refine' Dl.def_mk KX G ?a_law_kind ?l_law_kind ?c_law_kind ?k_law_kind
      (case a_law_kind => k_is); (case l_law_kind => k_is); (case c_law_kind => k_is); (case k_law_kind => k_is)
    case hxd_law_is_name =>
      refine' Dl.def_mk KX G ?a_law_is_name ?l_law_is_name ?c_law_is_name ?k_law_is_name
      (case a_law_is_name => k_is); (case l_law_is_name => k_is); (case c_law_is_name => k_is); (case k_law_is_name => k_is)
    case hxd_law_is_term =>
      refine' Dl.def_mk KX G ?a_law_is_term ?l_law_is_term ?c_law_is_term ?k_law_is_term
      (case a_law_is_term => k_is); (case l_law_is_term => k_is); (case c_law_is_term => k_is); (case k_law_is_term => k_is)
    case hxd_law_is_change =>
      refine' Dl.def_mk KX G ?a_law_is_change ?l_law_is_change ?c_law_is_change ?k_law_is_change
      (case a_law_is_change => k_is); (case l_law_is_change => k_is); (case c_law_is_change => k_is); (case k_law_is_change => k_is)
    case hxd_law_is_say =>
      refine' Dl.def_mk KX G ?a_law_is_say ?l_law_is_say ?c_law_is_say ?k_law_is_say
      (case a_law_is_say => k_is); (case l_law_is_say => k_is); (case c_law_is_say => k_is); (case k_law_is_say => k_is)
    case hxd_law_is_body =>
      refine' Dl.def_mk KX G ?a_law_is_body ?l_law_is_body ?c_law_is_body ?k_law_is_body
      (case a_law_is_body => k_is); (case l_law_is_body => k_is); (case c_law_is_body => k_is); (case k_law_is_body => k_is)
    case hxd_law_is_kind =>
      refine' Dl.def_mk KX G ?a_law_is_kind ?l_law_is_kind ?c_law_is_kind ?k_law_is_kind
      (case a_law_is_kind => k_is); (case l_law_is_kind => k_is); (case c_law_is_kind => k_is); (case k_law_is_kind => k_is)
    case hxd_law_odd =>
      refine' Dl.def_mk KX G ?a_law_odd ?l_law_odd ?c_law_odd ?k_law_odd
      (case a_law_odd => k_is); (case l_law_odd => k_is); (case c_law_odd => k_is); (case k_law_odd => k_is)
    case hxd_law_bent =>
      refine' Dl.def_mk KX G ?a_law_bent ?l_law_bent ?c_law_bent ?k_law_bent
      (case a_law_bent => k_is); (case l_law_bent => k_is); (case c_law_bent => k_is); (case k_law_bent => k_is)
    case hxd_law_by_hand_right =>
      refine' Dl.def_mk KX G ?a_law_by_hand_right ?l_law_by_hand_right ?c_law_by_hand_right ?k_law_by_hand_right
      (case a_law_by_hand_right => k_is); (case l_law_by_hand_right => k_is); (case c_law_by_hand_right => k_is); (case k_law_by_hand_right => k_is)
    case hxd_law_right =>
      refine' Dl.def_mk KX G ?a_law_right ?l_law_right ?c_law_right ?k_law_right
      (case a_law_right => k_is); (case l_law_right => k_is); (case c_law_right => k_is); (case k_law_right => k_is)
