import PyProof.Rows.All
import Wide.All
import OpenK.AllK
import Wide.FinOn
import PyProof.EqAt
import PyProof.EqKinds
import PyProof.TupleCall
import HandS.ForMost
import HandS.Flow
import HandS.Wide
import HandS.Style
import HandS.IsInst
import HandS.Deep
import HandS.Star
import HandS.More
import HandS.TupMul
import HandS.TupAny
import PyProof.FactsAll.dict
import PyProof.NeKinds
import PyProof.P3In
import HandS.Exc
import HandS.ExcOwn
import HandS.TryOnly
import HandS.WordsExc
import HandS.Defaults
import HandS.Zip
import KE.GoesMore
import HandS.NoneIn
import HandS.CallSlots
import OpenK.KMeth
import HandS.Walk
import PySem.Challenge.RW_stillgood_k23_how_many_calls_at_most
set_option Elab.async false
set_option linter.all false
set_option maxRecDepth 100000
set_option maxHeartbeats 4000000
/-! Data without a heap, and how it lies in the abstract heap. -/
namespace Dl
open PySem PySem.Spec PyProof.Rows L2

inductive D where
  | non
  | bl (b : Bool)
  | int (i : Int)
  | str (s : Str)
  | list (xs : List D)
  | tup (xs : List D)
  | dict (kvs : List (Key × D))
  | obj (c : Str) (fs : List (Str × D))
  | pin (a : Addr)
  | box

/-- the source of draws stands at b; it has made at most n mixed numbers -/
def BoxAt (H : Hp) (b : Addr) (n : Nat) : Prop := ∃ x y z : Int, H b = some (.lst [.int x, .int y, .int z]) ∧ 0 ≤ z ∧ z ≤ n

mutual
inductive Rp (K : PySem.W.Frag) (b : Option Addr) (G : Hp) : V → D → Prop
  | non : Rp K b G .non .non
  | bl (x : Bool) : Rp K b G (.bl x) (.bl x)
  | int (i : Int) : Rp K b G (.int i) (.int i)
  | str (x : Str) (z : x.length ≤ sizeLine) (o : PySem.PyData.strOk x = true) : Rp K b G (.str x) (.str x)
  | list {a : Addr} {xs : List V} {ds : List D} (h : G a = some (.lst xs)) (z : xs.length ≤ sizeLine) (g : Rps K b G xs ds) : Rp K b G (.ref a) (.list ds)
  | tup {a : Addr} {xs : List V} {ds : List D} (h : SqT K G a xs) (z : xs.length ≤ sizeLine) (g : Rps K b G xs ds) : Rp K b G (.ref a) (.tup ds)
  | dict {a : Addr} {kvs : List (Key × V)} {ds : List (Key × D)} (h : G a = some (.dK kvs)) (z : kvs.length ≤ sizeLine) (g : Rkv K b G kvs ds) : Rp K b G (.ref a) (.dict ds)
  | obj {a C dx : Addr} {c : Str} {kvs : List (Str × V)} {ds : List (Str × D)} (hc : PySem.W.nsIn K mainGlobals c = some (some (.ref C))) (h : G a = some (.ins C dx kvs)) (g : Rfs K b G kvs ds) : Rp K b G (.ref a) (.obj c ds)
  | pin (a : Addr) : Rp K b G (.ref a) (.pin a)
  | box {a : Addr} (h : b = some a) : Rp K b G (.ref a) .box
inductive Rps (K : PySem.W.Frag) (b : Option Addr) (G : Hp) : List V → List D → Prop
  | nil : Rps K b G [] []
  | cons {v : V} {vs : List V} {d : D} {ds : List D} (h : Rp K b G v d) (g : Rps K b G vs ds) : Rps K b G (v :: vs) (d :: ds)
inductive Rkv (K : PySem.W.Frag) (b : Option Addr) (G : Hp) : List (Key × V) → List (Key × D) → Prop
  | nil : Rkv K b G [] []
  | cons {k : Key} {v : V} {vs : List (Key × V)} {d : D} {ds : List (Key × D)} (h : Rp K b G v d) (g : Rkv K b G vs ds) : Rkv K b G ((k, v) :: vs) ((k, d) :: ds)
inductive Rfs (K : PySem.W.Frag) (b : Option Addr) (G : Hp) : List (Str × V) → List (Str × D) → Prop
  | nil : Rfs K b G [] []
  | cons {k : Str} {v : V} {vs : List (Str × V)} {d : D} {ds : List (Str × D)} (h : Rp K b G v d) (g : Rfs K b G vs ds) : Rfs K b G ((k, v) :: vs) ((k, d) :: ds)
end

theorem sqt_same {K : PySem.W.Frag} {H H' : Hp} {a : Addr} {xs : List V} (e : Same H H') (h : SqT K H a xs) : SqT K H' a xs := by
  rcases h with (h | ⟨o, h⟩) | h
  · exact .inl (.inl (e _ _ h))
  · exact .inl (.inr ⟨o, e _ _ h⟩)
  · exact .inr h
section
variable {K : PySem.W.Frag} {b : Option Addr} {G G' : Hp}
mutual
theorem Rp.mono (s : Same G G') {v : V} {d : D} (h : Rp K b G v d) : Rp K b G' v d := by
  cases h with
  | non => exact .non
  | bl x => exact .bl x
  | int i => exact .int i
  | str x z o => exact .str x z o
  | list h z g => exact .list (s _ _ h) z (Rps.mono s g)
  | tup h z g => exact .tup (sqt_same s h) z (Rps.mono s g)
  | dict h z g => exact .dict (s _ _ h) z (Rkv.mono s g)
  | obj hc h g => exact .obj hc (s _ _ h) (Rfs.mono s g)
  | pin a => exact .pin a
  | box h => exact .box h
theorem Rps.mono (s : Same G G') {v : List V} {d : List D} (h : Rps K b G v d) : Rps K b G' v d := by
  cases h with
  | nil => exact .nil
  | cons h g => exact .cons (Rp.mono s h) (Rps.mono s g)
theorem Rkv.mono (s : Same G G') {v : List (Key × V)} {d : List (Key × D)} (h : Rkv K b G v d) : Rkv K b G' v d := by
  cases h with
  | nil => exact .nil
  | cons h g => exact .cons (Rp.mono s h) (Rkv.mono s g)
theorem Rfs.mono (s : Same G G') {v : List (Str × V)} {d : List (Str × D)} (h : Rfs K b G v d) : Rfs K b G' v d := by
  cases h with
  | nil => exact .nil
  | cons h g => exact .cons (Rp.mono s h) (Rfs.mono s g)
end
theorem Rfs.look {v : List (Str × V)} {d : List (Str × D)} (h : Rfs K b G v d) {f : Str} {y : D} (e : d.lookup f = some y) : ∃ x, v.lookup f = some x ∧ Rp K b G x y := by
  induction v generalizing d with
  | nil => cases h; cases e
  | cons w ws ih =>
    cases h with
    | @cons k v vs d ds h g =>
      rw [List.lookup_cons] at e ⊢
      split at e
      · cases e; exact ⟨v, rfl, h⟩
      · exact ih g e
theorem Rfs.none {v : List (Str × V)} {d : List (Str × D)} (h : Rfs K b G v d) {f : Str} (e : d.lookup f = none) : v.lookup f = Option.none := by
  induction v generalizing d with
  | nil => rfl
  | cons w ws ih =>
    cases h with
    | @cons k v vs d ds h g =>
      rw [List.lookup_cons] at e ⊢
      split at e
      · cases e
      · exact ih g e
theorem Rfs.length {v : List (Str × V)} {d : List (Str × D)} (h : Rfs K b G v d) : v.length = d.length := by
  induction v generalizing d with
  | nil => cases h; rfl
  | cons x xs ih => cases h with | cons h g => simp [ih g]
theorem Rps.length {v : List V} {d : List D} (h : Rps K b G v d) : v.length = d.length := by
  induction v generalizing d with
  | nil => cases h; rfl
  | cons x xs ih => cases h with | cons h g => simp [ih g]
theorem Rps.append {v w : List V} {d e : List D} (h : Rps K b G v d) (g : Rps K b G w e) : Rps K b G (v ++ w) (d ++ e) := by
  induction v generalizing d with
  | nil => cases h; exact g
  | cons x xs ih => cases h with | cons h g' => exact .cons h (ih g')
theorem Rps.get {v : List V} {d : List D} (h : Rps K b G v d) {i : Nat} {x : V} (e : v[i]? = some x) : ∃ y, d[i]? = some y ∧ Rp K b G x y := by
  induction v generalizing d i with
  | nil => simp at e
  | cons w ws ih =>
    cases h with
    | cons h g =>
      cases i with
      | zero => simp at e; subst e; exact ⟨_, rfl, h⟩
      | succ i => simp at e; obtain ⟨y, e1, e2⟩ := ih g e; exact ⟨y, by simpa using e1, e2⟩
theorem Rps.getD {v : List V} {d : List D} (h : Rps K b G v d) {i : Nat} {y : D} (e : d[i]? = some y) : ∃ x, v[i]? = some x ∧ Rp K b G x y := by
  induction v generalizing d i with
  | nil => cases h; simp at e
  | cons w ws ih =>
    cases h with
    | cons h g =>
      cases i with
      | zero => simp at e; subst e; exact ⟨_, rfl, h⟩
      | succ i => simp at e; obtain ⟨y, e1, e2⟩ := ih g e; exact ⟨y, by simpa using e1, e2⟩
theorem Rps.set {v : List V} {d : List D} (h : Rps K b G v d) {i : Nat} {x : V} {y : D} (r : Rp K b G x y) : Rps K b G (v.set i x) (d.set i y) := by
  induction v generalizing d i with
  | nil => cases h; exact .nil
  | cons w ws ih =>
    cases h with
    | cons h g =>
      cases i with
      | zero => exact .cons r g
      | succ i => exact .cons h (ih g)
theorem Rps.take {v : List V} {d : List D} (h : Rps K b G v d) (i : Nat) : Rps K b G (v.take i) (d.take i) := by
  induction v generalizing d i with
  | nil => cases h; cases i <;> exact .nil
  | cons w ws ih =>
    cases h with
    | cons h g =>
      cases i with
      | zero => exact .nil
      | succ i => exact .cons h (ih g i)
theorem Rps.drop {v : List V} {d : List D} (h : Rps K b G v d) (i : Nat) : Rps K b G (v.drop i) (d.drop i) := by
  induction v generalizing d i with
  | nil => cases h; cases i <;> exact .nil
  | cons w ws ih =>
    cases h with
    | cons h g =>
      cases i with
      | zero => exact .cons h g
      | succ i => exact ih g i
end

/-! ### steps -/
structure Ok (b : Option Addr) (G H : Hp) (n : Nat) : Prop where
  sub : Same G H
  box : ∀ p, b = some p → G p = none ∧ BoxAt H p n
structure Stp (b : Option Addr) (G H G' H' : Hp) (n' : Nat) : Prop where
  gg : Same G G'
  gh : Same G' H'
  kp : ∀ a o, some a ≠ b → H a = some o → H' a = some o
  nw : ∀ a o, G' a = some o → G a = some o ∨ H a = none
  bx : ∀ p, b = some p → BoxAt H' p n'
section
variable {b : Option Addr} {G H G' H' G2 H2 : Hp} {n n' n2 : Nat}
theorem Stp.refl (h : Ok b G H n) : Stp b G H G H n := ⟨Same.refl _, h.sub, fun _ _ _ e => e, fun _ _ e => .inl e, fun p e => (h.box p e).2⟩
theorem BoxAt.some {p : Addr} (h : BoxAt H p n) : H p ≠ none := by
  obtain ⟨x, y, z, e, _⟩ := h
  rw [e]
  intro q
  cases q
theorem Ok.step (h : Ok b G H n) (s : Stp b G H G' H' n') : Ok b G' H' n' := by
  refine ⟨s.gh, fun p e => ⟨?_, s.bx p e⟩⟩
  obtain ⟨g, x⟩ := h.box p e
  cases q : G' p with
  | none => rfl
  | some o =>
    rcases s.nw p o q with z | z
    · rw [g] at z; cases z
    · exact absurd z x.some
theorem Stp.trans (s : Stp b G H G' H' n') (t : Stp b G' H' G2 H2 n2) : Stp b G H G2 H2 n2 := by
  refine ⟨s.gg.trans t.gg, t.gh, fun a o n e => t.kp a o n (s.kp a o n e), fun a o e => ?_, t.bx⟩
  rcases t.nw a o e with z | z
  · exact s.nw a o z
  · right
    cases q : H a with
    | none => rfl
    | some u =>
      by_cases ha : some a = b
      · exact absurd z (s.bx a ha.symm).some
      · rw [s.kp a u ha q] at z; cases z
theorem same_upd {p : Addr} {o : HO} (h : H p = none) : Same H (upd H p o) := fun b x e => by
  rw [upd_ne (ne_of_none e h)]
  exact e
theorem same_upd2 {p : Addr} {o : HO} (s : Same G H) : Same (upd G p o) (upd H p o) := fun b x e => by
  unfold upd at e ⊢
  split at e
  · rename_i h; rw [if_pos h]; exact e
  · rename_i h; rw [if_neg h]; exact s b x e
/-- a new object, for all to see -/
theorem Stp.new (h : Ok b G H n) {p : Addr} {o : HO} (np : H p = none) : Stp b G H (upd G p o) (upd H p o) n := by
  have gp : G p = none := h.sub.free np
  refine ⟨same_upd gp, same_upd2 h.sub, fun a u _ e => same_upd np a u e, fun a u e => ?_, fun q e => ?_⟩
  · by_cases z : a = p
    · rw [z]; exact .inr np
    · rw [upd_ne z] at e; exact .inl e
  · obtain ⟨x, y, z, e1, r⟩ := (h.box q e).2
    exact ⟨x, y, z, same_upd np _ _ e1, r⟩
/-- a new object of one's own -/
theorem Stp.own (h : Ok b G H n) {p : Addr} {o : HO} (np : H p = none) : Stp b G H G (upd H p o) n := by
  refine ⟨Same.refl _, fun a u e => same_upd np a u (h.sub a u e), fun a u _ e => same_upd np a u e, fun a u e => .inl e, fun q e => ?_⟩
  obtain ⟨x, y, z, e1, r⟩ := (h.box q e).2
  exact ⟨x, y, z, same_upd np _ _ e1, r⟩
end

/-! ### the names of a def -/
inductive Ent where
  | no
  | sh (d : D)
  | ow (d : D)
def EntOk (K : PySem.W.Frag) (b : Option Addr) (H0 G H : Hp) : Ent → Option (Option V) → Prop
  | .no, _ => True
  | .sh d, s => ∃ v, s = some (some v) ∧ Rp K b G v d
  | .ow d, s => ∃ p, s = some (some (.ref p)) ∧ G p = none ∧ H0 p = none ∧ some p ≠ b ∧
    ((∃ xs ds, d = .list ds ∧ H p = some (.lst xs) ∧ xs.length ≤ sizeLine ∧ Rps K b G xs ds) ∨ (∃ xs ds, d = .dict ds ∧ H p = some (.dK xs) ∧ xs.length ≤ sizeLine ∧ Rkv K b G xs ds) ∨
    (∃ C dx c xs ds, d = .obj c ds ∧ PySem.W.nsIn K mainGlobals c = some (some (.ref C)) ∧ H p = some (.ins C dx xs) ∧ xs.length ≤ 900 ∧ Rfs K b G xs ds))
structure Rho (K : PySem.W.Frag) (b : Option Addr) (G0 H0 G H : Hp) (n : Nat) (s : L2.St) (r : List Ent) : Prop where
  ok : Ok b G H n
  st : Stp b G0 H0 G H n
  len : r.length = s.length
  ent : ∀ (i : Nat) (e : Ent), r[i]? = some e → EntOk K b H0 G H e s[i]?
  dj : ∀ (i j : Nat) (p : Addr) (d e : D), r[i]? = some (.ow d) → r[j]? = some (.ow e) → s[i]? = some (some (.ref p)) → s[j]? = some (some (.ref p)) → i = j
section
variable {K : PySem.W.Frag} {b : Option Addr} {G0 H0 G H G' H' : Hp} {n n' : Nat} {s : L2.St} {r : List Ent}
theorem EntOk.step {e : Ent} {x : Option (Option V)} (h : EntOk K b H0 G H e x) (st : Stp b G H G' H' n') : EntOk K b H0 G' H' e x := by
  cases e with
  | no => trivial
  | sh d =>
    obtain ⟨v, e1, e2⟩ := h
    exact ⟨v, e1, e2.mono st.gg⟩
  | ow d =>
    obtain ⟨p, e1, e2, e3, e4, e5⟩ := h
    have hp : H p ≠ none := by
      rcases e5 with ⟨xs, ds, _, q, _⟩ | ⟨xs, ds, _, q, _⟩ | ⟨_, _, _, xs, ds, _, _, q, _⟩ <;> (rw [q]; intro z; cases z)
    refine ⟨p, e1, ?_, e3, e4, ?_⟩
    · cases q : G' p with
      | none => rfl
      | some o =>
        rcases st.nw p o q with z | z
        · rw [e2] at z; cases z
        · exact absurd z hp
    · rcases e5 with ⟨xs, ds, q1, q2, q3, q4⟩ | ⟨xs, ds, q1, q2, q3, q4⟩ | ⟨C, dx, c, xs, ds, q1, q0, q2, q3, q4⟩
      · exact .inl ⟨xs, ds, q1, st.kp _ _ e4 q2, q3, q4.mono st.gg⟩
      · exact .inr (.inl ⟨xs, ds, q1, st.kp _ _ e4 q2, q3, q4.mono st.gg⟩)
      · exact .inr (.inr ⟨C, dx, c, xs, ds, q1, q0, st.kp _ _ e4 q2, q3, q4.mono st.gg⟩)
theorem Rho.step (h : Rho K b G0 H0 G H n s r) (st : Stp b G H G' H' n') : Rho K b G0 H0 G' H' n' s r :=
  ⟨h.ok.step st, h.st.trans st, h.len, fun i e q => (h.ent i e q).step st, h.dj⟩
/-- a name gets a shared thing -/
theorem Rho.setSh (h : Rho K b G0 H0 G H n s r) {i : Nat} {v : V} {d : D} (e : Rp K b G v d) : Rho K b G0 H0 G H n (s.set i (some v)) (r.set i (.sh d)) := by
  refine ⟨h.ok, h.st, by rw [List.length_set, List.length_set]; exact h.len, fun j x q => ?_, fun j k p d1 d2 q1 q2 q3 q4 => ?_⟩
  · by_cases hj : i = j
    · subst hj
      have hl : i < r.length := by
        have := (List.getElem?_eq_some_iff.mp q).1
        simpa using this
      rw [List.getElem?_set_self hl] at q
      cases q
      rw [List.getElem?_set_self (by rw [← h.len]; exact hl)]
      exact ⟨v, rfl, e⟩
    · rw [List.getElem?_set_ne hj] at q
      rw [List.getElem?_set_ne hj]
      exact h.ent j x q
  · have n1 : i ≠ j := fun z => by
      subst z
      have hl : i < r.length := by
        have := (List.getElem?_eq_some_iff.mp q1).1
        simpa using this
      rw [List.getElem?_set_self hl] at q1
      cases q1
    have n2 : i ≠ k := fun z => by
      subst z
      have hl : i < r.length := by
        have := (List.getElem?_eq_some_iff.mp q2).1
        simpa using this
      rw [List.getElem?_set_self hl] at q2
      cases q2
    rw [List.getElem?_set_ne n1] at q1 q3
    rw [List.getElem?_set_ne n2] at q2 q4
    exact h.dj j k p d1 d2 q1 q2 q3 q4
/-- a name is wiped -/
theorem Rho.wipe1 (h : Rho K b G0 H0 G H n s r) {i : Nat} {x : Option V} : Rho K b G0 H0 G H n (s.set i x) (r.set i .no) := by
  refine ⟨h.ok, h.st, by rw [List.length_set, List.length_set]; exact h.len, fun j e q => ?_, fun j k p d1 d2 q1 q2 q3 q4 => ?_⟩
  · by_cases hj : i = j
    · subst hj
      have hl : i < r.length := by
        have := (List.getElem?_eq_some_iff.mp q).1
        simpa using this
      rw [List.getElem?_set_self hl] at q
      cases q
      trivial
    · rw [List.getElem?_set_ne hj] at q
      rw [List.getElem?_set_ne hj]
      exact h.ent j e q
  · have n1 : i ≠ j := fun z => by
      subst z
      have hl : i < r.length := by
        have := (List.getElem?_eq_some_iff.mp q1).1
        simpa using this
      rw [List.getElem?_set_self hl] at q1
      cases q1
    have n2 : i ≠ k := fun z => by
      subst z
      have hl : i < r.length := by
        have := (List.getElem?_eq_some_iff.mp q2).1
        simpa using this
      rw [List.getElem?_set_self hl] at q2
      cases q2
    rw [List.getElem?_set_ne n1] at q1 q3
    rw [List.getElem?_set_ne n2] at q2 q4
    exact h.dj j k p d1 d2 q1 q2 q3 q4
end

/-! ### the lifts -/
/-- an exception: its class by name, its own attributes -/
structure Exn where
  cls : Str
  fs : List (Str × D)
abbrev QX := Exn → Nat → Prop
abbrev TD := List Ent → Nat → (D → Nat → Prop) → QX → Prop
abbrev TDA := List Ent → Nat → (List D → Nat → Prop) → QX → Prop
abbrev TDT := List Ent → Nat → (Bool → Nat → Prop) → QX → Prop
/-- what is known of the module -/
structure Cn where
  K : PySem.W.Frag
  mg : Str → Option Value
def Rx (c : Cn) (b : Option Addr) (G H : Hp) (cls : Value) (d : Option Addr) (x : Exn) : Prop :=
  c.mg x.cls = some cls ∧ ∃ p fs, d = some p ∧ H p = some (.xd fs) ∧ Rfs c.K b G fs x.fs
abbrev WD := Value → Option Addr → L2.St → Hp → Prop
def XOk (c : Cn) (W : WD) (b : Option Addr) (G H : Hp) (s : L2.St) (Ex : QX) : Prop :=
  ∀ cls d G' H' n' x, Stp b G H G' H' n' → Rx c b G' H' cls d x → Ex x n' → W cls d s H'
def lift (c : Cn) (W : WD) (te : TD) : TE := fun s H Q => ∃ b G0 H0 G n r Qd Ex, Rho c.K b G0 H0 G H n s r ∧ te r n Qd Ex ∧ XOk c W b G H s Ex ∧ ∀ v G' H' n' d, Stp b G H G' H' n' → Rp c.K b G' v d → Qd d n' → Q v H'
def liftA (c : Cn) (W : WD) (te : TDA) : TA := fun s H Q => ∃ b G0 H0 G n r Qd Ex, Rho c.K b G0 H0 G H n s r ∧ te r n Qd Ex ∧ XOk c W b G H s Ex ∧ ∀ v G' H' n' d, Stp b G H G' H' n' → Rps c.K b G' v d → Qd d n' → Q v H'
def liftT (c : Cn) (W : WD) (te : TDT) : TT := fun s H Q => ∃ b G0 H0 G n r Qd Ex, Rho c.K b G0 H0 G H n s r ∧ te r n Qd Ex ∧ XOk c W b G H s Ex ∧ ∀ G' H' n' d, Stp b G H G' H' n' → Qd d n' → Q d H'
theorem pe_imp {X : Cx} {e : Expr} {t t' : TE} (h : PE X e t) (i : ∀ s H Q, t' s H Q → t s H Q) : PE X e t' := ⟨fun pins s a H Q I q => h.run pins s a H Q I (i _ _ _ q)⟩
theorem pt_imp {X : Cx} {e : Expr} {t t' : TT} (h : PT X e t) (i : ∀ s H Q, t' s H Q → t s H Q) : PT X e t' := ⟨fun pins s a H Q I q => h.run pins s a H Q I (i _ _ _ q)⟩
theorem pw_imp {X : Cx} {e : Expr} {t t' : TT} (h : PW X e t) (i : ∀ s H Q, t' s H Q → t s H Q) : PW X e t' := ⟨fun wh pins s a H Q I q => h.run wh pins s a H Q I (i _ _ _ q)⟩
theorem pa_imp {X : Cx} {e : List Expr} {t t' : TA} (h : PA X e t) (i : ∀ s H Q, t' s H Q → t s H Q) : PA X e t' := ⟨fun pos pins s a H Q I q => h.run pos pins s a H Q I (i _ _ _ q)⟩
section
variable {c : Cn} {W : WD} {s : L2.St} {H : Hp} {b : Option Addr} {G0 H0 G G' H' : Hp} {n n' : Nat} {r : List Ent} {Ex : QX}
theorem XOk.step (h : XOk c W b G H s Ex) (st : Stp b G H G' H' n') : XOk c W b G' H' s Ex := fun cls d G2 H2 n2 x s2 e q => h cls d G2 H2 n2 x (st.trans s2) e q
/-- one part, then the next -/
theorem lift_bind {te : TD} {Q : VK} {Qd : D → Nat → Prop} (h : Rho c.K b G0 H0 G H n s r) (x : XOk c W b G H s Ex) (t : te r n Qd Ex)
    (k : ∀ v G' H' n' d, Rho c.K b G0 H0 G' H' n' s r → XOk c W b G' H' s Ex → Stp b G H G' H' n' → Rp c.K b G' v d → Qd d n' → Q v H') : lift c W te s H Q :=
  ⟨b, G0, H0, G, n, r, Qd, Ex, h, t, x, fun v G' H' n' d st e q => k v G' H' n' d (h.step st) (x.step st) st e q⟩
theorem liftA_bind {te : TDA} {Q : List V → Hp → Prop} {Qd : List D → Nat → Prop} (h : Rho c.K b G0 H0 G H n s r) (x : XOk c W b G H s Ex) (t : te r n Qd Ex)
    (k : ∀ v G' H' n' d, Rho c.K b G0 H0 G' H' n' s r → XOk c W b G' H' s Ex → Stp b G H G' H' n' → Rps c.K b G' v d → Qd d n' → Q v H') : liftA c W te s H Q :=
  ⟨b, G0, H0, G, n, r, Qd, Ex, h, t, x, fun v G' H' n' d st e q => k v G' H' n' d (h.step st) (x.step st) st e q⟩
theorem liftT_bind {te : TDT} {Q : Bool → Hp → Prop} {Qd : Bool → Nat → Prop} (h : Rho c.K b G0 H0 G H n s r) (x : XOk c W b G H s Ex) (t : te r n Qd Ex)
    (k : ∀ G' H' n' d, Rho c.K b G0 H0 G' H' n' s r → XOk c W b G' H' s Ex → Stp b G H G' H' n' → Qd d n' → Q d H') : liftT c W te s H Q :=
  ⟨b, G0, H0, G, n, r, Qd, Ex, h, t, x, fun G' H' n' d st q => k G' H' n' d (h.step st) (x.step st) st q⟩
end
end Dl

set_option Elab.async false
set_option linter.all false
set_option maxRecDepth 100000
set_option maxHeartbeats 4000000
/-! A small language of expressions and statements over data, and what it asks. -/
namespace Dl
open PySem PySem.Spec PyProof.Rows L2

/-! ### what the operators do -/
mutual
def D.py : D → PyData
  | .non => .none
  | .bl b => .bool b
  | .int i => .int i
  | .str s => .str s
  | .list xs => .list (D.pys xs)
  | .tup xs => .tuple (D.pys xs)
  | .dict _ => .dict []
  | .obj _ _ => .none
  | .pin _ => .none
  | .box => .none
def D.pys : List D → List PyData
  | [] => []
  | x :: xs => D.py x :: D.pys xs
end
mutual
/-- no dict in it; at most so deep -/
def D.flat : Nat → D → Bool
  | _, .non => true
  | _, .bl _ => true
  | _, .int _ => true
  | _, .str _ => true
  | 0, .list _ => false
  | 0, .tup _ => false
  | k + 1, .list xs => D.flats k xs
  | k + 1, .tup xs => D.flats k xs
  | _, .dict _ => false
  | _, .obj _ _ => false
  | _, .pin _ => false
  | _, .box => false
def D.flats : Nat → List D → Bool
  | _, [] => true
  | k, x :: xs => D.flat k x && D.flats k xs
end
def D.isStr : D → Bool
  | .str _ => true
  | _ => false
def D.isBox : D → Bool
  | .box => true
  | .obj _ _ => true
  | .pin _ => true
  | _ => false
def D.eqb (x y : D) : Bool := PyData.eqv x.py y.py
/-- may be compared by == -/
def eqOk (x y : D) : Bool := (y.isStr && !x.isBox) || (x.flat 64 && y.flat 64) || (match x, y with
  | .tup _, .tup [] => true
  | _, _ => false)
def neOk (x y : D) : Bool := (y.isStr && !x.isBox) || (x.flat 64 && y.flat 64)
def D.scal : D → Bool
  | .non => true
  | .bl _ => true
  | .int _ => true
  | .str _ => true
  | _ => false
def inOk (x : D) (ys : List D) : Bool := (ys.all D.isStr && !x.isBox) || (x.flat 63 && D.flats 63 ys)
def D.truth : D → Option Bool
  | .non => some false
  | .bl b => some b
  | .int i => some (i != 0)
  | .str s => some ((s.length : Int) != 0)
  | .list xs => some (!xs.isEmpty)
  | .tup xs => some (!xs.isEmpty)
  | .dict xs => some (!xs.isEmpty)
  | .obj _ _ => none
  | .pin _ => none
  | .box => none
inductive BOp where
  | add | sub | mul | mod | fdiv | pow
inductive COp where
  | eq | ne | lt | le | gt | ge | is | isnot | inn | notin
def repL (xs : List D) : Nat → List D
  | 0 => []
  | k + 1 => xs ++ repL xs k
def repS (z : Str) (n : Nat) : Str := ⟨(List.replicate n z.cps).foldl (· ++ ·) #[]⟩
def small64 (i : Int) : Bool := decide (-(2 ^ 64) < i) && decide (i < 2 ^ 64)
def binop : BOp → D → D → Option D
  | .add, .int i, .int j => some (.int (i + j))
  | .add, .str a, .str c => if a.length + c.length ≤ sizeLine then some (.str (a ++ c)) else none
  | .add, .list a, .list c => if a.length + c.length ≤ sizeLine then some (.list (a ++ c)) else none
  | .add, .tup a, .tup c => if a.length + c.length ≤ sizeLine then some (.tup (a ++ c)) else none
  | .sub, .int i, .int j => some (.int (i - j))
  | .mul, .int i, .int j => if small64 i || small64 j then some (.int (i * j)) else none
  | .mul, .list a, .int j => if decide (-(2 ^ 63) ≤ j) && decide (j < 2 ^ 63) && decide (a.length * j.toNat ≤ sizeLine) then some (.list (repL a j.toNat)) else none
  | .mul, .tup a, .int j => if decide (2 ≤ j) && decide (j ≤ 1000) && !a.isEmpty && decide (a.length ≤ 1000) then some (.tup (repL a j.toNat)) else none
  | .mul, .str a, .int j => if decide (2 ≤ j) && decide (j ≤ 1000) && decide (1 ≤ a.length) && decide (a.length ≤ 1000) && decide ((repS a j.toNat).length ≤ sizeLine) then some (.str (repS a j.toNat)) else none
  | .mod, .int i, .int j => if 0 < j then some (.int (i % j)) else none
  | .fdiv, .int i, .int j => if decide (0 < j) && decide (j < 1073741824) then some (.int (i / j)) else none
  | .pow, .int i, .int j => if decide (0 ≤ j) && decide (j ≤ 1000000) && decide (i.natAbs < 2 ^ 64) then some (.int (i ^ j.toNat)) else none
  | _, _, _ => none
def inS (x z : Str) : Bool := !(PySem.Builtin.Str.occurrences z x 0 z.length 1).isEmpty
def cmpop : COp → D → D → Option Bool
  | .eq, x, y => if eqOk x y then some (x.eqb y) else none
  | .ne, x, y => if neOk x y then some (!x.eqb y) else none
  | .lt, .int i, .int j => some (decide (i < j))
  | .le, .int i, .int j => some (decide (i ≤ j))
  | .gt, .int i, .int j => some (decide (j < i))
  | .ge, .int i, .int j => some (decide (j ≤ i))
  | .is, x, .non => some (match x with
    | .non => true
    | _ => false)
  | .isnot, x, .non => some (match x with
    | .non => false
    | _ => true)
  | .is, .bl a, .bl c => some (decide (a = c))
  | .isnot, .bl a, .bl c => some (!decide (a = c))
  | .inn, x, .list ys => if inOk x ys then some (ys.any fun z => z.eqb x) else none
  | .inn, x, .tup ys => if inOk x ys then some (ys.any fun z => z.eqb x) else none
  | .notin, x, .list ys => if inOk x ys then some (!ys.any fun z => z.eqb x) else none
  | .notin, x, .tup ys => if inOk x ys then some (!ys.any fun z => z.eqb x) else none
  | .inn, .str x, .str z => some (inS x z)
  | .notin, .str x, .str z => some (!inS x z)
  | _, _, _ => none
def getI (x i : D) : Option D := match x, i with
  | .list xs, .int k => atI xs k
  | .tup xs, .int k => atI xs k
  | .str z, .int k => (atI z.cps.toList k).map fun c => .str ⟨#[c]⟩
  | _, _ => none
def cutD (xs : List D) (lo hi : Option Int) : List D := (xs.drop (HT.sIx xs.length 0 lo)).take (HT.sIx xs.length xs.length hi - HT.sIx xs.length 0 lo)
def slcD (x : D) (lo hi : Option Int) : Option D := match x with
  | .list xs => some (.list (cutD xs lo hi))
  | .tup xs => some (.tup (cutD xs lo hi))
  | .str z => some (.str (cutS z lo hi))
  | _ => none
/-- built-in classes, for isinstance -/
inductive Ty where
  | int | bool | str | list | tuple | dict
def D.isTy : D → Ty → Bool
  | .bl _, .bool => true
  | .bl _, .int => true
  | .int _, .int => true
  | .str _, .str => true
  | .list _, .list => true
  | .tup _, .tuple => true
  | .dict _, .dict => true
  | _, _ => false
def bools : List D → Option (List Bool)
  | [] => some []
  | .bl b :: r => (bools r).map (b :: ·)
  | _ :: _ => none
def strsD : List D → Option (List Str)
  | [] => some []
  | .str b :: r => (strsD r).map (b :: ·)
  | _ :: _ => none
inductive Bi where
  | len | tuple | list | all | any | int | abs
def biD : Bi → List D → Option D
  | .len, [.list xs] => some (.int xs.length)
  | .len, [.tup xs] => some (.int xs.length)
  | .len, [.str z] => some (.int z.length)
  | .len, [.dict xs] => some (.int xs.length)
  | .tuple, [.list xs] => some (.tup xs)
  | .tuple, [.tup xs] => some (.tup xs)
  | .list, [.list xs] => some (.list xs)
  | .list, [.tup xs] => some (.list xs)
  | .all, [.list xs] => (bools xs).map fun bs => .bl (bs.all id)
  | .any, [.list xs] => (bools xs).map fun bs => .bl (bs.any id)
  | .int, [.int i] => some (.int i)
  | .int, [.bl b] => some (.int (if b then 1 else 0))
  | .abs, [.int i] => some (.int (if i < 0 then -i else i))
  | _, _ => none
def joinD (z : Str) (x : D) : Option D := match x with
  | .list xs => match strsD xs with
    | some ys => if (ys.map (·.length)).sum + ys.length * z.length ≤ 16777216 then some (.str (Txt.join z ys)) else none
    | none => none
  | _ => none

/-- a key more, unless it is there -/
def more1 {K : Type} [DecidableEq K] (l : List K) (x : K) : List K := if x ∈ l then l else l ++ [x]
def unlike {K : Type} [DecidableEq K] (xs : List K) : List K := xs.foldl more1 []
/-! ### the language -/
inductive Tg where
  | one (i : Nat)
  | many (l : List Nat)
  | nest (i : Nat) (l : List Nat)
mutual
inductive IE where
  | bad
  | v (i : Nat)
  | k (d : D)
  | g (x : Str)
  | bin (op : BOp) (a c : IE)
  | neg (a : IE)
  | cmp (op : COp) (a c : IE)
  | chain (op op' : COp) (a c e : IE)
  | and (a : IAs)
  | or (a : IAs)
  | not (a : IE)
  | tand (a : IAs)
  | tor (a : IAs)
  | tnot (a : IE)
  | ite (c a e : IE)
  | lst (a : IAs)
  | tup (a : IAs)
  | ix (a i : IE)
  | slc (a : IE) (hl hh : Bool) (lo hi : IE)
  | rev (a : IE)
  | call (f : Str) (a : IAs)
  | stat (C m : Str) (a : IAs)
  | statk (C m : Str) (ks : List Str) (a : IAs)
  | bi (f : Bi) (a : IE)
  | lenset (a : IE)
  | isi (a : IE) (ts : List Ty)
  | comp (s : ISr) (t : Tg) (c : IE) (e : IE)
  | join (z : Str) (a : IE)
  | gget (x : Str) (a e : IE)
  | dis (ks : List Key) (a : IAs)
  | inO (neg : Bool) (a : IE) (i : Nat)
  | lenO (i : Nat)
  | cat (a c : IE)
  | attr (a : IE) (f : Str)
  | ixm (a i : IE)
  | inm (neg : Bool) (a c : IE)
  | mk (C : Str) (a : IAs)
  | callk (f : Str) (ks : List Str) (a : IAs)
  | mm (mx : Bool) (a c : IE)
  | mmL (mx : Bool) (a : IE)
  | comp2 (s : ISr) (t : Tg) (s2 : ISr) (t2 : Tg) (c : IE) (e : IE)
inductive IAs where
  | nil
  | cons (e : IE) (r : IAs)
  | star (e : IE) (r : IAs)
inductive ISr where
  | ex (e : IE)
  | rng1 (a : IE)
  | rng2 (a c : IE)
  | enum (a : IE)
  | zip (a c : IE)
end
def IAs.isNil : IAs → Bool
  | .nil => true
  | _ => false
abbrev FS := List D → Nat → (D → Nat → Prop) → QX → Prop
structure Tab where
  fs : Str → Option FS
  gv : Str → Option D
  gd : Str → Option (List (Str × D))
  sm : Str → Str → Option (List Str × FS) := fun _ _ => none
  /-- fields of a class's instances -/
  fl : Str → Str → Bool := fun _ _ => false
  /-- methods -/
  me : Str → Str → Option FS := fun _ _ => none
  /-- a class called -/
  cl : Str → Option FS := fun _ => none
  /-- a def called with keywords alone -/
  kw : Str → List Str → Option FS := fun _ _ => none
def ofO {α : Type} (o : Option α) (Q : α → Prop) : Prop := match o with
  | some z => Q z
  | none => False
@[simp] theorem ofO_some {α : Type} (z : α) (Q : α → Prop) : ofO (some z) Q = Q z := rfl
@[simp] theorem ofO_none {α : Type} (Q : α → Prop) : ofO none Q = False := rfl
theorem ofO_iff {α : Type} {o : Option α} {Q : α → Prop} (h : ofO o Q) : ∃ z, o = some z ∧ Q z := by
  cases o with
  | none => exact h.elim
  | some z => exact ⟨z, rfl, h⟩
def setMany : List Ent → List Nat → List D → Option (List Ent)
  | r, [], [] => some r
  | r, i :: is, d :: ds => setMany (r.set i (.sh d)) is ds
  | _, _, _ => none
def bindT (t : Tg) (r : List Ent) (d : D) : Option (List Ent) := match t with
  | .one i => some (r.set i (.sh d))
  | .many is => match d with
    | .tup ds => setMany r is ds
    | .list ds => setMany r is ds
    | _ => none
  | .nest i is => match d with
    | .tup [d1, .tup ds] => setMany (r.set i (.sh d1)) is ds
    | _ => none
def Tg.slots : Tg → List Nat
  | .one i => [i]
  | .many l => l
  | .nest i l => i :: l
def wipeR (r : List Ent) : List Nat → List Ent
  | [] => r
  | v :: vs => (wipeR r vs).set v .no
def iotaI (lo : Int) : Nat → List D
  | 0 => []
  | k + 1 => .int lo :: iotaI (lo + 1) k
def enumD (i : Int) : List D → List D
  | [] => []
  | d :: ds => .tup [.int i, d] :: enumD (i + 1) ds
def zipD : List D → List D → List D
  | x :: xs, y :: ys => .tup [x, y] :: zipD xs ys
  | _, _ => []
def signs (z : Str) : List D := z.cps.toList.map fun c => .str ⟨#[c]⟩
def itemsD : D → Option (List D)
  | .list xs => some xs
  | .tup xs => some xs
  | .str z => some (signs z)
  | _ => none
/-- a comprehension's turns -/
def compL (f : D → Nat → (Option D → Nat → Prop) → Prop) : List D → List D → Nat → (List D → Nat → Prop) → Prop
  | [], acc, n, Q => Q acc n
  | d :: ds, acc, n, Q => f d n fun o n1 => compL f ds (match o with
    | some y => acc ++ [y]
    | none => acc) n1 Q
/-- turns of which it is not known how many -/
def compB (f : D → Nat → (Option D → Nat → Prop) → Prop) : List D → List D → Nat → (List D → Nat → Prop) → Prop
  | [], acc, n, Q => Q acc n
  | d :: ds, acc, n, Q => f d n fun o n1 => match o with
    | some y => acc.length < sizeLine ∧ compB f ds (acc ++ [y]) n1 Q
    | none => compB f ds acc n1 Q
/-- two walks, one in the other -/
def comp2L (f : D → Nat → (List Ent → List D → Nat → Prop) → Prop) (h : List Ent → D → Nat → (Option D → Nat → Prop) → Prop) : List D → List D → Nat → (List D → Nat → Prop) → Prop
  | [], acc, n, Q => Q acc n
  | d :: ds, acc, n, Q => f d n fun r' ds2 n1 => compB (h r') ds2 acc n1 fun acc2 n2 => comp2L f h ds acc2 n2 Q
def intsD : List D → Option (List Int)
  | [] => some []
  | .int b :: r => (intsD r).map (b :: ·)
  | _ :: _ => none
def maxL : List Int → Int
  | [] => 0
  | [i] => i
  | i :: r => max i (maxL r)
def minL : List Int → Int
  | [] => 0
  | [i] => i
  | i :: r => min i (minL r)
/-- a list, one's own or not -/
def owL (r : List Ent) (i : Nat) : Option (List D) := match r[i]? with
  | some (.sh (.list ys)) => some ys
  | some (.ow (.list ys)) => some ys
  | _ => none
def noX : QX := fun _ _ => False
def optI (h : Bool) (x : D) : Option (Option Int) := if h then (match x with
  | .int i => some (some i)
  | _ => none) else some none
def keysD (ks : List Key) (xs : List D) : List (Key × D) := ks.zip xs
def wP (h : Bool) (w : (D → Nat → Prop) → Prop) (n : Nat) (k : Option Int → Nat → Prop) : Prop := if h = true then w (fun x n1 => match x with
    | .int i => k (some i) n1
    | _ => False) else k none n
/-- its truth -/
def tru (Q : Bool → Nat → Prop) : D → Nat → Prop := fun x n => ofO x.truth fun z => Q z n
mutual
def wE (T : Tab) : IE → List Ent → Nat → (D → Nat → Prop) → QX → Prop
  | .bad, _, _, _, _ => False
  | .v i, r, n, Q, _ => match r[i]? with
    | some (.sh d) => Q d n
    | _ => False
  | .k d, _, n, Q, _ => Q d n
  | .g x, _, n, Q, _ => ofO (T.gv x) fun d => Q d n
  | .bin op a c, r, n, Q, E => wE T a r n (fun x n1 => wE T c r n1 (fun y n2 => ofO (binop op x y) fun z => Q z n2) E) E
  | .neg a, r, n, Q, E => wE T a r n (fun x n1 => match x with
    | .int i => Q (.int (-i)) n1
    | _ => False) E
  | .cmp op a c, r, n, Q, E => wE T a r n (fun x n1 => wE T c r n1 (fun y n2 => ofO (cmpop op x y) fun z => Q (.bl z) n2) E) E
  | .chain op op' a c e, r, n, Q, E => wE T a r n (fun x n1 => wE T c r n1 (fun y n2 => ofO (cmpop op x y) fun z => if z = true then wE T e r n2 (fun w n3 => ofO (cmpop op' y w) fun z' => Q (.bl z') n3) E else Q (.bl false) n2) E) E
  | .and a, r, n, Q, E => wAnd T a r n Q E
  | .or a, r, n, Q, E => wOr T a r n Q E
  | .not a, r, n, Q, E => wE T a r n (fun x n1 => ofO x.truth fun z => Q (.bl (!z)) n1) E
  | .tand a, r, n, Q, E => wAndT T a r n Q E
  | .tor a, r, n, Q, E => wOrT T a r n Q E
  | .tnot a, r, n, Q, E => wE T a r n (tru fun z n1 => Q (.bl (!z)) n1) E
  | .ite c a e, r, n, Q, E => wE T c r n (tru fun z n1 => if z = true then wE T a r n1 Q E else wE T e r n1 Q E) E
  | .lst a, r, n, Q, E => wA T a r n (fun xs n1 => xs.length ≤ sizeLine ∧ Q (.list xs) n1) E
  | .tup a, r, n, Q, E => wA T a r n (fun xs n1 => xs.length ≤ sizeLine ∧ Q (.tup xs) n1) E
  | .ix a i, r, n, Q, E => wE T a r n (fun x n1 => wE T i r n1 (fun y n2 => ofO (getI x y) fun z => Q z n2) E) E
  | .slc a hl hh lo hi, r, n, Q, E => wE T a r n (fun x n1 => wP hl (fun q => wE T lo r n1 q E) n1 fun l n2 => wP hh (fun q => wE T hi r n2 q E) n2 fun h n3 => ofO (slcD x l h) fun z => Q z n3) E
  | .rev a, r, n, Q, E => wE T a r n (fun x n1 => match x with
    | .list xs => Q (.list xs.reverse) n1
    | .tup xs => Q (.tup xs.reverse) n1
    | _ => False) E
  | .call f a, r, n, Q, E => ofO (T.fs f) fun sp => wA T a r n (fun xs n1 => sp xs n1 Q E) E
  | .stat C m a, r, n, Q, E => ofO (T.sm C m) fun sp => wA T a r n (fun xs n1 => sp.2 xs n1 Q noX) E
  | .statk C m ks a, r, n, Q, E => ofO (T.sm C m) fun sp => sp.1 = ks ∧ wA T a r n (fun xs n1 => sp.2 xs n1 Q noX) E
  | .bi f a, r, n, Q, E => wE T a r n (fun x n1 => ofO (biD f [x]) fun z => Q z n1) E
  | .lenset a, r, n, Q, E => wE T a r n (fun x n1 => match x with
    | .tup xs => ofO (strsD xs) fun ys => ys.length ≤ 1000 ∧ Q (.int ((unlike ys).length : Nat)) n1
    | _ => False) E
  | .isi a ts, r, n, Q, E => wE T a r n (fun x n1 => x.isBox = false ∧ Q (.bl (ts.any fun t => x.isTy t)) n1) E
  | .comp s t c e, r, n, Q, E => wI T s r n (fun ds n1 => compL (fun d m k => ofO (bindT t r d) fun r' => wE T c r' m (tru fun z m1 => if z = true then wE T e r' m1 (fun y m2 => k (some y) m2) noX else k none m1) noX) ds [] n1 fun xs n2 => Q (.list xs) n2) E
  | .join z a, r, n, Q, E => wE T a r n (fun x n1 => ofO (joinD z x) fun y => Q y n1) E
  | .gget x a e, r, n, Q, E => ofO (T.gd x) fun kv => wE T a r n (fun y n1 => wE T e r n1 (fun w n2 => match y with
    | .str k => Q ((kv.lookup k).getD w) n2
    | _ => False) E) E
  | .dis ks a, r, n, Q, E => wA T a r n (fun xs n1 => ks.length = xs.length ∧ ks.Nodup ∧ ks.length ≤ 15 ∧ Q (.dict (keysD ks xs)) n1) E
  | .inO neg a i, r, n, Q, E => wE T a r n (fun x n1 => ofO (owL r i) fun ys => inOk x ys = true ∧ Q (.bl (if neg then !ys.any fun z => z.eqb x else ys.any fun z => z.eqb x)) n1) E
  | .lenO i, r, n, Q, _ => ofO (owL r i) fun ys => Q (.int ys.length) n
  | .cat a c, r, n, Q, E => wE T a r n (fun x n1 => wE T c r n1 (fun y n2 => match x, y with
    | .list xs, .list ys => xs.length + ys.length ≤ sizeLine ∧ Q (.list (xs ++ ys)) n2
    | _, _ => False) E) E
  | .attr a f, r, n, Q, E => wE T a r n (fun x n1 => match x with
    | .obj c fs => T.fl c f = true ∧ ofO (fs.lookup f) fun d => Q d n1
    | _ => False) E
  | .ixm a i, r, n, Q, E => wE T a r n (fun x n1 => wE T i r n1 (fun y n2 => match x with
    | .obj c _ => ofO (T.me c "__getitem__") fun sp => sp [x, y] n2 Q E
    | _ => False) E) E
  | .inm neg a c, r, n, Q, E => wE T a r n (fun x n1 => wE T c r n1 (fun y n2 => match y with
    | .obj c _ => ofO (T.me c "__contains__") fun sp => sp [y, x] n2 (fun d m => match d with
      | .bl z => Q (.bl (if neg then !z else z)) m
      | _ => False) E
    | _ => False) E) E
  | .mk C a, r, n, Q, E => ofO (T.cl C) fun sp => wA T a r n (fun xs n1 => sp xs n1 Q noX) E
  | .callk f ks a, r, n, Q, E => ofO (T.kw f ks) fun sp => wA T a r n (fun xs n1 => sp xs n1 Q E) E
  | .mm mx a c, r, n, Q, E => wE T a r n (fun x n1 => wE T c r n1 (fun y n2 => match x, y with
    | .int i, .int j => Q (.int (if mx then max i j else min i j)) n2
    | _, _ => False) E) E
  | .mmL mx a, r, n, Q, E => wE T a r n (fun x n1 => match x with
    | .list xs => ofO (intsD xs) fun is => is ≠ [] ∧ Q (.int (if mx then maxL is else minL is)) n1
    | _ => False) E
  | .comp2 s t s2 t2 c e, r, n, Q, E => wI T s r n (fun ds n1 => comp2L (fun d m k => ofO (bindT t (wipeR r (t.slots ++ t2.slots)) d) fun r' => wI T s2 r' m (fun ds2 m1 => k r' ds2 m1) noX) (fun r' d m k => ofO (bindT t2 (wipeR r' t2.slots) d) fun r2 => wE T c r2 m (tru fun z m1 => if z = true then wE T e r2 m1 (fun y m2 => k (some y) m2) noX else k none m1) noX) ds [] n1 fun xs n2 => Q (.list xs) n2) E
def wAnd (T : Tab) : IAs → List Ent → Nat → (D → Nat → Prop) → QX → Prop
  | .nil, _, _, _, _ => False
  | .star _ _, _, _, _, _ => False
  | .cons e rest, r, n, Q, E => if rest.isNil = true then wE T e r n Q E else wE T e r n (fun x n1 => ofO x.truth fun z => if z = true then wAnd T rest r n1 Q E else Q x n1) E
def wOr (T : Tab) : IAs → List Ent → Nat → (D → Nat → Prop) → QX → Prop
  | .nil, _, _, _, _ => False
  | .star _ _, _, _, _, _ => False
  | .cons e rest, r, n, Q, E => if rest.isNil = true then wE T e r n Q E else wE T e r n (fun x n1 => ofO x.truth fun z => if z = true then Q x n1 else wOr T rest r n1 Q E) E
/-- as tests -/
def wAndT (T : Tab) : IAs → List Ent → Nat → (D → Nat → Prop) → QX → Prop
  | .nil, _, _, _, _ => False
  | .star _ _, _, _, _, _ => False
  | .cons e rest, r, n, Q, E => wE T e r n (tru fun z n1 => if rest.isNil = true then Q (.bl z) n1 else if z = true then wAndT T rest r n1 Q E else Q (.bl false) n1) E
def wOrT (T : Tab) : IAs → List Ent → Nat → (D → Nat → Prop) → QX → Prop
  | .nil, _, _, _, _ => False
  | .star _ _, _, _, _, _ => False
  | .cons e rest, r, n, Q, E => wE T e r n (tru fun z n1 => if rest.isNil = true then Q (.bl z) n1 else if z = true then Q (.bl true) n1 else wOrT T rest r n1 Q E) E
def wA (T : Tab) : IAs → List Ent → Nat → (List D → Nat → Prop) → QX → Prop
  | .nil, _, n, Q, _ => Q [] n
  | .cons e rest, r, n, Q, E => wE T e r n (fun x n1 => wA T rest r n1 (fun xs n2 => Q (x :: xs) n2) E) E
  | .star e rest, r, n, Q, E => wE T e r n (fun x n1 => match x with
    | .list ys => wA T rest r n1 (fun xs n2 => Q (ys ++ xs) n2) E
    | .tup ys => wA T rest r n1 (fun xs n2 => Q (ys ++ xs) n2) E
    | _ => False) E
def wI (T : Tab) : ISr → List Ent → Nat → (List D → Nat → Prop) → QX → Prop
  | .ex e, r, n, Q, E => wE T e r n (fun x n1 => ofO (itemsD x) fun ds => Q ds n1) E
  | .rng1 a, r, n, Q, E => wE T a r n (fun x n1 => match x with
    | .int j => j < 16777216 ∧ -(2 ^ 62) ≤ j ∧ Q (iotaI 0 j.toNat) n1
    | _ => False) E
  | .rng2 a c, r, n, Q, E => wE T a r n (fun x n1 => wE T c r n1 (fun y n2 => match x, y with
    | .int i, .int j => j - i < 16777216 ∧ -(2 ^ 62) ≤ i ∧ i < 2 ^ 62 ∧ -(2 ^ 62) ≤ j ∧ j < 2 ^ 62 ∧ Q (iotaI i (j - i).toNat) n2
    | _, _ => False) E) E
  | .enum a, r, n, Q, E => wE T a r n (fun x n1 => match x with
    | .list xs => Q (enumD 0 xs) n1
    | .tup xs => Q (enumD 0 xs) n1
    | _ => False) E
  | .zip a c, r, n, Q, E => wE T a r n (fun x n1 => wE T c r n1 (fun y n2 => match x, y with
    | .list xs, .list ys => Q (zipD xs ys) n2
    | .tup xs, .tup ys => Q (zipD xs ys) n2
    | _, _ => False) E) E
end
end Dl

set_option Elab.async false
set_option linter.all false
set_option maxRecDepth 100000
set_option maxHeartbeats 4000000
/-! The operators on data. -/
namespace Dl
open PySem PySem.Spec PyProof.Rows L2
def lr2 (K : PySem.W.Frag) (f : D → D → Option D) : R2 := fun x y H Q => ∃ b G n dx dy z, Ok b G H n ∧ Rp K b G x dx ∧ Rp K b G y dy ∧ f dx dy = some z ∧ ∀ v G' H', Stp b G H G' H' n → Rp K b G' v z → Q v H'
section
variable {K : PySem.W.Frag} {b : Option Addr} {G H : Hp} {n : Nat}
theorem Rps.rep {xs : List V} {ds : List D} (h : Rps K b G xs ds) : ∀ k, Rps K b G ((List.replicate k xs).flatten) (repL ds k)
  | 0 => .nil
  | k + 1 => by
    rw [List.replicate_succ, List.flatten_cons]
    exact h.append (Rps.rep h k)
theorem strOk_app {x y : Str} (hx : PyData.strOk x = true) (hy : PyData.strOk y = true) : PyData.strOk (x ++ y) = true := by
  unfold PyData.strOk at *
  show (x.cps ++ y.cps).all _ = true
  rw [Array.all_append, hx, hy]
  rfl
theorem len_app (x y : Str) : (x ++ y).length = x.length + y.length := by
  show (x.cps ++ y.cps).size = _
  rw [Array.size_append]
  rfl
theorem rp_list_inv {v : V} {ds : List D} (h : Rp K b G v (.list ds)) : ∃ a xs, v = .ref a ∧ G a = some (.lst xs) ∧ xs.length ≤ sizeLine ∧ Rps K b G xs ds := by
  cases h with
  | list h z g => exact ⟨_, _, rfl, h, z, g⟩
theorem rp_tup_inv {v : V} {ds : List D} (h : Rp K b G v (.tup ds)) : ∃ a xs, v = .ref a ∧ SqT K G a xs ∧ xs.length ≤ sizeLine ∧ Rps K b G xs ds := by
  cases h with
  | tup h z g => exact ⟨_, _, rfl, h, z, g⟩
theorem rp_int_inv {v : V} {i : Int} (h : Rp K b G v (.int i)) : v = .int i := by
  cases h
  rfl
theorem rp_bl_inv {v : V} {i : Bool} (h : Rp K b G v (.bl i)) : v = .bl i := by
  cases h
  rfl
theorem rp_non_inv {v : V} (h : Rp K b G v .non) : v = .non := by
  cases h
  rfl
theorem rp_str_inv {v : V} {z : Str} (h : Rp K b G v (.str z)) : v = .str z ∧ z.length ≤ sizeLine ∧ PyData.strOk z = true := by
  cases h with
  | str x z o => exact ⟨rfl, z, o⟩
theorem rp_new_list (ok : Ok b G H n) {p : Addr} (np : H p = none) {xs : List V} {ds : List D} (g : Rps K b G xs ds) (z : xs.length ≤ sizeLine) : Stp b G H (upd G p (.lst xs)) (upd H p (.lst xs)) n ∧ Rp K b (upd G p (.lst xs)) (.ref p) (.list ds) :=
  ⟨Stp.new ok np, .list upd_same z (g.mono (same_upd (ok.sub.free np)))⟩
theorem rp_new_tup (ok : Ok b G H n) {p : Addr} (np : H p = none) {xs : List V} {ds : List D} (g : Rps K b G xs ds) (z : xs.length ≤ sizeLine) : Stp b G H (upd G p (.tup xs)) (upd H p (.tup xs)) n ∧ Rp K b (upd G p (.tup xs)) (.ref p) (.tup ds) :=
  ⟨Stp.new ok np, .tup (.inl (.inl upd_same)) z (g.mono (same_upd (ok.sub.free np)))⟩
end
section
variable {X : Cx}
theorem dop_add : OpR X (binaryOp .Add) (lr2 X.K (binop .add)) := by
  intro pins s a H x y v u Q I rx ry ⟨b, G, n, dx, dy, z, ok, hx, hy, e, q⟩
  cases dx <;> cases dy <;> first | (simp [binop] at e; done) | skip
  · have ex := rp_int_inv hx
    have ey := rp_int_inv hy
    subst ex ey
    simp only [binop, Option.some.injEq] at e
    subst e
    exact op_add pins s a H _ _ v u Q I rx ry ⟨_, _, rfl, rfl, q _ G H (Stp.refl ok) (.int _)⟩
  · obtain ⟨ex, zx, ox⟩ := rp_str_inv hx
    obtain ⟨ey, zy, oy⟩ := rp_str_inv hy
    subst ex ey
    simp only [binop, Option.ite_none_right_eq_some, Option.some.injEq] at e
    obtain ⟨c, e⟩ := e
    subst e
    exact op_add_str pins s a H _ _ v u Q I rx ry ⟨_, _, rfl, rfl, c, q _ G H (Stp.refl ok) (.str _ (by rw [len_app]; exact c) (strOk_app ox oy))⟩
  · obtain ⟨l, xs, rfl, hl, z1, g1⟩ := rp_list_inv hx
    obtain ⟨m, ys, rfl, hm, z2, g2⟩ := rp_list_inv hy
    simp only [binop, Option.ite_none_right_eq_some, Option.some.injEq] at e
    obtain ⟨c, e⟩ := e
    subst e
    rw [← g1.length, ← g2.length] at c
    refine op_cat pins s a H _ _ v u Q I rx ry ⟨l, m, xs, ys, rfl, rfl, ok.sub _ _ hl, ok.sub _ _ hm, c, fun p np => ?_⟩
    obtain ⟨s1, r1⟩ := rp_new_list ok np (g1.append g2) (by rw [List.length_append]; exact c)
    exact q _ _ _ s1 r1
  · obtain ⟨l, xs, rfl, hl, z1, g1⟩ := rp_tup_inv hx
    obtain ⟨m, ys, rfl, hm, z2, g2⟩ := rp_tup_inv hy
    simp only [binop, Option.ite_none_right_eq_some, Option.some.injEq] at e
    obtain ⟨c, e⟩ := e
    subst e
    rw [← g1.length, ← g2.length] at c
    refine op_catA pins s a H _ _ v u Q I rx ry ⟨l, m, xs, ys, rfl, rfl, sqt_same ok.sub hl, sqt_same ok.sub hm, c, fun e => ?_, fun _ e => ?_, fun _ _ p np => ?_⟩
    · subst e
      cases g1
      exact q _ _ _ (Stp.refl ok) (.tup hm z2 g2)
    · subst e
      cases g2
      rw [List.append_nil] at q
      exact q _ _ _ (Stp.refl ok) (.tup hl z1 g1)
    · obtain ⟨s1, r1⟩ := rp_new_tup ok np (g1.append g2) (by rw [List.length_append]; exact c)
      exact q _ _ _ s1 r1
theorem dop_sub : OpR X (binaryOp .Sub) (lr2 X.K (binop .sub)) := by
  intro pins s a H x y v u Q I rx ry ⟨b, G, n, dx, dy, z, ok, hx, hy, e, q⟩
  cases dx <;> cases dy <;> first | (simp [binop] at e; done) | skip
  have ex := rp_int_inv hx
  have ey := rp_int_inv hy
  subst ex ey
  simp only [binop, Option.some.injEq] at e
  subst e
  exact op_sub pins s a H _ _ v u Q I rx ry ⟨_, _, rfl, rfl, q _ G H (Stp.refl ok) (.int _)⟩
theorem small_iff {i : Int} (h : small64 i = true) : -(2 ^ 64) < i ∧ i < 2 ^ 64 := by
  unfold small64 at h
  simpa using h
theorem foldl_all {p : Nat → Bool} {z : Array Nat} (h : z.all p = true) : ∀ (k : Nat) (acc : Array Nat), acc.all p = true → ((List.replicate k z).foldl (· ++ ·) acc).all p = true
  | 0, acc, ha => ha
  | k + 1, acc, ha => by
    rw [List.replicate_succ, List.foldl_cons]
    exact foldl_all h k _ (by rw [Array.all_append, ha, h]; rfl)
theorem dop_mul : OpR X (binaryOp .Mult) (lr2 X.K (binop .mul)) := by
  intro pins s a H x y v u Q I rx ry ⟨b, G, n, dx, dy, z, ok, hx, hy, e, q⟩
  cases dx <;> cases dy <;> first | (simp [binop] at e; done) | skip
  · have ex := rp_int_inv hx
    have ey := rp_int_inv hy
    subst ex ey
    simp only [binop, Option.ite_none_right_eq_some, Option.some.injEq, Bool.or_eq_true] at e
    obtain ⟨c, e⟩ := e
    subst e
    exact op_mul pins s a H _ _ v u Q I rx ry ⟨_, _, rfl, rfl, c.imp small_iff small_iff, q _ G H (Stp.refl ok) (.int _)⟩
  · obtain ⟨ex, zx, ox⟩ := rp_str_inv hx
    have ey := rp_int_inv hy
    subst ex ey
    rename_i st i
    simp only [binop, Option.ite_none_right_eq_some, Option.some.injEq, Bool.and_eq_true, decide_eq_true_eq] at e
    obtain ⟨⟨⟨⟨⟨c1, c2⟩, c3⟩, c4⟩, c5⟩, e⟩ := e
    subst e
    obtain ⟨t, rfl⟩ := rx
    obtain ⟨t', rfl⟩ := ry
    have d1 : ¬ i < 1 := by omega
    have d2 : (i == 1 || st.length == 0) = false := by
      have e1 : (i == 1) = false := by simp; omega
      have e2 : (st.length == 0) = false := by simp; omega
      rw [e1, e2] <;> rfl
    refine PySem.P.mul_str (by
        have a1 : ¬ i < -(2 ^ 63 : Int) := by omega
        have a2 : ¬ i ≥ 2 ^ 63 := by omega
        rw [decide_eq_false a1, decide_eq_false a2] <;> rfl) (fun _ _ => ?_) (fun _ _ => ?_) ?_
    · have : (1000 : Int) ≤ (2 ^ 63 - 1) / i := by
        rw [Int.le_ediv_iff_mul_le (by omega)]
        omega
      omega
    · have : st.length * i.toNat ≤ 1000 * 1000 := Nat.mul_le_mul c4 (by omega)
      unfold Builtin.Str.tooLong
      simp only [decide_eq_false_iff_not]
      have e := sizeLine_eq
      omega
    · rw [if_neg d1, if_neg (by rw [d2]; exact Bool.false_ne_true)]
      exact ⟨c5, ⟨.str (repS st i.toNat), H, I.tok _, ⟨_, rfl⟩, q _ G H (Stp.refl ok) (.str _ c5 (foldl_all ox _ _ (by simp)))⟩⟩
  · obtain ⟨l, xs, rfl, hl, z1, g1⟩ := rp_list_inv hx
    have ey := rp_int_inv hy
    subst ey
    simp only [binop, Option.ite_none_right_eq_some, Option.some.injEq, Bool.and_eq_true, decide_eq_true_eq] at e
    obtain ⟨⟨⟨c1, c2⟩, c3⟩, e⟩ := e
    subst e
    rw [← g1.length] at c3
    refine op_rep pins s a H _ _ v u Q I rx ry ⟨l, _, xs, rfl, rfl, ok.sub _ _ hl, c1, c2, c3, fun p np => ?_⟩
    obtain ⟨s1, r1⟩ := rp_new_list ok np (g1.rep _) (by rw [List.length_flatten, List.map_replicate, List.sum_replicate_nat, Nat.mul_comm]; exact c3)
    exact q _ _ _ s1 r1
  · obtain ⟨l, xs, rfl, hl, z1, g1⟩ := rp_tup_inv hx
    have ey := rp_int_inv hy
    subst ey
    simp only [binop, Option.ite_none_right_eq_some, Option.some.injEq, Bool.and_eq_true, decide_eq_true_eq] at e
    obtain ⟨⟨⟨⟨c1, c2⟩, c3⟩, c4⟩, e⟩ := e
    subst e
    rw [← g1.length] at c4
    refine op_repT pins s a H _ _ v u Q I rx ry ⟨l, _, xs, rfl, rfl, sqt_same ok.sub hl, ?_, c1, c2, c4, fun p np => ?_⟩
    · intro ex
      subst ex
      cases g1
      cases c3
    · rename_i i
      obtain ⟨s1, r1⟩ := rp_new_tup ok np (g1.rep i.toNat) (by
        rw [List.length_flatten, List.map_replicate, List.sum_replicate_nat, sizeLine_eq]
        exact Nat.le_trans (Nat.mul_le_mul (show _ ≤ 1000 by omega) c4) (by decide))
      exact q _ _ _ s1 r1
theorem dop_mod : OpR X (binaryOp .Mod) (lr2 X.K (binop .mod)) := by
  intro pins s a H x y v u Q I rx ry ⟨b, G, n, dx, dy, z, ok, hx, hy, e, q⟩
  cases dx <;> cases dy <;> first | (simp [binop] at e; done) | skip
  have ex := rp_int_inv hx
  have ey := rp_int_inv hy
  subst ex ey
  simp only [binop, Option.ite_none_right_eq_some, Option.some.injEq] at e
  obtain ⟨c, e⟩ := e
  subst e
  exact op_mod pins s a H _ _ v u Q I rx ry ⟨_, _, rfl, rfl, c, q _ G H (Stp.refl ok) (.int _)⟩
theorem dop_fdiv : OpR X (binaryOp .FloorDiv) (lr2 X.K (binop .fdiv)) := by
  intro pins s a H x y v u Q I rx ry ⟨b, G, n, dx, dy, z, ok, hx, hy, e, q⟩
  cases dx <;> cases dy <;> first | (simp [binop] at e; done) | skip
  have ex := rp_int_inv hx
  have ey := rp_int_inv hy
  subst ex ey
  simp only [binop, Option.ite_none_right_eq_some, Option.some.injEq, Bool.and_eq_true, decide_eq_true_eq] at e
  obtain ⟨⟨c1, c2⟩, e⟩ := e
  subst e
  exact op_fdiv pins s a H _ _ v u Q I rx ry ⟨_, _, rfl, rfl, ⟨c1, c2⟩, q _ G H (Stp.refl ok) (.int _)⟩
theorem dop_pow : OpR X (binaryOp .Pow) (lr2 X.K (binop .pow)) := by
  intro pins s a H x y v u Q I rx ry ⟨b, G, n, dx, dy, z, ok, hx, hy, e, q⟩
  cases dx <;> cases dy <;> first | (simp [binop] at e; done) | skip
  have ex := rp_int_inv hx
  have ey := rp_int_inv hy
  subst ex ey
  simp only [binop, Option.ite_none_right_eq_some, Option.some.injEq, Bool.and_eq_true, decide_eq_true_eq] at e
  obtain ⟨⟨⟨c1, c2⟩, c3⟩, e⟩ := e
  subst e
  exact op_pow pins s a H _ _ v u Q I rx ry ⟨_, _, rfl, rfl, ⟨c1, c2, c3⟩, q _ G H (Stp.refl ok) (.int _)⟩
end
end Dl

set_option Elab.async false
set_option linter.all false
set_option maxRecDepth 100000
set_option maxHeartbeats 4000000
/-! Comparisons of data. -/
namespace PySem.SgX
open PySem.SeqAt PySem.MeetsSeq
open AutoSeq1 (wpAny_loadPart')
theorem dict_no_str (l : Addr) (es : Array DictEntry) (n : Nat) (dd : Option Addr) (sl : Array (Option Value)) (b : Str) (u : Tok) :
    Meets (Builtin.«dict.__eq__» ⟨[.ref l, .str b u], []⟩) (fun _ R s => s.heap.get? l = some { cls := .type "dict", dict := dd, data := .dict es n, slots := sl } ∧ R (.ok (.ret .notImplemented)) s) :=
  .of_wp fun prog w A R s h => by
    obtain ⟨hp, g, d, tk, os⟩ := s
    obtain ⟨hl, h⟩ := h
    have f1 := F.sub_str_dict
    wp_walk using wpAny_loadPart' hl
    exact ⟨_, rfl, h⟩
theorem str_no_dict (b : Str) (u : Tok) (l : Addr) (c : Value) (es : Array DictEntry) (n : Nat) (dd : Option Addr) (sl : Array (Option Value)) :
    Meets (Builtin.«str.__eq__» ⟨[.str b u, .ref l], []⟩) (fun _ R s => s.heap.get? l = some { cls := c, dict := dd, data := .dict es n, slots := sl } ∧ R (.ok (.ret .notImplemented)) s) :=
  .of_wp fun prog w A R s h => by
    obtain ⟨hp, g, d, tk, os⟩ := s
    obtain ⟨hl, h⟩ := h
    wp_walk using wpAny_loadPart' hl, wpAny_load hl
    exact ⟨_, rfl, h⟩
theorem dict_not_str (l : Addr) (es : Array DictEntry) (n : Nat) (dd : Option Addr) (sl : Array (Option Value)) (b : Str) (u : Tok) :
    Meets (Builtin.«dict.__ne__» ⟨[.ref l, .str b u], []⟩) (fun _ R s => s.heap.get? l = some { cls := .type "dict", dict := dd, data := .dict es n, slots := sl } ∧ R (.ok (.ret .notImplemented)) s) :=
  .of_wp fun prog w A R s h => by
    obtain ⟨hp, g, d, tk, os⟩ := s
    obtain ⟨hl, h⟩ := h
    have f1 := F.sub_str_dict
    wp_walk using wpAny_loadPart' hl
    exact ⟨_, rfl, h⟩
theorem str_not_dict (b : Str) (u : Tok) (l : Addr) (c : Value) (es : Array DictEntry) (n : Nat) (dd : Option Addr) (sl : Array (Option Value)) :
    Meets (Builtin.«str.__ne__» ⟨[.str b u, .ref l], []⟩) (fun _ R s => s.heap.get? l = some { cls := c, dict := dd, data := .dict es n, slots := sl } ∧ R (.ok (.ret .notImplemented)) s) :=
  .of_wp fun prog w A R s h => by
    obtain ⟨hp, g, d, tk, os⟩ := s
    obtain ⟨hl, h⟩ := h
    wp_walk using wpAny_loadPart' hl, wpAny_load hl
    exact ⟨_, rfl, h⟩
section
variable {A : Around} {s : Shared}
theorem rn_dict_str {l : Addr} {es : Array DictEntry} {n : Nat} {dd : Option Addr} {sl : Array (Option Value)} (b : Str) (u : Tok) (ho : s.heap.get? l = some { cls := .type "dict", dict := dd, data := .dict es n, slots := sl }) (hu : A.units < cLine) : RcNeAt A s (.ref l) (.str b u) true := fun prog w E Q h =>
  rc_ne_decline_or (k := false) ⟨_, ho, rfl⟩ (typeIs_str s b u) (by decide) F.sub_str_dict F.slot_dict_ne F.slot_str_ne_refl
    (fun _ hq => call_meets F.slot_dict_ne ⟨_, ho, rfl⟩ F.entry_dict_ne (F.args_dict_ne_2 _ _) (dict_not_str l es n dd sl b u) ⟨ho, hq⟩)
    (fun _ hq => call_meets F.slot_str_ne_refl (typeIs_str s b u) F.entry_str_ne (F.args_str_ne_2 _ _) (str_not_dict b u l (.type "dict") es n dd sl) ⟨ho, hq⟩)
    (fun _ hq => wpAny_of_eq (rfl : isSame (.ref l) (.str b u) = pure false) hq) (.inr hu) h
theorem rc_dict_str {l : Addr} {es : Array DictEntry} {n : Nat} {dd : Option Addr} {sl : Array (Option Value)} (b : Str) (u : Tok) (ho : s.heap.get? l = some { cls := .type "dict", dict := dd, data := .dict es n, slots := sl }) (hu : A.units < cLine) : RcAt A s (.ref l) (.str b u) false := fun prog w E Q h =>
  rc_eq_decline_or (k := false) ⟨_, ho, rfl⟩ (typeIs_str s b u) (by decide) F.sub_str_dict F.slot_dict_eq F.slot_str_eq_refl
    (fun _ hq => call_meets F.slot_dict_eq ⟨_, ho, rfl⟩ F.entry_dict_eq (F.args_dict_eq_2 _ _) (dict_no_str l es n dd sl b u) ⟨ho, hq⟩)
    (fun _ hq => call_meets F.slot_str_eq_refl (typeIs_str s b u) F.entry_str_eq (F.args_str_eq_2 _ _) (str_no_dict b u l (.type "dict") es n dd sl) ⟨ho, hq⟩)
    (fun _ hq => wpAny_of_eq (rfl : isSame (.ref l) (.str b u) = pure false) hq) (.inr hu) h
theorem rc_str_dict {l : Addr} {es : Array DictEntry} {n : Nat} {dd : Option Addr} {sl : Array (Option Value)} (b : Str) (u : Tok) (ho : s.heap.get? l = some { cls := .type "dict", dict := dd, data := .dict es n, slots := sl }) (hu : A.units < cLine) : RcAt A s (.str b u) (.ref l) false := fun prog w E Q h =>
  rc_eq_decline_or (k := false) (typeIs_str s b u) ⟨_, ho, rfl⟩ (by decide) F.sub_dict_str F.slot_str_eq F.slot_dict_eq_refl
    (fun _ hq => call_meets F.slot_str_eq (typeIs_str s b u) F.entry_str_eq (F.args_str_eq_2 _ _) (str_no_dict b u l (.type "dict") es n dd sl) ⟨ho, hq⟩)
    (fun _ hq => call_meets F.slot_dict_eq_refl ⟨_, ho, rfl⟩ F.entry_dict_eq (F.args_dict_eq_2 _ _) (dict_no_str l es n dd sl b u) ⟨ho, hq⟩)
    (fun _ hq => wpAny_of_eq (rfl : isSame (.str b u) (.ref l) = pure false) hq) (.inr hu) h
theorem eq_str_dict {l : Addr} {es : Array DictEntry} {n : Nat} {dd : Option Addr} {sl : Array (Option Value)} (b : Str) (u : Tok) (ho : s.heap.get? l = some { cls := .type "dict", dict := dd, data := .dict es n, slots := sl }) (hu : A.units < cLine) : EqAt A s (.str b u) (.ref l) false := fun prog w E Q h => by
  unfold eqBool
  refine wpAny_holding (wpAny_ite_split (fun z => absurd (eq_of_beq z) nofun) fun _ => ?_)
  exact wpAny_bind (rc_str_dict b u ho hu prog w E _ (wpAny_truthy_bool h))
end
end PySem.SgX
namespace Dl
open PySem PySem.Spec PyProof.Rows L2 PySem.SeqAt
theorem hod_dK {X : Cx} {pins : List (Addr × Obj)} {a0 : L2.St} {H : Hp} {s : Shared} (I : L2.Inv X pins a0 H s) {a : Addr} {kvs : List (Key × V)} (h : H a = some (.dK kvs)) : ∃ dd es n sl, s.heap.get? a = some ⟨.type "dict", dd, .dict es n, sl⟩ := by
  obtain ⟨_, _, _, _, ⟨oc, od, dt, sl⟩, es, n, e, x, ed, _⟩ := (show ObjOk X.prog X.w H s.heap a (.dK kvs) from I.hok a _ h)
  simp only at ed
  subst ed
  obtain ⟨c, _⟩ := x
  simp only at c
  subst c
  exact ⟨_, _, _, _, e⟩
section
variable {K : PySem.W.Frag} {b : Option Addr} {G H : Hp}
mutual
theorem flat_dp (s : Same G H) : ∀ (k : Nat) (d : D) (v : V), Rp K b G v d → d.flat k = true → Dp K H v d.py ∧ PyData.canLay0 d.py = true ∧ d.py.depth ≤ k
  | k, .non, v, h, _ => by
    cases h
    exact ⟨.non, rfl, Nat.zero_le _⟩
  | k, .bl x, v, h, _ => by
    cases h
    exact ⟨.bl _, rfl, Nat.zero_le _⟩
  | k, .int x, v, h, _ => by
    cases h
    exact ⟨.int _, rfl, Nat.zero_le _⟩
  | k, .str x, v, h, _ => by
    cases h with
    | str x z o => exact ⟨.str _, by rw [D.py, PyData.canLay0]; exact o, Nat.zero_le _⟩
  | 0, .list xs, v, h, f => by simp [D.flat] at f
  | 0, .tup xs, v, h, f => by simp [D.flat] at f
  | k + 1, .list xs, v, h, f => by
    obtain ⟨a, ws, rfl, hl, z, g⟩ := rp_list_inv h
    rw [D.flat] at f
    obtain ⟨h1, h2, h3⟩ := flats_dp s k xs ws g f
    refine ⟨by rw [D.py]; exact .lst (SqL.of (s _ _ hl)) h1, by rw [D.py, PyData.canLay0]; exact h2, by rw [D.py, PyData.depth]; omega⟩
  | k + 1, .tup xs, v, h, f => by
    obtain ⟨a, ws, rfl, hl, z, g⟩ := rp_tup_inv h
    rw [D.flat] at f
    obtain ⟨h1, h2, h3⟩ := flats_dp s k xs ws g f
    refine ⟨by rw [D.py]; exact .tup (sqt_same s hl) h1, by rw [D.py, PyData.canLay0]; exact h2, by rw [D.py, PyData.depth]; omega⟩
  | k, .dict xs, v, h, f => by simp [D.flat] at f
  | k, .obj c xs, v, h, f => by simp [D.flat] at f
  | k, .pin a, v, h, f => by simp [D.flat] at f
  | k, .box, v, h, f => by simp [D.flat] at f
theorem flats_dp (s : Same G H) : ∀ (k : Nat) (ds : List D) (vs : List V), Rps K b G vs ds → D.flats k ds = true → DpAll K H vs (D.pys ds) ∧ PyData.canLayAll0 (D.pys ds) = true ∧ PyData.depthAll (D.pys ds) ≤ k
  | k, [], vs, h, _ => by
    cases h
    exact ⟨.nil, rfl, Nat.zero_le _⟩
  | k, d :: ds, vs, h, f => by
    cases h with
    | cons h g =>
      rw [D.flats, Bool.and_eq_true] at f
      obtain ⟨a1, a2, a3⟩ := flat_dp s k d _ h f.1
      obtain ⟨b1, b2, b3⟩ := flats_dp s k ds _ g f.2
      refine ⟨by rw [D.pys]; exact .cons a1 b1, by rw [D.pys, PyData.canLayAll0, a2, b2]; rfl, by rw [D.pys, PyData.depthAll]; omega⟩
end
theorem pys_length (xs : List D) : (D.pys xs).length = xs.length := by
  induction xs with
  | nil => rfl
  | cons x xs ih => rw [D.pys, List.length_cons, List.length_cons, ih]
theorem pys_any (f : PyData → Bool) (xs : List D) : (D.pys xs).any f = xs.any fun z => f z.py := by
  induction xs with
  | nil => rfl
  | cons x xs ih => rw [D.pys, List.any_cons, List.any_cons, ih]
end
/-- is it this text? -/
theorem eqb_str_r (d : D) (x : Str) : d.eqb (.str x) = (match d with
  | .str y => y == x
  | _ => false) := by
  cases d <;> simp [D.eqb, D.py, PyData.eqv]
theorem eqb_str_l (d : D) (x : Str) : (D.str x).eqb d = (match d with
  | .str y => x == y
  | _ => false) := by
  cases d <;> simp [D.eqb, D.py, PyData.eqv]
section
variable {X : Cx} {pins : List (Addr × Obj)} {a0 : L2.St} {H G : Hp} {s : Shared} {v : V} {d : D} {u : Value} {A : Around} {b0 : Option Addr}
theorem rc_q (I : L2.Inv X pins a0 H s) (sm : Same G H) (h : Rp X.K b0 G v d) (nb : d.isBox = false) (r : L2.RelV v u) (hu : A.units < cLine) (b : Str) (t : Tok) : RcAt A s u (.str b t) (d.eqb (.str b)) := by
  rw [eqb_str_r]
  cases h with
  | non => cases r; exact RcAt.none_str b t
  | bl x => cases r; exact RcAt.bool_str x b t
  | int i =>
    obtain ⟨k, rfl⟩ := r
    exact RcAt.int_str i k b t
  | str x z o =>
    obtain ⟨k, rfl⟩ := r
    exact RcAt.str_str x k b t
  | list hs _ _ =>
    cases r
    obtain ⟨its, rv, p, hz⟩ := I.list (SqL.of (sm _ _ hs))
    exact RcAt.list_str b t p.isList hu
  | tup hs _ _ =>
    cases r
    obtain ⟨its, rv, p, hz⟩ := I.tuple (sqt_same sm hs)
    exact RcAt.tuple_str b t p hu
  | dict hs _ _ =>
    cases r
    obtain ⟨dd, es, n, sl, e⟩ := hod_dK I (sm _ _ hs)
    exact PySem.SgX.rc_dict_str b t e hu
  | obj => cases nb
  | pin => cases nb
  | box => cases nb
theorem rn_q (I : L2.Inv X pins a0 H s) (sm : Same G H) (h : Rp X.K b0 G v d) (nb : d.isBox = false) (r : L2.RelV v u) (hu : A.units < cLine) (b : Str) (t : Tok) : RcNeAt A s u (.str b t) (!d.eqb (.str b)) := by
  rw [eqb_str_r]
  cases h with
  | non => cases r; exact RcNeAt.none_str b t
  | bl x => cases r; exact RcNeAt.bool_str x b t
  | int i =>
    obtain ⟨k, rfl⟩ := r
    exact RcNeAt.int_str i k b t
  | str x z o =>
    obtain ⟨k, rfl⟩ := r
    exact RcNeAt.str_str x k b t
  | list hs _ _ =>
    cases r
    obtain ⟨its, rv, p, hz⟩ := I.list (SqL.of (sm _ _ hs))
    exact RcNeAt.list_str b t p.isList hu
  | tup hs _ _ =>
    cases r
    obtain ⟨its, rv, p, hz⟩ := I.tuple (sqt_same sm hs)
    exact RcNeAt.tuple_str b t p hu
  | dict hs _ _ =>
    cases r
    obtain ⟨dd, es, n, sl, e⟩ := hod_dK I (sm _ _ hs)
    exact PySem.SgX.rn_dict_str b t e hu
  | obj => cases nb
  | pin => cases nb
  | box => cases nb
theorem eq_q (I : L2.Inv X pins a0 H s) (sm : Same G H) (h : Rp X.K b0 G v d) (nb : d.isBox = false) (r : L2.RelV v u) (hu : A.units < cLine) (b : Str) (t : Tok) : EqAt A s (.str b t) u ((D.str b).eqb d) := by
  rw [eqb_str_l]
  cases h with
  | non => cases r; exact EqAt.str_none b t
  | bl x => cases r; exact EqAt.str_bool b t x
  | int i =>
    obtain ⟨k, rfl⟩ := r
    exact EqAt.str_int b t i k
  | str x z o =>
    obtain ⟨k, rfl⟩ := r
    exact EqAt.str_str b t x k
  | list hs _ _ =>
    cases r
    obtain ⟨its, rv, p, hz⟩ := I.list (SqL.of (sm _ _ hs))
    exact EqAt.str_list b t p.isList hu
  | tup hs _ _ =>
    cases r
    obtain ⟨its, rv, p, hz⟩ := I.tuple (sqt_same sm hs)
    exact EqAt.str_tuple b t p hu
  | dict hs _ _ =>
    cases r
    obtain ⟨dd, es, n, sl, e⟩ := hod_dK I (sm _ _ hs)
    exact PySem.SgX.eq_str_dict b t e hu
  | obj => cases nb
  | pin => cases nb
  | box => cases nb
end
def lc2 (K : PySem.W.Frag) (f : D → D → Option Bool) : R2 := fun x y H Q => ∃ b G n dx dy z, Ok b G H n ∧ Rp K b G x dx ∧ Rp K b G y dy ∧ f dx dy = some z ∧ Q (.bl z) H
/-- t == (), t a tuple -/
def rEqE (K : PySem.W.Frag) (neg : Bool) : R2 := fun x y H Q => ∃ (a b : Addr) (xs : List V), x = .ref a ∧ y = .ref b ∧ SqT K H a xs ∧ SqT K H b [] ∧ Q (.bl (if neg then !xs.isEmpty else xs.isEmpty)) H
section
variable {X : Cx}
theorem emp_eq {xs : List V} {its : List Value} (r : Vals xs its) : ((List.range (min its.toArray.size (#[] : Array Value).size)).all (fun _ => true) && its.toArray.size == (#[] : Array Value).size) = xs.isEmpty := by
  have l := r.length
  cases xs with
  | nil =>
    have : its = [] := List.length_eq_zero_iff.mp (by simpa using l.symm)
    subst this
    rfl
  | cons x xs =>
    cases its with
    | nil => simp at l
    | cons i its => simp
theorem op_eqE (hu : X.A.units + 64 < cLine) : OpR X (compareOp .Eq) (rEqE X.K false) := by
  intro pins s a0 H x y v u Q I rx ry h
  obtain ⟨a, b, xs, rfl, rfl, ha, hb, q⟩ := h
  cases rx
  cases ry
  obtain ⟨its, r, pl, hz⟩ := I.tuple ha
  obtain ⟨its2, r2, pl2, hz2⟩ := I.tuple hb
  cases r2
  refine SeqAt.eq_tupleAt (e := fun _ => true) pl pl2 (by omega) (fun j h1 h2 => absurd h2 (by simp)) ⟨.bl _, H, I, rfl, ?_⟩
  show Q (.bl _) H
  rw [show (([] : List Value).toArray) = (#[] : Array Value) from rfl, emp_eq r]
  exact q
theorem dc_eq (hu : X.A.units + 64 < cLine) : OpR X (compareOp .Eq) (lc2 X.K (cmpop .eq)) := by
  intro pins s a0 H x y v u Q I rx ry ⟨b, G, n, dx, dy, z, ok, hx, hy, e, q⟩
  rw [cmpop, Option.ite_none_right_eq_some] at e
  obtain ⟨c, e⟩ := e
  cases e
  unfold eqOk at c
  rw [Bool.or_eq_true, Bool.or_eq_true] at c
  rcases c with (c | c) | c
  · rw [Bool.and_eq_true] at c
    obtain ⟨c1, c2⟩ := c
    cases dy with
    | str t =>
      obtain ⟨ey, _, _⟩ := rp_str_inv hy
      subst ey
      obtain ⟨tk, rfl⟩ := ry
      exact rc_q I ok.sub hx (by simpa using c2) rx (by omega) t tk _ _ _ _ ⟨.bl _, H, I, rfl, q⟩
    | _ => cases c1
  · rw [Bool.and_eq_true] at c
    obtain ⟨p1, p2, p3⟩ := flat_dp ok.sub 64 dx x hx c.1
    obtain ⟨q1, q2, q3⟩ := flat_dp ok.sub 64 dy y hy c.2
    exact op_eqD hu pins s a0 H x y v u Q I rx ry ⟨_, _, p1, q1, by unfold SeqAt.shaped; rw [p2, decide_eq_true p3]; rfl, by unfold SeqAt.shaped; rw [q2, decide_eq_true q3]; rfl, q⟩
  · split at c
    · obtain ⟨l, xs, rfl, hl, z1, g1⟩ := rp_tup_inv hx
      obtain ⟨m, ys, rfl, hm, z2, g2⟩ := rp_tup_inv hy
      cases g2
      refine op_eqE hu pins s a0 H _ _ v u Q I rx ry ⟨l, m, xs, rfl, rfl, sqt_same ok.sub hl, sqt_same ok.sub hm, ?_⟩
      have e : ∀ ds, Rps X.K b G xs ds → xs.isEmpty = (D.tup ds).eqb (.tup []) := fun ds g1 => by
        cases g1 with
        | nil => rfl
        | cons _ _ => rfl
      rw [if_neg (by decide), e _ g1]
      exact q
    · cases c
theorem dc_ne (hu : X.A.units + 64 < cLine) : OpR X (compareOp .NotEq) (lc2 X.K (cmpop .ne)) := by
  intro pins s a0 H x y v u Q I rx ry ⟨b, G, n, dx, dy, z, ok, hx, hy, e, q⟩
  rw [cmpop, Option.ite_none_right_eq_some] at e
  obtain ⟨c, e⟩ := e
  cases e
  unfold neOk at c
  rw [Bool.or_eq_true] at c
  rcases c with c | c
  · rw [Bool.and_eq_true] at c
    obtain ⟨c1, c2⟩ := c
    cases dy with
    | str t =>
      obtain ⟨ey, _, _⟩ := rp_str_inv hy
      subst ey
      obtain ⟨tk, rfl⟩ := ry
      exact rn_q I ok.sub hx (by simpa using c2) rx (by omega) t tk _ _ _ _ ⟨.bl _, H, I, rfl, q⟩
    | _ => cases c1
  · rw [Bool.and_eq_true] at c
    obtain ⟨p1, p2, p3⟩ := flat_dp ok.sub 64 dx x hx c.1
    obtain ⟨q1, q2, q3⟩ := flat_dp ok.sub 64 dy y hy c.2
    exact op_neD hu pins s a0 H x y v u Q I rx ry ⟨_, _, p1, q1, by unfold SeqAt.shaped; rw [p2, decide_eq_true p3]; rfl, by unfold SeqAt.shaped; rw [q2, decide_eq_true q3]; rfl, q⟩
theorem dc_lt : OpR X (compareOp .Lt) (lc2 X.K (cmpop .lt)) := by
  intro pins s a H x y v u Q I rx ry ⟨b, G, n, dx, dy, z, ok, hx, hy, e, q⟩
  cases dx <;> cases dy <;> first | (simp [cmpop] at e; done) | skip
  have ex := rp_int_inv hx
  have ey := rp_int_inv hy
  subst ex ey
  simp only [cmpop, Option.some.injEq] at e
  subst e
  exact op_lt pins s a H _ _ v u Q I rx ry ⟨_, _, rfl, rfl, q⟩
theorem dc_le : OpR X (compareOp .LtE) (lc2 X.K (cmpop .le)) := by
  intro pins s a H x y v u Q I rx ry ⟨b, G, n, dx, dy, z, ok, hx, hy, e, q⟩
  cases dx <;> cases dy <;> first | (simp [cmpop] at e; done) | skip
  have ex := rp_int_inv hx
  have ey := rp_int_inv hy
  subst ex ey
  simp only [cmpop, Option.some.injEq] at e
  subst e
  exact op_le pins s a H _ _ v u Q I rx ry ⟨_, _, rfl, rfl, q⟩
theorem dc_gt : OpR X (compareOp .Gt) (lc2 X.K (cmpop .gt)) := by
  intro pins s a H x y v u Q I rx ry ⟨b, G, n, dx, dy, z, ok, hx, hy, e, q⟩
  cases dx <;> cases dy <;> first | (simp [cmpop] at e; done) | skip
  have ex := rp_int_inv hx
  have ey := rp_int_inv hy
  subst ex ey
  simp only [cmpop, Option.some.injEq] at e
  subst e
  exact op_gt pins s a H _ _ v u Q I rx ry ⟨_, _, rfl, rfl, q⟩
theorem dc_ge : OpR X (compareOp .GtE) (lc2 X.K (cmpop .ge)) := by
  intro pins s a H x y v u Q I rx ry ⟨b, G, n, dx, dy, z, ok, hx, hy, e, q⟩
  cases dx <;> cases dy <;> first | (simp [cmpop] at e; done) | skip
  have ex := rp_int_inv hx
  have ey := rp_int_inv hy
  subst ex ey
  simp only [cmpop, Option.some.injEq] at e
  subst e
  exact op_ge pins s a H _ _ v u Q I rx ry ⟨_, _, rfl, rfl, q⟩
theorem is_non {b : Option Addr} {G : Hp} {x : V} {dx : D} {K : PySem.W.Frag} (h : Rp K b G x dx) : decide (x = .non) = (match dx with
    | .non => true
    | _ => false) := by
  cases h <;> simp
theorem dc_is : OpR X (compareOp .Is) (lc2 X.K (cmpop .is)) := by
  intro pins s a H x y v u Q I rx ry ⟨b, G, n, dx, dy, z, ok, hx, hy, e, q⟩
  cases dy with
  | non =>
    have ey := rp_non_inv hy
    subst ey
    have e' : z = decide (x = .non) := by
      rw [is_non hx]
      cases dx <;> (simp only [cmpop, Option.some.injEq] at e; exact e.symm)
    rw [e'] at q
    exact op_isN pins s a H _ _ v u Q I rx ry ⟨rfl, q⟩
  | bl c =>
    cases dx with
    | bl d =>
      have ex := rp_bl_inv hx
      have ey := rp_bl_inv hy
      subst ex ey
      simp only [cmpop, Option.some.injEq] at e
      subst e
      exact op_isBl pins s a H _ _ v u Q I rx ry ⟨_, _, rfl, rfl, q⟩
    | _ => simp [cmpop] at e
  | _ => cases dx <;> simp [cmpop] at e
theorem dc_isnot : OpR X (compareOp .IsNot) (lc2 X.K (cmpop .isnot)) := by
  intro pins s a H x y v u Q I rx ry ⟨b, G, n, dx, dy, z, ok, hx, hy, e, q⟩
  cases dy with
  | non =>
    have ey := rp_non_inv hy
    subst ey
    have e' : z = !decide (x = .non) := by
      rw [is_non hx]
      cases dx <;> (simp only [cmpop, Option.some.injEq] at e; exact e.symm)
    rw [e'] at q
    exact op_notN pins s a H _ _ v u Q I rx ry ⟨rfl, q⟩
  | bl c =>
    cases dx with
    | bl d =>
      have ex := rp_bl_inv hx
      have ey := rp_bl_inv hy
      subst ex ey
      simp only [cmpop, Option.some.injEq] at e
      subst e
      exact op_notBl pins s a H _ _ v u Q I rx ry ⟨_, _, rfl, rfl, q⟩
    | _ => simp [cmpop] at e
  | _ => cases dx <;> simp [cmpop] at e
/-! ### in -/
def uS (d : D) : Value → Bool
  | .str b _ => (D.str b).eqb d
  | _ => false
theorem strs_of {K : PySem.W.Frag} {b : Option Addr} {G : Hp} : ∀ {xs : List V} {ds : List D} {us : List Value}, Rps K b G xs ds → ds.all D.isStr = true → Vals xs us → ∀ y ∈ us, ∃ z t, y = .str z t
  | _, [], _, h, _, r, y, hy => by
    cases h
    cases r
    cases hy
  | _, d :: ds, _, h, f, r, y, hy => by
    cases h with
    | cons h g =>
      cases r with
      | cons r1 r2 =>
        rw [List.all_cons, Bool.and_eq_true] at f
        rcases List.mem_cons.mp hy with z | z
        · cases d with
          | str x =>
            obtain ⟨ev, _, _⟩ := rp_str_inv h
            subst ev
            obtain ⟨t, rfl⟩ := r1
            exact ⟨x, t, z⟩
          | _ => cases f.1
        · exact strs_of g f.2 r2 y z
theorem any_uS {K : PySem.W.Frag} {b : Option Addr} {G : Hp} {d : D} : ∀ {xs : List V} {ds : List D} {us : List Value}, Rps K b G xs ds → ds.all D.isStr = true → Vals xs us → us.any (uS d) = ds.any fun z => z.eqb d
  | _, [], _, h, _, r => by
    cases h
    cases r
    rfl
  | _, d :: ds, _, h, f, r => by
    cases h with
    | cons h g =>
      cases r with
      | cons r1 r2 =>
        rw [List.all_cons, Bool.and_eq_true] at f
        cases d with
        | str x =>
          obtain ⟨ev, _, _⟩ := rp_str_inv h
          subst ev
          obtain ⟨t, rfl⟩ := r1
          rw [List.any_cons, List.any_cons, any_uS g f.2 r2]
          rfl
        | _ => cases f.1
theorem in1_room {A : Around} (hu : A.units + 64 < cLine) : A.in1.units < cLine := by
  show A.units + 1 < cLine
  omega
/-- x in a list that is read -/
theorem in_core (hu : X.A.units + 65 < cLine) {pins : List (Addr × Obj)} {s : Shared} {a0 : L2.St} {H : Hp} {x : V} {v : Value} {Q : VK} (I : L2.Inv X pins a0 H s) (rx : L2.RelV x v)
    {b : Option Addr} {G : Hp} {dx : D} {ds : List D} {xs : List V} {p : Addr} (sm : Same G H) (hx : Rp X.K b G x dx) (g : Rps X.K b G xs ds) (c : inOk dx ds = true) (neg : Bool) (hq : SqL X.K H p xs ∨ SqT X.K H p xs)
    (q : Q (.bl (if neg then !ds.any fun z => z.eqb dx else ds.any fun z => z.eqb dx)) H) : wpAny (model X.prog X.w) X.A (compareOp (if neg then .NotIn else .In) v (.ref p)) (EP X pins a0 Q) X.xe s := by
  unfold inOk at c
  rw [Bool.or_eq_true] at c
  rcases c with c | c
  · rw [Bool.and_eq_true] at c
    have key : ∀ (its : List Value), Vals xs its → ∀ y ∈ its.toArray, EqAt X.A.in1 s y v (uS dx y) := fun its r y hy => by
      obtain ⟨z, t, rfl⟩ := strs_of g c.1 r y (by simpa using hy)
      exact eq_q I sm hx (by simpa using c.2) rx (in1_room (by omega)) z t
    rcases hq with hq | hq
    · obtain ⟨its, r, pl, hz⟩ := I.list hq
      cases neg with
      | false =>
        refine SeqAt.in_listAt (uS dx) pl.isList (key its r) ⟨.bl _, H, I, rfl, ?_⟩
        rw [show its.toArray.any (uS dx) = its.any (uS dx) by simp, any_uS g c.1 r]
        exact q
      | true =>
        refine SeqAt.notIn_listAt (uS dx) pl.isList (key its r) ⟨.bl _, H, I, rfl, ?_⟩
        rw [show its.toArray.any (uS dx) = its.any (uS dx) by simp, any_uS g c.1 r]
        exact q
    · obtain ⟨its, r, pl, hz⟩ := I.tuple hq
      cases neg with
      | false =>
        refine SeqAt.in_tupleAt (uS dx) pl (key its r) ⟨.bl _, H, I, rfl, ?_⟩
        rw [show its.toArray.any (uS dx) = its.any (uS dx) by simp, any_uS g c.1 r]
        exact q
      | true =>
        refine SeqAt.notIn_tupleAt (uS dx) pl (key its r) ⟨.bl _, H, I, rfl, ?_⟩
        rw [show its.toArray.any (uS dx) = its.any (uS dx) by simp, any_uS g c.1 r]
        exact q
  · rw [Bool.and_eq_true] at c
    obtain ⟨p1, p2, p3⟩ := flat_dp sm 63 dx x hx c.1
    obtain ⟨q1, q2, q3⟩ := flats_dp sm 63 ds xs g c.2
    obtain ⟨as, r1⟩ := Dp.reads I dx.py x v p1 rx
    have sd : SeqAt.shaped dx.py = true := by unfold SeqAt.shaped; rw [p2, decide_eq_true (show dx.py.depth ≤ 64 by omega)]; rfl
    have e : ∀ (z : Bool), (ds.any fun z => z.eqb dx) = z → ((D.pys ds).any fun z => PyData.eqv z dx.py) = z := fun z h => by rw [pys_any]; exact h
    rcases hq with hq | hq
    · obtain ⟨bs, r2⟩ := Dp.reads I (.list (D.pys ds)) (.ref p) (.ref p) (.lst hq q1) rfl
      cases neg with
      | false => exact SeqAt.in_list_reads r2 r1 q2 p2 (room_in_shaped sd hu) ⟨.bl _, H, I, rfl, by rw [e _ rfl]; exact q⟩
      | true => exact SeqAt.notIn_list_reads r2 r1 q2 p2 (room_in_shaped sd hu) ⟨.bl _, H, I, rfl, by rw [e _ rfl]; exact q⟩
    · obtain ⟨bs, r2⟩ := Dp.reads I (.tuple (D.pys ds)) (.ref p) (.ref p) (.tup hq q1) rfl
      cases neg with
      | false => exact SeqAt.in_tuple_reads r2 r1 q2 p2 (room_in_shaped sd hu) ⟨.bl _, H, I, rfl, by rw [e _ rfl]; exact q⟩
      | true => exact SeqAt.notIn_tuple_reads r2 r1 q2 p2 (room_in_shaped sd hu) ⟨.bl _, H, I, rfl, by rw [e _ rfl]; exact q⟩
theorem dc_in (hu : X.A.units + 65 < cLine) : OpR X (compareOp .In) (lc2 X.K (cmpop .inn)) := by
  intro pins s a H x y v u Q I rx ry ⟨b, G, n, dx, dy, z, ok, hx, hy, e, q⟩
  cases dy with
  | list ys =>
    obtain ⟨l, xs, rfl, hl, z1, g1⟩ := rp_list_inv hy
    cases ry
    have e' : inOk dx ys = true ∧ (ys.any fun z => z.eqb dx) = z := by
      cases dx <;> (simp only [cmpop, Option.ite_none_right_eq_some, Option.some.injEq] at e; exact e)
    exact in_core hu I rx ok.sub hx g1 e'.1 false (.inl (SqL.of (ok.sub _ _ hl))) (by rw [if_neg (by decide), e'.2]; exact q)
  | tup ys =>
    obtain ⟨l, xs, rfl, hl, z1, g1⟩ := rp_tup_inv hy
    cases ry
    have e' : inOk dx ys = true ∧ (ys.any fun z => z.eqb dx) = z := by
      cases dx <;> (simp only [cmpop, Option.ite_none_right_eq_some, Option.some.injEq] at e; exact e)
    exact in_core hu I rx ok.sub hx g1 e'.1 false (.inr (sqt_same ok.sub hl)) (by rw [if_neg (by decide), e'.2]; exact q)
  | str t =>
    cases dx with
    | str w =>
      obtain ⟨ex, _, _⟩ := rp_str_inv hx
      obtain ⟨ey, _, _⟩ := rp_str_inv hy
      subst ex ey
      simp only [cmpop, Option.some.injEq] at e
      subst e
      exact op_in_str pins s a H _ _ v u Q I rx ry ⟨_, _, rfl, rfl, q⟩
    | _ => simp [cmpop] at e
  | _ => cases dx <;> simp [cmpop] at e
theorem dc_notin (hu : X.A.units + 65 < cLine) : OpR X (compareOp .NotIn) (lc2 X.K (cmpop .notin)) := by
  intro pins s a H x y v u Q I rx ry ⟨b, G, n, dx, dy, z, ok, hx, hy, e, q⟩
  cases dy with
  | list ys =>
    obtain ⟨l, xs, rfl, hl, z1, g1⟩ := rp_list_inv hy
    cases ry
    have e' : inOk dx ys = true ∧ (!ys.any fun z => z.eqb dx) = z := by
      cases dx <;> (simp only [cmpop, Option.ite_none_right_eq_some, Option.some.injEq] at e; exact e)
    exact in_core hu I rx ok.sub hx g1 e'.1 true (.inl (SqL.of (ok.sub _ _ hl))) (by rw [if_pos rfl, e'.2]; exact q)
  | tup ys =>
    obtain ⟨l, xs, rfl, hl, z1, g1⟩ := rp_tup_inv hy
    cases ry
    have e' : inOk dx ys = true ∧ (!ys.any fun z => z.eqb dx) = z := by
      cases dx <;> (simp only [cmpop, Option.ite_none_right_eq_some, Option.some.injEq] at e; exact e)
    exact in_core hu I rx ok.sub hx g1 e'.1 true (.inr (sqt_same ok.sub hl)) (by rw [if_pos rfl, e'.2]; exact q)
  | str t =>
    cases dx with
    | str w =>
      obtain ⟨ex, _, _⟩ := rp_str_inv hx
      obtain ⟨ey, _, _⟩ := rp_str_inv hy
      subst ex ey
      simp only [cmpop, Option.some.injEq] at e
      subst e
      exact op_notin_str pins s a H _ _ v u Q I rx ry ⟨_, _, rfl, rfl, q⟩
    | _ => simp [cmpop] at e
  | _ => cases dx <;> simp [cmpop] at e
end
end Dl

set_option Elab.async false
set_option linter.all false
set_option maxRecDepth 100000
set_option maxHeartbeats 4000000
/-! Expressions: names, constants, operators, tests. -/
namespace Dl
open PySem PySem.Spec PyProof.Rows L2
abbrev cn (X : Cx) : Cn := ⟨X.K, X.mg⟩
section
variable {X : Cx} {W : WD} {T : Tab}
theorem de_bad {e : Expr} : PE X e (lift (cn X) W (wE T .bad)) := ⟨fun pins s a H Q I ⟨b, G0, H0, G, n, r, Qd, Ex, h, t, x, k⟩ => by
  rw [wE] at t
  exact t.elim⟩
theorem de_v {i : Nat} {x : Str} {pos : Pos} (hN : X.N[i]? = some x) (hv : Vis X.env.scope x) (hd : (x == ("__debug__" : Str)) = false) (hcd : (x == ("__classdict__" : Str)) = false) : PE X (.Name x pos) (lift (cn X) W (wE T (.v i))) :=
  pe_imp (pe_var hN hv hd hcd) fun s H Q ⟨b, G0, H0, G, n, r, Qd, Ex, h, t, x, k⟩ => by
    rw [wE] at t
    split at t
    · rename_i d e
      obtain ⟨v, e1, e2⟩ := h.ent i _ e
      exact ⟨v, e1, k v G H n d (Stp.refl h.ok) e2 t⟩
    · exact t.elim
theorem lift_c {v : V} {d : D} {s : L2.St} {H : Hp} {Q : VK} (hd : ∀ b G, Rp X.K b G v d) (h : lift (cn X) W (wE T (.k d)) s H Q) : Q v H := by
  obtain ⟨b, G0, H0, G, n, r, Qd, Ex, h, t, x, k⟩ := h
  rw [wE] at t
  exact k v G H n d (Stp.refl h.ok) (hd b G) t
theorem de_int {i : Int} {j : Nat} {pos : Pos} : PE X (.Constant (.int i) j pos) (lift (cn X) W (wE T (.k (.int i)))) := pe_imp pe_int fun s H Q h => lift_c (fun _ _ => .int i) h
theorem de_bl {i : Bool} {j : Nat} {pos : Pos} : PE X (.Constant (.bool i) j pos) (lift (cn X) W (wE T (.k (.bl i)))) := pe_imp pe_bl fun s H Q h => lift_c (fun _ _ => .bl i) h
theorem de_non {j : Nat} {pos : Pos} : PE X (.Constant .none j pos) (lift (cn X) W (wE T (.k .non))) := pe_imp pe_non fun s H Q h => lift_c (fun _ _ => .non) h
theorem de_str {z : Str} {j : Nat} {pos : Pos} (hz : z.length ≤ sizeLine) (ho : PyData.strOk z = true) : PE X (.Constant (.str z) j pos) (lift (cn X) W (wE T (.k (.str z)))) := pe_imp pe_str fun s H Q h => lift_c (fun _ _ => .str z hz ho) h
theorem de_g {x : Str} {pos : Pos} (hg : Gl X x) (hd : (x == ("__debug__" : Str)) = false) (hm : ∀ d, T.gv x = some d → ∃ v u, X.mg x = some u ∧ RelV v u ∧ ∀ b G, Rp X.K b G v d) : PE X (.Name x pos) (lift (cn X) W (wE T (.g x))) := by
  cases e : T.gv x with
  | none => exact ⟨fun pins s a H Q I ⟨b, G0, H0, G, n, r, Qd, Ex, h, t, x, k⟩ => by
      rw [wE, e] at t
      exact t.elim⟩
  | some d =>
    obtain ⟨v, u, h1, h2, h3⟩ := hm d e
    exact pe_imp (pe_glob hg h1 h2 hd) fun s H Q ⟨b, G0, H0, G, n, r, Qd, Ex, h, t, x, k⟩ => by
      rw [wE, e, ofO_some] at t
      exact k v G H n d (Stp.refl h.ok) (h3 b G) t
theorem de_bin {op : Operator} {o : BOp} {a c : Expr} {ia ic : IE} {pos : Pos} (ho : OpR X (binaryOp op) (lr2 X.K (binop o))) (ha : PE X a (lift (cn X) W (wE T ia))) (hc : PE X c (lift (cn X) W (wE T ic))) : PE X (.BinOp a op c pos) (lift (cn X) W (wE T (.bin o ia ic))) :=
  pe_imp (pe_op ho ha hc) fun s H Q ⟨b, G0, H0, G, n, r, Qd, Ex, h, t, x, k⟩ => by
    rw [wE] at t
    refine lift_bind h x t fun v G1 H1 n1 d h1 x1 s1 r1 q1 => lift_bind h1 x1 q1 fun w G2 H2 n2 e h2 x2 s2 r2 q2 => ?_
    obtain ⟨z, ez, q3⟩ := ofO_iff q2
    exact ⟨b, G2, n2, d, e, z, h2.ok, r1.mono s2.gg, r2, ez, fun u G' H' st r' => k u G' H' n2 z ((s1.trans s2).trans st) r' q3⟩
theorem de_neg {a : Expr} {ia : IE} {pos : Pos} (ha : PE X a (lift (cn X) W (wE T ia))) : PE X (.UnaryOp .USub a pos) (lift (cn X) W (wE T (.neg ia))) :=
  pe_imp (pe_un un_neg ha) fun s H Q ⟨b, G0, H0, G, n, r, Qd, Ex, h, t, x, k⟩ => by
    rw [wE] at t
    refine lift_bind h x t fun v G1 H1 n1 d h1 x1 s1 r1 q1 => ?_
    cases d with
    | int i => exact ⟨i, rp_int_inv r1, k _ G1 H1 n1 _ s1 (.int _) q1⟩
    | _ => exact q1.elim
theorem de_cmp {op : CmpOp} {o : COp} {a c : Expr} {ia ic : IE} {pos : Pos} (ho : OpR X (compareOp op) (lc2 X.K (cmpop o))) (ha : PE X a (lift (cn X) W (wE T ia))) (hc : PE X c (lift (cn X) W (wE T ic))) (hm : behindInMarks op c = false) : PE X (.Compare a [op] [c] pos) (lift (cn X) W (wE T (.cmp o ia ic))) :=
  pe_imp (pe_cmpR ho ha hc hm) fun s H Q ⟨b, G0, H0, G, n, r, Qd, Ex, h, t, x, k⟩ => by
    rw [wE] at t
    refine lift_bind h x t fun v G1 H1 n1 d h1 x1 s1 r1 q1 => lift_bind h1 x1 q1 fun w G2 H2 n2 e h2 x2 s2 r2 q2 => ?_
    obtain ⟨z, ez, q3⟩ := ofO_iff q2
    exact ⟨b, G2, n2, d, e, z, h2.ok, r1.mono s2.gg, r2, ez, k _ G2 H2 n2 _ (s1.trans s2) (.bl z) q3⟩
theorem de_chain {op op' : CmpOp} {o o' : COp} {a c e : Expr} {ia ic ie : IE} {pos : Pos} (ho : OpR X (compareOp op) (lc2 X.K (cmpop o))) (ho' : OpR X (compareOp op') (lc2 X.K (cmpop o'))) (ha : PE X a (lift (cn X) W (wE T ia))) (hc : PE X c (lift (cn X) W (wE T ic))) (he : PE X e (lift (cn X) W (wE T ie)))
    (hm : lastMarks [op, op'] [c, e] = false) : PE X (.Compare a [op, op'] [c, e] pos) (lift (cn X) W (wE T (.chain o o' ia ic ie))) :=
  pe_imp (pe_chain ho ho' ha hc he hm) fun s H Q ⟨b, G0, H0, G, n, r, Qd, Ex, h, t, x, k⟩ => by
    rw [wE] at t
    refine lift_bind h x t fun v G1 H1 n1 d h1 x1 s1 r1 q1 => lift_bind h1 x1 q1 fun w G2 H2 n2 e h2 x2 s2 r2 q2 => ?_
    obtain ⟨z, ez, q3⟩ := ofO_iff q2
    refine ⟨b, G2, n2, d, e, z, h2.ok, r1.mono s2.gg, r2, ez, z, rfl, ?_⟩
    cases z with
    | false =>
      rw [if_neg (by decide)] at q3 ⊢
      exact k _ G2 H2 n2 _ (s1.trans s2) (.bl false) q3
    | true =>
      rw [if_pos rfl] at q3 ⊢
      refine lift_bind h2 x2 q3 fun u G3 H3 n3 f h3 x3 s3 r3 q4 => ?_
      obtain ⟨z', ez', q5⟩ := ofO_iff q4
      exact ⟨b, G3, n3, e, f, z', h3.ok, r2.mono s3.gg, r3, ez', k _ G3 H3 n3 _ ((s1.trans s2).trans s3) (.bl z') q5⟩
/-! ### truth -/
theorem tru_rp {K : PySem.W.Frag} {b : Option Addr} {G H : Hp} {v : V} {d : D} {z : Bool} (sm : Same G H) (h : Rp K b G v d) (e : d.truth = some z) : TruV K v H z := by
  cases h with
  | non => exact (Option.some.inj e).symm
  | bl x => exact (Option.some.inj e).symm
  | int i => exact (Option.some.inj e).symm
  | str x zz o => exact ⟨zz, (Option.some.inj e).symm⟩
  | @list a xs ds h zz g =>
    refine .inl ⟨xs, SqL.of (sm _ _ h), ?_⟩
    have e' := (Option.some.inj e).symm
    rw [e']
    cases g <;> rfl
  | @tup a xs ds h zz g =>
    refine .inr (.inl ⟨xs, sqt_same sm h, ?_⟩)
    have e' := (Option.some.inj e).symm
    rw [e']
    cases g <;> rfl
  | @dict a xs ds h zz g =>
    refine .inr (.inr ⟨xs, sm _ _ h, ?_⟩)
    have e' := (Option.some.inj e).symm
    rw [e']
    cases g <;> rfl
  | obj _ _ _ => cases e
  | pin _ => cases e
  | box h => cases e
theorem de_not {a : Expr} {ia : IE} {pos : Pos} (ha : PE X a (lift (cn X) W (wE T ia))) : PE X (.UnaryOp .Not a pos) (lift (cn X) W (wE T (.not ia))) :=
  pe_imp (pe_notT ha) fun s H Q ⟨b, G0, H0, G, n, r, Qd, Ex, h, t, x, k⟩ => by
    rw [wE] at t
    refine lift_bind h x t fun v G1 H1 n1 d h1 x1 s1 r1 q1 => ?_
    obtain ⟨z, ez, q3⟩ := ofO_iff q1
    exact ⟨z, tru_rp h1.ok.sub r1 ez, k _ G1 H1 n1 _ s1 (.bl _) q3⟩
theorem de_and1 {a : Expr} {ia : IE} {pos : Pos} (ha : PE X a (lift (cn X) W (wE T ia))) : PE X (.BoolOp .And [a] pos) (lift (cn X) W (wAnd T (.cons ia .nil))) :=
  pe_imp (pe_one ha) fun s H Q ⟨b, G0, H0, G, n, r, Qd, Ex, h, t, x, k⟩ => by
    rw [wAnd, if_pos (show IAs.nil.isNil = true from rfl)] at t
    exact ⟨b, G0, H0, G, n, r, Qd, Ex, h, t, x, k⟩
theorem de_or1 {a : Expr} {ia : IE} {pos : Pos} (ha : PE X a (lift (cn X) W (wE T ia))) : PE X (.BoolOp .Or [a] pos) (lift (cn X) W (wOr T (.cons ia .nil))) :=
  pe_imp (pe_one ha) fun s H Q ⟨b, G0, H0, G, n, r, Qd, Ex, h, t, x, k⟩ => by
    rw [wOr, if_pos (show IAs.nil.isNil = true from rfl)] at t
    exact ⟨b, G0, H0, G, n, r, Qd, Ex, h, t, x, k⟩
theorem de_andC {a c : Expr} {rest : List Expr} {ia : IE} {ir : IAs} {pos : Pos} (hn : ir.isNil = false) (ha : PE X a (lift (cn X) W (wE T ia))) (hr : PE X (.BoolOp .And (c :: rest) pos) (lift (cn X) W (wAnd T ir))) : PE X (.BoolOp .And (a :: c :: rest) pos) (lift (cn X) W (wAnd T (.cons ia ir))) :=
  pe_imp (pe_andT ha hr) fun s H Q ⟨b, G0, H0, G, n, r, Qd, Ex, h, t, x, k⟩ => by
    rw [wAnd, if_neg (by rw [hn]; decide)] at t
    refine lift_bind h x t fun v G1 H1 n1 d h1 x1 s1 r1 q1 => ?_
    obtain ⟨z, ez, q3⟩ := ofO_iff q1
    refine ⟨z, tru_rp h1.ok.sub r1 ez, ?_⟩
    cases z with
    | true =>
      rw [if_pos rfl] at q3 ⊢
      exact lift_bind h1 x1 q3 fun u G2 H2 n2 e h2 x2 s2 r2 q => k u G2 H2 n2 e (s1.trans s2) r2 q
    | false =>
      rw [if_neg (by decide)] at q3 ⊢
      exact k v G1 H1 n1 d s1 r1 q3
theorem de_orC {a c : Expr} {rest : List Expr} {ia : IE} {ir : IAs} {pos : Pos} (hn : ir.isNil = false) (ha : PE X a (lift (cn X) W (wE T ia))) (hr : PE X (.BoolOp .Or (c :: rest) pos) (lift (cn X) W (wOr T ir))) : PE X (.BoolOp .Or (a :: c :: rest) pos) (lift (cn X) W (wOr T (.cons ia ir))) :=
  pe_imp (pe_orT ha hr) fun s H Q ⟨b, G0, H0, G, n, r, Qd, Ex, h, t, x, k⟩ => by
    rw [wOr, if_neg (by rw [hn]; decide)] at t
    refine lift_bind h x t fun v G1 H1 n1 d h1 x1 s1 r1 q1 => ?_
    obtain ⟨z, ez, q3⟩ := ofO_iff q1
    refine ⟨z, tru_rp h1.ok.sub r1 ez, ?_⟩
    cases z with
    | false =>
      rw [if_neg (by decide)] at q3 ⊢
      exact lift_bind h1 x1 q3 fun u G2 H2 n2 e h2 x2 s2 r2 q => k u G2 H2 n2 e (s1.trans s2) r2 q
    | true =>
      rw [if_pos rfl] at q3 ⊢
      exact k v G1 H1 n1 d s1 r1 q3
/-! ### tests: an expression whose value's truth is the test -/
abbrev lT (X : Cx) (W : WD) (w : TD) : TT := liftT (cn X) W (fun r n Q E => w r n (tru Q) E)
theorem dt_bad {e : Expr} : PT X e (lT X W (wE T .bad)) := ⟨fun pins s a H Q I ⟨b, G0, H0, G, n, r, Qd, Ex, h, t, x, k⟩ => by
  dsimp only at t
  rw [wE] at t
  exact t.elim⟩
theorem dt_val {e : Expr} {w : TD} (h : PE X e (lift (cn X) W w)) (he : ∀ whole, isTrue e X.env whole = (do let v ← whole; standAt e.pos; holding [v] (truthy v))) : PT X e (lT X W w) :=
  pt_imp (pt_truth h he) fun s H Q ⟨b, G0, H0, G, n, r, Qd, Ex, h, t, x, k⟩ => by
    refine lift_bind h x t fun v G1 H1 n1 d h1 x1 s1 r1 q1 => ?_
    obtain ⟨z, ez, q3⟩ := ofO_iff q1
    exact ⟨z, tru_rp h1.ok.sub r1 ez, k G1 H1 n1 z s1 q3⟩
theorem dt_cmp {op : CmpOp} {o : COp} {a c : Expr} {ia ic : IE} {pos : Pos} (ho : OpR X (compareOp op) (lc2 X.K (cmpop o))) (ha : PE X a (lift (cn X) W (wE T ia))) (hc : PE X c (lift (cn X) W (wE T ic))) (hm : behindInMarks op c = false) : PT X (.Compare a [op] [c] pos) (lT X W (wE T (.cmp o ia ic))) :=
  pt_imp (pt_cmpR ho ha hc hm) fun s H Q ⟨b, G0, H0, G, n, r, Qd, Ex, h, t, x, k⟩ => by
    dsimp only at t
    rw [wE] at t
    refine lift_bind h x t fun v G1 H1 n1 d h1 x1 s1 r1 q1 => lift_bind h1 x1 q1 fun w G2 H2 n2 e h2 x2 s2 r2 q2 => ?_
    obtain ⟨z, ez, q3⟩ := ofO_iff q2
    exact ⟨b, G2, n2, d, e, z, h2.ok, r1.mono s2.gg, r2, ez, z, rfl, k G2 H2 n2 _ (s1.trans s2) q3⟩
theorem dt_chain {op op' : CmpOp} {o o' : COp} {a c e : Expr} {ia ic ie : IE} {pos : Pos} (ho : OpR X (compareOp op) (lc2 X.K (cmpop o))) (ho' : OpR X (compareOp op') (lc2 X.K (cmpop o'))) (ha : PE X a (lift (cn X) W (wE T ia))) (hc : PE X c (lift (cn X) W (wE T ic))) (he : PE X e (lift (cn X) W (wE T ie)))
    (hm : lastMarks [op, op'] [c, e] = false) : PT X (.Compare a [op, op'] [c, e] pos) (lT X W (wE T (.chain o o' ia ic ie))) :=
  pt_imp (pt_chain ho ho' ha hc he hm) fun s H Q ⟨b, G0, H0, G, n, r, Qd, Ex, h, t, x, k⟩ => by
    dsimp only at t
    rw [wE] at t
    refine lift_bind h x t fun v G1 H1 n1 d h1 x1 s1 r1 q1 => lift_bind h1 x1 q1 fun w G2 H2 n2 e h2 x2 s2 r2 q2 => ?_
    obtain ⟨z, ez, q3⟩ := ofO_iff q2
    refine ⟨b, G2, n2, d, e, z, h2.ok, r1.mono s2.gg, r2, ez, z, rfl, ?_⟩
    cases z with
    | false =>
      rw [if_neg (by decide)] at q3 ⊢
      exact ⟨_, rfl, k G2 H2 n2 _ (s1.trans s2) q3⟩
    | true =>
      rw [if_pos rfl] at q3 ⊢
      refine lift_bind h2 x2 q3 fun u G3 H3 n3 f h3 x3 s3 r3 q4 => ?_
      obtain ⟨z', ez', q5⟩ := ofO_iff q4
      exact ⟨b, G3, n3, e, f, z', h3.ok, r2.mono s3.gg, r3, ez', _, rfl, k G3 H3 n3 _ ((s1.trans s2).trans s3) q5⟩
theorem dt_not {a : Expr} {ia : IE} {pos : Pos} (ha : PT X a (lT X W (wE T ia))) : PT X (.UnaryOp .Not a pos) (lT X W (wE T (.tnot ia))) :=
  pt_imp (pt_not ha) fun s H Q ⟨b, G0, H0, G, n, r, Qd, Ex, h, t, x, k⟩ => by
    dsimp only at t
    rw [wE] at t
    exact liftT_bind h x t fun G1 H1 n1 d h1 x1 s1 q1 => k G1 H1 n1 _ s1 q1
theorem dw_and1 {a : Expr} {ia : IE} {pos : Pos} (ha : PT X a (lT X W (wE T ia))) : PW X (.BoolOp .And [a] pos) (lT X W (wAndT T (.cons ia .nil))) :=
  pw_imp (pw_and1 ha) fun s H Q ⟨b, G0, H0, G, n, r, Qd, Ex, h, t, x, k⟩ => by
    dsimp only at t
    rw [wAndT] at t
    refine liftT_bind (Qd := fun z n1 => tru Qd (.bl z) n1) h x ?_ fun G1 H1 n1 d h1 x1 s1 q1 => k G1 H1 n1 _ s1 q1
    exact t
theorem dw_or1 {a : Expr} {ia : IE} {pos : Pos} (ha : PT X a (lT X W (wE T ia))) : PW X (.BoolOp .Or [a] pos) (lT X W (wOrT T (.cons ia .nil))) :=
  pw_imp (pw_or1 ha) fun s H Q ⟨b, G0, H0, G, n, r, Qd, Ex, h, t, x, k⟩ => by
    dsimp only at t
    rw [wOrT] at t
    refine liftT_bind (Qd := fun z n1 => tru Qd (.bl z) n1) h x ?_ fun G1 H1 n1 d h1 x1 s1 q1 => k G1 H1 n1 _ s1 q1
    exact t
theorem dw_andC {a c : Expr} {rest : List Expr} {ia : IE} {ir : IAs} {pos : Pos} (hn : ir.isNil = false) (ha : PT X a (lT X W (wE T ia))) (hr : PW X (.BoolOp .And (c :: rest) pos) (lT X W (wAndT T ir))) : PW X (.BoolOp .And (a :: c :: rest) pos) (lT X W (wAndT T (.cons ia ir))) :=
  pw_imp (pw_and ha hr) fun s H Q ⟨b, G0, H0, G, n, r, Qd, Ex, h, t, x, k⟩ => by
    dsimp only at t
    rw [wAndT] at t
    refine liftT_bind h x t fun G1 H1 n1 z h1 x1 s1 q1 => ?_
    rw [if_neg (by rw [hn]; decide)] at q1
    cases z with
    | true =>
      rw [if_pos rfl] at q1 ⊢
      exact liftT_bind h1 x1 q1 fun G2 H2 n2 e h2 x2 s2 q => k G2 H2 n2 e (s1.trans s2) q
    | false =>
      rw [if_neg (by decide)] at q1 ⊢
      exact k G1 H1 n1 _ s1 q1
theorem dw_orC {a c : Expr} {rest : List Expr} {ia : IE} {ir : IAs} {pos : Pos} (hn : ir.isNil = false) (ha : PT X a (lT X W (wE T ia))) (hr : PW X (.BoolOp .Or (c :: rest) pos) (lT X W (wOrT T ir))) : PW X (.BoolOp .Or (a :: c :: rest) pos) (lT X W (wOrT T (.cons ia ir))) :=
  pw_imp (pw_or ha hr) fun s H Q ⟨b, G0, H0, G, n, r, Qd, Ex, h, t, x, k⟩ => by
    dsimp only at t
    rw [wOrT] at t
    refine liftT_bind h x t fun G1 H1 n1 z h1 x1 s1 q1 => ?_
    rw [if_neg (by rw [hn]; decide)] at q1
    cases z with
    | false =>
      rw [if_neg (by decide)] at q1 ⊢
      exact liftT_bind h1 x1 q1 fun G2 H2 n2 e h2 x2 s2 q => k G2 H2 n2 e (s1.trans s2) q
    | true =>
      rw [if_pos rfl] at q1 ⊢
      exact k G1 H1 n1 _ s1 q1
theorem de_ite {c a e : Expr} {ic ia ie : IE} {pos : Pos} (hc : PT X c (lT X W (wE T ic))) (ha : PE X a (lift (cn X) W (wE T ia))) (he : PE X e (lift (cn X) W (wE T ie))) : PE X (.IfExp c a e pos) (lift (cn X) W (wE T (.ite ic ia ie))) :=
  pe_imp (pe_ifExp hc ha he) fun s H Q ⟨b, G0, H0, G, n, r, Qd, Ex, h, t, x, k⟩ => by
    rw [wE] at t
    refine liftT_bind h x t fun G1 H1 n1 z h1 x1 s1 q1 => ?_
    cases z with
    | true =>
      rw [if_pos rfl] at q1 ⊢
      exact lift_bind h1 x1 q1 fun u G2 H2 n2 e h2 x2 s2 r2 q => k u G2 H2 n2 e (s1.trans s2) r2 q
    | false =>
      rw [if_neg (by decide)] at q1 ⊢
      exact lift_bind h1 x1 q1 fun u G2 H2 n2 e h2 x2 s2 r2 q => k u G2 H2 n2 e (s1.trans s2) r2 q
/-! ### argument lists, displays -/
theorem da_nil : PA X [] (liftA (cn X) W (wA T .nil)) := pa_imp pa_nil fun s H Q ⟨b, G0, H0, G, n, r, Qd, Ex, h, t, x, k⟩ => by
  rw [wA] at t
  exact k [] G H n [] (Stp.refl h.ok) .nil t
theorem da_cons {e : Expr} {es : List Expr} {ie : IE} {ir : IAs} (he : PE X e (lift (cn X) W (wE T ie))) (hr : PA X es (liftA (cn X) W (wA T ir))) (hs : starEach (e :: es) X.env = (false, eval e X.env) :: starEach es X.env) : PA X (e :: es) (liftA (cn X) W (wA T (.cons ie ir))) :=
  pa_imp (pa_cons he hr hs) fun s H Q ⟨b, G0, H0, G, n, r, Qd, Ex, h, t, x, k⟩ => by
    rw [wA] at t
    refine lift_bind h x t fun v G1 H1 n1 d h1 x1 s1 r1 q1 => liftA_bind h1 x1 q1 fun w G2 H2 n2 e h2 x2 s2 r2 q2 => ?_
    exact k _ G2 H2 n2 _ (s1.trans s2) (.cons (r1.mono s2.gg) r2) q2
theorem da_star {e : Expr} {es : List Expr} {p : Pos} {ie : IE} {ir : IAs} (he : PE X e (lift (cn X) W (wE T ie))) (hr : PA X es (liftA (cn X) W (wA T ir))) : PA X (.Starred e p :: es) (liftA (cn X) W (wA T (.star ie ir))) :=
  pa_imp (StX.pa_star he hr) fun s H Q ⟨b, G0, H0, G, n, r, Qd, Ex, h, t, x, k⟩ => by
    rw [wA] at t
    refine lift_bind h x t fun v G1 H1 n1 d h1 x1 s1 r1 q1 => ?_
    have key : ∀ (p : Addr) (xs : List V) (ys : List D), v = .ref p → (SqT X.K H1 p xs ∨ SqL X.K H1 p xs) → Rps X.K b G1 xs ys → wA T ir r n1 (fun zs n2 => Qd (ys ++ zs) n2) Ex →
        ∃ p xs, v = V.ref p ∧ (SqT X.K H1 p xs ∨ SqL X.K H1 p xs) ∧ liftA (cn X) W (wA T ir) s H1 fun ys H2 => Q (xs ++ ys) H2 := fun p xs ys ev hq g q =>
      ⟨p, xs, ev, hq, liftA_bind h1 x1 q fun w G2 H2 n2 e h2 x2 s2 r2 q2 => k _ G2 H2 n2 _ (s1.trans s2) ((g.mono s2.gg).append r2) q2⟩
    cases d with
    | list ys =>
      obtain ⟨a, xs, ev, hl, z, g⟩ := rp_list_inv r1
      exact key a xs ys ev (.inr (SqL.of (h1.ok.sub _ _ hl))) g q1
    | tup ys =>
      obtain ⟨a, xs, ev, hl, z, g⟩ := rp_tup_inv r1
      exact key a xs ys ev (.inl (sqt_same h1.ok.sub hl)) g q1
    | _ => exact q1.elim
/-- a tuple, a list of written items -/
theorem de_tup {es : List Expr} {ia : IAs} {kk : Nat} {pos : Pos} (ha : PA X es (liftA (cn X) W (wA T ia))) : PE X (.Tuple es kk pos) (lift (cn X) W (wE T (.tup ia))) :=
  pe_imp (pe_tup ha) fun s H Q ⟨b, G0, H0, G, n, r, Qd, Ex, h, t, x, k⟩ => by
    rw [wE] at t
    refine liftA_bind h x t fun v G1 H1 n1 d h1 x1 s1 r1 q1 => ⟨by rw [r1.length]; exact q1.1, fun p np => ?_⟩
    obtain ⟨s2, r2⟩ := rp_new_tup h1.ok np r1 (by rw [r1.length]; exact q1.1)
    exact k _ _ _ n1 _ (s1.trans s2) r2 q1.2
theorem de_lst {es : List Expr} {ia : IAs} {pos : Pos} (ha : PA X es (liftA (cn X) W (wA T ia))) : PE X (.List es pos) (lift (cn X) W (wE T (.lst ia))) :=
  pe_imp (pe_lst ha) fun s H Q ⟨b, G0, H0, G, n, r, Qd, Ex, h, t, x, k⟩ => by
    rw [wE] at t
    refine liftA_bind h x t fun v G1 H1 n1 d h1 x1 s1 r1 q1 => ⟨by rw [r1.length]; exact q1.1, fun p np => ?_⟩
    obtain ⟨s2, r2⟩ := rp_new_list h1.ok np r1 (by rw [r1.length]; exact q1.1)
    exact k _ _ _ n1 _ (s1.trans s2) r2 q1.2
/-! ### subscripts, slices -/
theorem Rps.atI {K : PySem.W.Frag} {b : Option Addr} {G : Hp} {xs : List V} {ds : List D} (g : Rps K b G xs ds) {i : Int} {d : D} (e : L2.atI ds i = some d) : ∃ v, L2.atI xs i = some v ∧ Rp K b G v d := by
  unfold L2.atI at e ⊢
  rw [g.length]
  cases q : L2.ixN ds.length i with
  | none => rw [q] at e; cases e
  | some j =>
    rw [q] at e
    obtain ⟨v, e1, e2⟩ := g.getD (show ds[j]? = some d from e)
    exact ⟨v, e1, e2⟩
theorem strOk_one {z : Str} {c : Nat} (h : PyData.strOk z = true) (hc : c ∈ z.cps.toList) : PyData.strOk ⟨#[c]⟩ = true := by
  unfold PyData.strOk at h ⊢
  rw [Array.all_eq_true'] at h
  have := h c (by simpa using hc)
  simpa using this
theorem atI_mem {α : Type} {xs : List α} {i : Int} {v : α} (h : L2.atI xs i = some v) : v ∈ xs := by
  unfold L2.atI at h
  cases q : L2.ixN xs.length i with
  | none => rw [q] at h; cases h
  | some j =>
    rw [q] at h
    exact List.mem_of_getElem? (show xs[j]? = some v from h)
theorem de_ix {a i : Expr} {ia ii : IE} {pos : Pos} (ha : PE X a (lift (cn X) W (wE T ia))) (hi : PE X i (lift (cn X) W (wE T ii))) (hs : PlainIx i) : PE X (.Subscript a i pos) (lift (cn X) W (wE T (.ix ia ii))) :=
  pe_imp (pe_ix ix_seq ha hi hs) fun s H Q ⟨b, G0, H0, G, n, r, Qd, Ex, h, t, x, k⟩ => by
    rw [wE] at t
    refine lift_bind h x t fun v G1 H1 n1 d h1 x1 s1 r1 q1 => lift_bind h1 x1 q1 fun w G2 H2 n2 e h2 x2 s2 r2 q2 => ?_
    obtain ⟨z, ez, q3⟩ := ofO_iff q2
    have r1 := r1.mono s2.gg
    cases e with
    | int j =>
      have ew := rp_int_inv r2
      subst ew
      cases d with
      | list xs =>
        obtain ⟨p, vs, rfl, hl, zz, g⟩ := rp_list_inv r1
        obtain ⟨u, e1, e2⟩ := g.atI (show L2.atI xs j = some z from ez)
        exact .inl ⟨p, vs, j, u, rfl, rfl, SqL.of (h2.ok.sub _ _ hl), e1, k _ G2 H2 n2 _ (s1.trans s2) e2 q3⟩
      | tup xs =>
        obtain ⟨p, vs, rfl, hl, zz, g⟩ := rp_tup_inv r1
        obtain ⟨u, e1, e2⟩ := g.atI (show L2.atI xs j = some z from ez)
        exact .inr (.inl ⟨p, vs, j, u, rfl, rfl, sqt_same h2.ok.sub hl, e1, k _ G2 H2 n2 _ (s1.trans s2) e2 q3⟩)
      | str y =>
        obtain ⟨ev, zy, oy⟩ := rp_str_inv r1
        subst ev
        have ez : (L2.atI y.cps.toList j).map (fun c => D.str ⟨#[c]⟩) = some z := ez
        cases q : L2.atI y.cps.toList j with
        | none => rw [q] at ez; cases ez
        | some c =>
          rw [q] at ez
          cases ez
          exact .inr (.inr ⟨y, j, c, rfl, rfl, zy, q, k _ G2 H2 n2 _ (s1.trans s2) (.str _ (by show 1 ≤ sizeLine; rw [sizeLine_eq]; decide) (strOk_one oy (atI_mem q))) q3⟩)
      | _ => cases ez
    | _ => cases d <;> cases ez
end
end Dl

set_option Elab.async false
set_option linter.all false
set_option maxRecDepth 100000
set_option maxHeartbeats 4000000
/-! Expressions: slices, built-in functions, isinstance, calls. -/
namespace Dl
open PySem PySem.Spec PyProof.Rows L2
section
variable {X : Cx} {W : WD} {T : Tab}
/-! ### slices -/
theorem cut_rps {K : PySem.W.Frag} {b : Option Addr} {G : Hp} {xs : List V} {ds : List D} (g : Rps K b G xs ds) (lo hi : Option Int) : Rps K b G (cutV xs lo hi) (cutD ds lo hi) := by
  unfold cutV cutD
  rw [g.length]
  exact (g.drop _).take _
theorem cutD_whole {ds : List D} {lo hi : Option Int} (h1 : HT.sIx ds.length 0 lo = 0) (h2 : HT.sIx ds.length ds.length hi = ds.length) : cutD ds lo hi = ds := by
  unfold cutD
  rw [h1, h2]
  simp
theorem strOk_cut {z : Str} (h : PyData.strOk z = true) (lo hi : Option Int) : PyData.strOk (cutS z lo hi) = true := by
  unfold PyData.strOk at h ⊢
  rw [Array.all_eq_true'] at h ⊢
  intro x hx
  unfold cutS at hx
  refine h x ?_
  have hx : x ∈ ((z.cps.toList.drop (HT.sIx z.length 0 lo)).take (HT.sIx z.length z.length hi - HT.sIx z.length 0 lo)) := by simpa using hx
  have := List.mem_of_mem_drop (List.mem_of_mem_take hx)
  simpa using this
abbrev WO := List Ent → Nat → (Option Int → Nat → Prop) → QX → Prop
def liftO (c : Cn) (W : WD) (te : WO) : TO := fun s H Q => ∃ b G0 H0 G n r Qd Ex, Rho c.K b G0 H0 G H n s r ∧ te r n Qd Ex ∧ XOk c W b G H s Ex ∧ ∀ G' H' n' d, Stp b G H G' H' n' → Qd d n' → Q d H'
theorem po_imp {e : Option Expr} {t t' : TO} (h : PO X e t) (i : ∀ s H Q, t' s H Q → t s H Q) : PO X e t' := ⟨fun pins s a H Q I q => h.run pins s a H Q I (i _ _ _ q)⟩
def IE.part (T : Tab) (h : Bool) (e : IE) : WO := fun r n Q E => wP h (fun q => wE T e r n q E) n Q
theorem dpo_none {e : IE} : PO X none (liftO (cn X) W (IE.part T false e)) := po_imp po_none fun s H Q ⟨b, G0, H0, G, n, r, Qd, Ex, h, t, x, k⟩ => by
  unfold IE.part wP at t
  rw [if_neg (by decide)] at t
  exact k G H n none (Stp.refl h.ok) t
theorem dpo_some {e : Expr} {ie : IE} (he : PE X e (lift (cn X) W (wE T ie))) : PO X (some e) (liftO (cn X) W (IE.part T true ie)) := po_imp (po_some he) fun s H Q ⟨b, G0, H0, G, n, r, Qd, Ex, h, t, x, k⟩ => by
  unfold IE.part wP at t
  rw [if_pos rfl] at t
  refine lift_bind h x t fun v G1 H1 n1 d h1 x1 s1 r1 q1 => ?_
  cases d with
  | int i => exact ⟨i, rp_int_inv r1, k G1 H1 n1 _ s1 q1⟩
  | _ => exact q1.elim
theorem de_slc {a : Expr} {lo hi : Option Expr} {ia il ih : IE} {hl hh : Bool} {p2 pos : Pos} (ha : PE X a (lift (cn X) W (wE T ia))) (h1 : PO X lo (liftO (cn X) W (IE.part T hl il))) (h2 : PO X hi (liftO (cn X) W (IE.part T hh ih))) :
    PE X (.Subscript a (.Slice lo hi none p2) pos) (lift (cn X) W (wE T (.slc ia hl hh il ih))) :=
  pe_imp (pe_slice (sl_list.or (sl_tupA.or sl_str)) ha h1 h2) fun s H Q ⟨b, G0, H0, G, n, r, Qd, Ex, h, t, x, k⟩ => by
    rw [wE] at t
    refine lift_bind h x t fun v G1 H1 n1 d h1 x1 s1 r1 q1 => ?_
    refine ⟨b, G0, H0, G1, n1, r, _, Ex, h1, q1, x1, fun G2 H2 n2 l s2 q2 => ?_⟩
    have h2 := h1.step s2
    refine ⟨b, G0, H0, G2, n2, r, _, Ex, h2, q2, x1.step s2, fun G3 H3 n3 u s3 q3 => ?_⟩
    have h3 := h2.step s3
    have st := (s1.trans s2).trans s3
    have r1 := (r1.mono s2.gg).mono s3.gg
    obtain ⟨z, ez, q4⟩ := ofO_iff q3
    cases d with
    | list ds =>
      obtain ⟨a, xs, rfl, hl, zz, g⟩ := rp_list_inv r1
      cases ez
      refine .inl ⟨a, xs, rfl, SqL.of (h3.ok.sub _ _ hl), fun p np => ?_⟩
      obtain ⟨s4, r4⟩ := rp_new_list h3.ok np (cut_rps g l u) (Nat.le_trans (cutV_length _ _ _) zz)
      exact k _ _ _ n3 _ (st.trans s4) r4 q4
    | tup ds =>
      obtain ⟨a, xs, rfl, hl, zz, g⟩ := rp_tup_inv r1
      cases ez
      refine .inr (.inl ⟨a, xs, rfl, sqt_same h3.ok.sub hl, fun w => ?_, fun _ p np => ?_⟩)
      · rw [g.length] at w
        rw [cutD_whole w.1 w.2] at q4
        exact k _ _ _ n3 _ st r1 q4
      · obtain ⟨s4, r4⟩ := rp_new_tup h3.ok np (cut_rps g l u) (Nat.le_trans (cutV_length _ _ _) zz)
        exact k _ _ _ n3 _ (st.trans s4) r4 q4
    | str y =>
      obtain ⟨ev, zy, oy⟩ := rp_str_inv r1
      subst ev
      cases ez
      exact .inr (.inr ⟨y, rfl, zy, k _ _ _ n3 _ st (.str _ (Nat.le_trans (cutS_length _ _ _) zy) (strOk_cut oy l u)) q4⟩)
    | _ => cases ez
/-! ### built-in functions of one argument -/
def lb1 (K : PySem.W.Frag) (f : D → Option D) : List V → Hp → VK → Prop := fun vs H Q => ∃ b G n v dx z, vs = [v] ∧ Ok b G H n ∧ Rp K b G v dx ∧ f dx = some z ∧ ∀ v' G' H', Stp b G H G' H' n → Rp K b G' v' z → Q v' H'
theorem db_len : CallR X (.builtin "len") (lb1 X.K fun x => biD .len [x]) := by
  intro pins s a H xs us Q I r ⟨b, G, n, v, dx, z, ev, ok, hv, e, q⟩
  subst ev
  cases dx with
  | list ds =>
    obtain ⟨p, ys, rfl, hl, zz, g⟩ := rp_list_inv hv
    cases e
    rw [← g.length] at q
    exact call_len pins s a H _ us Q I r ⟨_, ys.length, rfl, .inl ⟨_, SqL.of (ok.sub _ _ hl), rfl⟩, q _ G H (Stp.refl ok) (.int _)⟩
  | tup ds =>
    obtain ⟨p, ys, rfl, hl, zz, g⟩ := rp_tup_inv hv
    cases e
    rw [← g.length] at q
    exact call_len pins s a H _ us Q I r ⟨_, ys.length, rfl, .inr ⟨_, sqt_same ok.sub hl, rfl⟩, q _ G H (Stp.refl ok) (.int _)⟩
  | str y =>
    obtain ⟨ev, zy, oy⟩ := rp_str_inv hv
    subst ev
    cases e
    exact call_len pins s a H _ us Q I r ⟨_, y.length, rfl, ⟨zy, rfl⟩, q _ G H (Stp.refl ok) (.int _)⟩
  | dict ds =>
    cases hv with
    | @dict p kvs _ h zz g =>
      cases e
      have e2 : ∀ (xs : List (Key × V)) (ds : List (Key × D)), Rkv X.K b G xs ds → xs.length = ds.length := by
        intro xs
        induction xs with
        | nil => intro ds h; cases h; rfl
        | cons x xs ih => intro ds h; cases h with | cons h g => simp [ih _ g]
      rw [← e2 _ _ g] at q
      exact call_lenD pins s a H _ us Q I r ⟨p, kvs, rfl, ok.sub _ _ h, q _ G H (Stp.refl ok) (.int _)⟩
  | _ => cases e
theorem db_tuple : CallR X (.type "tuple") (lb1 X.K fun x => biD .tuple [x]) := by
  intro pins s a H xs us Q I r ⟨b, G, n, v, dx, z, ev, ok, hv, e, q⟩
  subst ev
  cases dx with
  | list ds =>
    obtain ⟨p, ys, rfl, hl, zz, g⟩ := rp_list_inv hv
    cases e
    refine call_tuple_of pins s a H _ us Q I r ⟨p, ys, rfl, .inl ⟨SqL.of (ok.sub _ _ hl), fun l nl => ?_⟩⟩
    obtain ⟨s4, r4⟩ := rp_new_tup ok nl g zz
    exact q _ _ _ s4 r4
  | tup ds =>
    obtain ⟨p, ys, rfl, hl, zz, g⟩ := rp_tup_inv hv
    cases e
    exact call_tuple_of pins s a H _ us Q I r ⟨p, ys, rfl, .inr ⟨sqt_same ok.sub hl, q _ _ _ (Stp.refl ok) hv⟩⟩
  | _ => cases e
theorem db_list : CallR X (.type "list") (lb1 X.K fun x => biD .list [x]) := by
  intro pins s a H xs us Q I r ⟨b, G, n, v, dx, z, ev, ok, hv, e, q⟩
  subst ev
  cases dx with
  | list ds =>
    obtain ⟨p, ys, rfl, hl, zz, g⟩ := rp_list_inv hv
    cases e
    refine call_list_of pins s a H _ us Q I r ⟨p, ys, rfl, .inl (SqL.of (ok.sub _ _ hl)), fun l nl => ?_⟩
    obtain ⟨s4, r4⟩ := rp_new_list ok nl g zz
    exact q _ _ _ s4 r4
  | tup ds =>
    obtain ⟨p, ys, rfl, hl, zz, g⟩ := rp_tup_inv hv
    cases e
    refine call_list_of pins s a H _ us Q I r ⟨p, ys, rfl, .inr (sqt_same ok.sub hl), fun l nl => ?_⟩
    obtain ⟨s4, r4⟩ := rp_new_list ok nl g zz
    exact q _ _ _ s4 r4
  | _ => cases e
theorem bools_rps {K : PySem.W.Frag} {b : Option Addr} {G : Hp} : ∀ {xs : List V} {ds : List D} {bs : List Bool}, Rps K b G xs ds → bools ds = some bs → xs = bs.map V.bl
  | _, [], bs, h, e => by
    cases h
    cases e
    rfl
  | _, d :: ds, bs, h, e => by
    cases h with
    | cons h g =>
      cases d with
      | bl c =>
        rw [bools] at e
        cases q : bools ds with
        | none => rw [q] at e; cases e
        | some cs =>
          rw [q] at e
          cases e
          rw [bools_rps g q, rp_bl_inv h]
          rfl
      | _ => cases e
theorem db_all (hc : X.calm = true) : CallR X (.builtin "all") (lb1 X.K fun x => biD .all [x]) := by
  intro pins s a H xs us Q I r ⟨b, G, n, v, dx, z, ev, ok, hv, e, q⟩
  subst ev
  cases dx with
  | list ds =>
    obtain ⟨p, ys, rfl, hl, zz, g⟩ := rp_list_inv hv
    have e : (bools ds).map (fun bs => D.bl (bs.all id)) = some z := e
    cases qq : bools ds with
    | none => rw [qq] at e; cases e
    | some bs =>
      rw [qq] at e
      cases e
      have ey := bools_rps g qq
      subst ey
      exact cr_all hc pins s a H _ us Q I r ⟨p, bs, rfl, SqL.of (ok.sub _ _ hl), q _ G H (Stp.refl ok) (.bl _)⟩
  | _ => cases e
theorem db_any (hc : X.calm = true) : CallR X (.builtin "any") (lb1 X.K fun x => biD .any [x]) := by
  intro pins s a H xs us Q I r ⟨b, G, n, v, dx, z, ev, ok, hv, e, q⟩
  subst ev
  cases dx with
  | list ds =>
    obtain ⟨p, ys, rfl, hl, zz, g⟩ := rp_list_inv hv
    have e : (bools ds).map (fun bs => D.bl (bs.any id)) = some z := e
    cases qq : bools ds with
    | none => rw [qq] at e; cases e
    | some bs =>
      rw [qq] at e
      cases e
      have ey := bools_rps g qq
      subst ey
      exact cr_any hc pins s a H _ us Q I r ⟨p, bs, rfl, SqL.of (ok.sub _ _ hl), q _ G H (Stp.refl ok) (.bl _)⟩
  | _ => cases e
theorem db_int : CallR X (.type "int") (lb1 X.K fun x => biD .int [x]) := by
  intro pins s a H xs us Q I r ⟨b, G, n, v, dx, z, ev, ok, hv, e, q⟩
  subst ev
  cases dx with
  | int i =>
    have ev := rp_int_inv hv
    subst ev
    cases e
    exact call_int1 pins s a H _ us Q I r (.inl ⟨i, rfl, q _ G H (Stp.refl ok) (.int _)⟩)
  | bl i =>
    have ev := rp_bl_inv hv
    subst ev
    cases e
    exact call_int1 pins s a H _ us Q I r (.inr ⟨i, rfl, q _ G H (Stp.refl ok) (.int _)⟩)
  | _ => cases e
theorem db_abs : CallR X (.builtin "abs") (lb1 X.K fun x => biD .abs [x]) := by
  intro pins s a H xs us Q I r ⟨b, G, n, v, dx, z, ev, ok, hv, e, q⟩
  subst ev
  cases dx with
  | int i =>
    have ev := rp_int_inv hv
    subst ev
    cases e
    exact call_abs pins s a H _ us Q I r ⟨i, rfl, q _ G H (Stp.refl ok) (.int _)⟩
  | _ => cases e
theorem bi_read {t : TA} {f : Bi} {ia : IE} {s : L2.St} {H : Hp} {Q : VK} (ht : ∀ Q', lift (cn X) W (wE T ia) s H (fun v H1 => Q' [v] H1) → t s H Q') (h : lift (cn X) W (wE T (.bi f ia)) s H Q) : tCB (lb1 X.K fun x => biD f [x]) t s H Q := by
  obtain ⟨b, G0, H0, G, n, r, Qd, Ex, h, t, x, k⟩ := h
  rw [wE] at t
  refine ht _ (lift_bind h x t fun v G1 H1 n1 d h1 x1 s1 r1 q1 => ?_)
  obtain ⟨z, ez, q3⟩ := ofO_iff q1
  exact ⟨b, G1, n1, v, d, z, rfl, h1.ok, r1, ez, fun v' G' H' st r' => k v' G' H' n1 z (s1.trans st) r' q3⟩
theorem de_biB {f : Bi} {a : Expr} {ia : IE} {nm : Str} {id : String} {p pos : Pos} (hc : CallR X (.builtin id) (lb1 X.K fun x => biD f [x])) (hg : Gl X nm) (hm : X.mg nm = none) (hv : bootBuiltins nm = some (.builtin id)) (hn : nm ≠ "__name__") (hdb : (nm == ("__debug__" : Str)) = false)
    (ha : PE X a (lift (cn X) W (wE T ia))) (hs : starEach [a] X.env = [(false, eval a X.env)]) : PE X (.Call (.Name nm p) [a] [] pos) (lift (cn X) W (wE T (.bi f ia))) :=
  pe_imp (pe_callB hc hg hm hv (pa_cons ha pa_nil hs) hn hdb hs) fun s H Q h => bi_read (fun Q' q => q) h
theorem de_biT {f : Bi} {a : Expr} {ia : IE} {nm : Str} {id : String} {p pos : Pos} (hc : CallR X (.type id) (lb1 X.K fun x => biD f [x])) (hg : Gl X nm) (hm : X.mg nm = none) (hv : bootBuiltins nm = some (.type id)) (hn : nm ≠ "__name__") (hdb : (nm == ("__debug__" : Str)) = false)
    (ha : PE X a (lift (cn X) W (wE T ia))) (hs : starEach [a] X.env = [(false, eval a X.env)]) : PE X (.Call (.Name nm p) [a] [] pos) (lift (cn X) W (wE T (.bi f ia))) :=
  pe_imp (pe_callTy hc hg hm hv (pa_cons ha pa_nil hs) hn hdb hs) fun s H Q h => bi_read (fun Q' q => q) h
/-! ### isinstance -/
def D.tyN : D → String
  | .non => "NoneType"
  | .bl _ => "bool"
  | .int _ => "int"
  | .str _ => "str"
  | .list _ => "list"
  | .tup _ => "tuple"
  | .dict _ => "dict"
  | .obj _ _ => "list"
  | .pin _ => "list"
  | .box => "list"
def Ty.nm : Ty → String
  | .int => "int"
  | .bool => "bool"
  | .str => "str"
  | .list => "list"
  | .tuple => "tuple"
  | .dict => "dict"
theorem ty_rp {K : PySem.W.Frag} {b : Option Addr} {G H : Hp} {v : V} {d : D} (sm : Same G H) (h : Rp K b G v d) (nb : d.isBox = false) : TyX K H v (.type d.tyN) := by
  cases h with
  | non => exact .base .non
  | bl x => exact .base (.bl x)
  | int i => exact .base (.int i)
  | str x z o => exact .base (.str x)
  | list h z g => exact .base (.lst (sm _ _ h))
  | tup h z g =>
    rcases h with (h | ⟨o, h⟩) | ⟨o, its, n, h1, h2, _⟩
    · exact .base (.tup (sm _ _ h))
    · exact .fTuple (sm _ _ h)
    · exact .kTuple h1 h2
  | dict h z g => exact .base (.dK (sm _ _ h))
  | obj _ _ _ => cases nb
  | pin _ => cases nb
  | box h => cases nb
theorem kitB_ty (d : D) (t : Ty) (nb : d.isBox = false) : kitB d.tyN t.nm = some (d.isTy t) := by
  cases d <;> cases t <;> first | (cases nb; done) | (simp only [D.tyN, Ty.nm, D.isTy]; decide +kernel)
theorem kitAny_ty {K : PySem.W.Frag} (d : D) (nb : d.isBox = false) : ∀ ts : List Ty, PySem.W.kitAny K (.type d.tyN) (ts.map fun t => Value.type t.nm) = some (ts.any fun t => d.isTy t)
  | [] => rfl
  | t :: ts => by
    rw [List.map_cons, List.any_cons]
    refine kitAny_cons (b := d.isTy t) (kit_ty (kitB_ty d t nb)) (fun e => ?_) (fun e => ?_)
    · rw [e, kitAny_ty d nb ts]
      rfl
    · rw [e]
      rfl
def tyOf (x : Str) : Option Ty :=
  if x = "int" then some .int else if x = "bool" then some .bool else if x = "str" then some .str else if x = "list" then some .list else if x = "tuple" then some .tuple else if x = "dict" then some .dict else none
theorem tyOf_eq {x : Str} {t : Ty} (h : tyOf x = some t) : x = (t.nm : Str) := by
  unfold tyOf at h
  split at h
  · cases h; assumption
  split at h
  · cases h; assumption
  split at h
  · cases h; assumption
  split at h
  · cases h; assumption
  split at h
  · cases h; assumption
  split at h
  · cases h; assumption
  cases h
theorem boot_ty (t : Ty) : bootBuiltins (t.nm : Str) = some (.type t.nm) := by
  cases t <;> (simp only [Ty.nm]; decide +kernel)
/-- the class's name as a value -/
theorem pe_ty {x : Str} {t : Ty} {pos : Pos} (e : tyOf x = some t) (hg : Gl X x) (hm : X.mg x = none) : PE X (.Name x pos) (tC (.ty t.nm)) := by
  have ex := tyOf_eq e
  subst ex
  refine pe_bltn hg hm (boot_ty t) rfl ?_ ?_
  · cases t <;> (simp only [Ty.nm]; decide +kernel)
  · cases t <;> (simp only [Ty.nm]; decide +kernel)
def tysE : List Expr → Option (List Ty)
  | [] => some []
  | .Name x _ :: r => match tyOf x, tysE r with
    | some t, some ts => some (t :: ts)
    | _, _ => none
  | _ :: _ => none
theorem pa_tys : ∀ {es : List Expr} {ts : List Ty}, tysE es = some ts → (∀ x p, Expr.Name x p ∈ es → Gl X x ∧ X.mg x = none) → PA X es (fun _ H Q => Q (ts.map fun t => V.ty t.nm) H)
  | [], ts, e, _ => by
    cases e
    exact pa_nil
  | .Name x p :: r, ts, e, h => by
    rw [tysE] at e
    split at e
    · rename_i t ts' e1 e2
      cases e
      have h1 := h x p List.mem_cons_self
      refine pa_imp (pa_cons (pe_ty e1 h1.1 h1.2) (pa_tys e2 fun y q hy => h y q (List.mem_cons_of_mem _ hy))) fun s H Q q => q
    · cases e
theorem isi_read {d : D} {v : V} {b : Option Addr} {G H : Hp} {ts : List Ty} {Q : VK} {tp : Addr} (sm : Same G H) (h : Rp X.K b G v d) (nb : d.isBox = false) (hp : H tp = some (.tup (ts.map fun t => V.ty t.nm))) (q : Q (.bl (ts.any fun t => d.isTy t)) H) : rIsiT X.K [v, .ref tp] H Q := by
  refine ⟨v, tp, _, _, ts.map fun t => Value.type t.nm, _, rfl, hp, ?_, ty_rp sm h nb, kitAny_ty d nb ts, q⟩
  clear hp q
  induction ts with
  | nil => exact .nil
  | cons t ts ih => exact .cons (.ty _) ih
theorem de_isi1 {a : Expr} {ia : IE} {x : Str} {t : Ty} {p p2 pos : Pos} (hg : Gl X "isinstance") (hm : X.mg "isinstance" = none) (e : tyOf x = some t) (hg1 : Gl X x) (hm1 : X.mg x = none) (ha : PE X a (lift (cn X) W (wE T ia))) (hs : ∀ es, starEach (a :: es) X.env = (false, eval a X.env) :: starEach es X.env) :
    PE X (.Call (.Name "isinstance" p) [a, .Name x p2] [] pos) (lift (cn X) W (wE T (.isi ia [t]))) :=
  pe_imp (pe_callB call_isi hg hm boot_isinstance (pa_cons ha (pa_cons (pe_ty e hg1 hm1) pa_nil) (hs _)) (by decide +kernel) (by decide +kernel) (hs _)) fun s H Q ⟨b, G0, H0, G, n, r, Qd, Ex, h, t', x, k⟩ => by
    rw [wE] at t'
    refine lift_bind h x t' fun v G1 H1 n1 d h1 x1 s1 r1 q1 => ?_
    have e3 : ([t].any fun t => d.isTy t) = d.isTy t := by simp
    exact ⟨v, _, _, _, _, rfl, .ty _, ty_rp h1.ok.sub r1 q1.1, kit_ty (kitB_ty d t q1.1), k _ G1 H1 n1 _ s1 (.bl _) (by have := q1.2; rw [e3] at this; exact this)⟩
theorem de_isiN {a : Expr} {ia : IE} {es : List Expr} {ts : List Ty} {kk : Nat} {p p2 pos : Pos} (hg : Gl X "isinstance") (hm : X.mg "isinstance" = none) (e : tysE es = some ts) (hgs : ∀ x p, Expr.Name x p ∈ es → Gl X x ∧ X.mg x = none) (hl : ts.length ≤ sizeLine) (ha : PE X a (lift (cn X) W (wE T ia))) (hs : ∀ es, starEach (a :: es) X.env = (false, eval a X.env) :: starEach es X.env) :
    PE X (.Call (.Name "isinstance" p) [a, .Tuple es kk p2] [] pos) (lift (cn X) W (wE T (.isi ia ts))) :=
  pe_imp (pe_callB call_isiT hg hm boot_isinstance (pa_cons ha (pa_cons (pe_tup (pa_tys e hgs)) pa_nil) (hs _)) (by decide +kernel) (by decide +kernel) (hs _)) fun s H Q ⟨b, G0, H0, G, n, r, Qd, Ex, h, t', x, k⟩ => by
    rw [wE] at t'
    refine lift_bind h x t' fun v G1 H1 n1 d h1 x1 s1 r1 q1 => ⟨by rw [List.length_map]; exact hl, fun tp np => ?_⟩
    have st : Stp b G1 H1 G1 (upd H1 tp (.tup (ts.map fun t => V.ty t.nm))) n1 := Stp.own h1.ok np
    exact isi_read st.gh r1 q1.1 upd_same (k _ G1 _ n1 _ (s1.trans st) (.bl _) q1.2)
/-! ### calls of defs -/
def spOf (c : Cn) (fs : FS) : Sp := fun vs H Q E => ∃ b G n ds Qd Ex, Ok b G H n ∧ Rps c.K b G vs ds ∧ fs ds n Qd Ex ∧ (∀ cls d G' H' n' x, Stp b G H G' H' n' → Rx c b G' H' cls d x → Ex x n' → E cls d H') ∧
  ∀ v G' H' n' d, Stp b G H G' H' n' → Rp c.K b G' v d → Qd d n' → Q v H'
/-- what is known of a def that is called -/
structure FnD (X : Cx) (k : Nat) (f : Str) (fs : FS) : Prop where
  ex : ∃ (a : Addr) (fd : FuncData) (ps : List Str), X.mg f = some (.ref a) ∧ PySem.W.keepIn X.K (.ref a) = true ∧ Binds X.K fd ps [] ∧ FnOk X.prog X.w X.K X.mg X.base (L2.CX X.prog X.w) k a fd ps (spOf (cn X) fs)
theorem de_call {k : Nat} {f : Str} {e : Expr} {es : List Expr} {ia : IAs} {p pos : Pos} (tk : Takes X W) (hf : ∀ fs, T.fs f = some fs → FnD X k f fs) (hr : Room k X.A) (hg : Gl X f) (hdb : (f == ("__debug__" : Str)) = false) (ha : PA X (e :: es) (liftA (cn X) W (wA T ia)))
    (he : starEach (e :: es) X.env = (false, eval e X.env) :: starEach es X.env) (hpl : (backTo pos (starEach es X.env)).any (·.1) = false) : PE X (.Call (.Name f p) (e :: es) [] pos) (lift (cn X) W (wE T (.call f ia))) := by
  cases q : T.fs f with
  | none => exact ⟨fun pins s a H Q I ⟨b, G0, H0, G, n, r, Qd, Ex, h, t, x, k⟩ => by
      rw [wE, q] at t
      exact t.elim⟩
  | some fs =>
    obtain ⟨a, fd, ps, h1, h2, h3, h4⟩ := (hf fs q).ex
    refine pe_imp (pe_callS h4 hr hg h1 h2 h3 (fun a => passAt tk a) ha hdb he hpl) fun s H Q ⟨b, G0, H0, G, n, r, Qd, Ex, h, t, x, k⟩ => ?_
    rw [wE, q, ofO_some] at t
    refine liftA_bind h x t fun v G1 H1 n1 d h1 x1 s1 r1 q1 => ?_
    exact ⟨b, G1, n1, d, Qd, Ex, h1.ok, r1, q1, fun cls d G' H' n' xx st rx ex => x1 cls d G' H' n' xx st rx ex, fun v G' H' n' d st rr qq => k v G' H' n' d (s1.trans st) rr qq⟩
/-! ### join -/
theorem strs_rps {K : PySem.W.Frag} {b : Option Addr} {G : Hp} : ∀ {xs : List V} {ds : List D} {ys : List Str}, Rps K b G xs ds → strsD ds = some ys → xs = ys.map V.str ∧ ∀ y ∈ ys, PyData.strOk y = true
  | _, [], bs, h, e => by
    cases h
    cases e
    exact ⟨rfl, fun y hy => by cases hy⟩
  | _, d :: ds, bs, h, e => by
    cases h with
    | cons h g =>
      cases d with
      | str c =>
        rw [strsD] at e
        cases q : strsD ds with
        | none => rw [q] at e; cases e
        | some cs =>
          rw [q] at e
          cases e
          obtain ⟨e1, e2⟩ := strs_rps g q
          obtain ⟨e3, e4, e5⟩ := rp_str_inv h
          refine ⟨by rw [e1, e3]; rfl, fun y hy => ?_⟩
          rcases List.mem_cons.mp hy with z | z
          · rw [z]; exact e5
          · exact e2 y z
      | _ => cases e
theorem join_len (z : Str) : ∀ ys : List Str, (Str.join z ys).length ≤ (ys.map (·.length)).sum + ys.length * z.length
  | [] => Nat.zero_le _
  | [x] => by
    show x.length ≤ _
    simp
  | x :: y :: r => by
    show (x ++ z ++ Str.join z (y :: r)).length ≤ _
    rw [len_app, len_app]
    have := join_len z (y :: r)
    rw [List.map_cons, List.sum_cons, List.length_cons, Nat.succ_mul]
    omega
theorem join_ok {z : Str} (hz : PyData.strOk z = true) : ∀ {ys : List Str}, (∀ y ∈ ys, PyData.strOk y = true) → PyData.strOk (Str.join z ys) = true
  | [], _ => by unfold PyData.strOk; show (#[] : Array Nat).all _ = true; simp
  | [x], h => h x List.mem_cons_self
  | x :: y :: r, h => by
    show PyData.strOk (x ++ z ++ Str.join z (y :: r)) = true
    exact strOk_app (strOk_app (h x List.mem_cons_self) hz) (join_ok hz fun w hw => h w (List.mem_cons_of_mem _ hw))
theorem de_join {z : Str} {j : Nat} {a : Expr} {ia : IE} {p0 apos pos : Pos} (hz : z.length ≤ sizeLine) (ho : PyData.strOk z = true) (ha : PE X a (lift (cn X) W (wE T ia))) (hs : starEach [a] X.env = [(false, eval a X.env)]) (hline : (apos.endLine == pos.line) = true) :
    PE X (.Call (.Attribute (.Constant (.str z) j p0) "join" apos) [a] [] pos) (lift (cn X) W (wE T (.join z ia))) :=
  pe_imp (pe_join (X := X) (pe_str (x := z) (j := j) (pos := p0)) ha hs rfl hline) fun s H Q ⟨b, G0, H0, G, n, r, Qd, Ex, h, t, x, k⟩ => by
    rw [wE] at t
    refine ⟨⟨z, rfl⟩, lift_bind h x t fun v G1 H1 n1 d h1 x1 s1 r1 q1 => ?_⟩
    obtain ⟨y, ey, q3⟩ := ofO_iff q1
    cases d with
    | list ds =>
      obtain ⟨p, xs, rfl, hl, zz, g⟩ := rp_list_inv r1
      unfold joinD at ey
      dsimp only at ey
      cases q : strsD ds with
      | none => rw [q] at ey; cases ey
      | some ys =>
        rw [q] at ey
        dsimp only at ey
        rw [Option.ite_none_right_eq_some] at ey
        obtain ⟨c, ey⟩ := ey
        cases ey
        obtain ⟨e1, e2⟩ := strs_rps g q
        subst e1
        refine ⟨z, p, ys, rfl, rfl, .inl (SqL.of (h1.ok.sub _ _ hl)), c, k _ G1 H1 n1 _ s1 (.str _ ?_ ?_) q3⟩
        · rw [TL.join_eq]
          have := join_len z ys
          rw [sizeLine_eq]
          omega
        · rw [TL.join_eq]
          exact join_ok ho e2
    | _ => cases ey
/-! ### a written dict asked -/
def tKGet (K : PySem.W.Frag) (d : Addr) (ty tx : TE) : TE := fun s H Q => ty s H fun y H2 => tx s H2 fun z H3 => ∃ (k : Str) (r : Option Value) (v : V), y = .str k ∧ PySem.W.nsIn K d k = some r ∧ (∀ u, r = some u → L2.RelV v u) ∧ (r = none → v = z) ∧ Q v H3
theorem pe_kget {o e f : Expr} {ty tx : TE} {apos cpos : Pos} {d : Addr} {es : Array DictEntry} {n : Nat} (D : KDict X.K X.w d es n) (ho : PE X o (fun _ H Q => Q (.ref d) H)) (he : PE X e ty) (hf : PE X f tx) (m : M2 X o "get" apos e f cpos) : PE X (.Call (.Attribute o "get" apos) [e, f] [] cpos) (tKGet X.K d ty tx) := by
  refine ⟨fun pins s a H Q I h => ?_⟩
  refine wpAny_Call_method m.base m.few m.line PySem.F.plainAttrs_dict PySem.F.slot_dict_get PySem.F.type_dict_get (thn (ho.run pins s a H (fun x H1 => x = .ref d ∧ H1 = H) I ⟨rfl, rfl⟩) fun u s1 ⟨x, H1, I1, rx, ex, e1⟩ => ?_)
  subst ex e1
  obtain rfl : u = Value.ref d := rx
  refine ⟨kd_type D I1, fun b q => ?_, ?_⟩
  · cases q
    exact ⟨_, I1.kIn _ _ D.at_, rfl⟩
  rw [m.trees]
  refine Calls.callWith_builtin rfl (Calls.evalArgs_plain (Calls.spliced_cons (thn (he.run pins s1 a H1 _ I1 h) fun iv s2 ⟨y, H2, I2, ry, q2⟩ =>
    Calls.spliced_cons (thn (hf.run pins s2 a H2 _ I2 q2) fun fv s3 ⟨z, H3, I3, rz, k, r, v, ey, hk, hv, hz, q3⟩ => Calls.spliced_nil ?_))))
  subst ey
  obtain ⟨t, rfl⟩ := ry
  refine call_meetsIn PySem.F.slot_dict_get (kd_type D I3) PySem.F.entry_dict_get (PySem.F.args_dict_get_3 _ _ _) (meets_dict_get_default (strKind X.prog X.w) d (PySem.strKind_is X.prog X.w k t) D.low fv) ⟨_, PySem.W.mapOf_K (prog := X.prog) I3.kIn D.at_ D.lit, ?_⟩
  rw [PySem.W.find_K D.at_ hk]
  refine ⟨v, H3, I3.tok _, ?_, q3⟩
  cases r with
  | none =>
    rw [hz rfl]
    exact rz
  | some u => exact hv u rfl
/-- what is known of a written dict with text keys -/
structure GdD (X : Cx) (x : Str) (kv : List (Str × D)) : Prop where
  ex : ∃ (d : Addr) (es : Array DictEntry) (n : Nat), X.mg x = some (.ref d) ∧ KDict X.K X.w d es n ∧ ∀ k, (∃ u v, PySem.W.nsIn X.K d k = some (some u) ∧ L2.RelV v u ∧ ∃ e, kv.lookup k = some e ∧ ∀ b G, Rp X.K b G v e) ∨ (PySem.W.nsIn X.K d k = some none ∧ kv.lookup k = none)
theorem de_gget {x : Str} {a f : Expr} {ia ie : IE} {p0 apos pos : Pos} (hd : ∀ kv, T.gd x = some kv → GdD X x kv) (hg : Gl X x) (hdb : (x == ("__debug__" : Str)) = false) (ha : PE X a (lift (cn X) W (wE T ia))) (hf : PE X f (lift (cn X) W (wE T ie))) (m : M2 X (.Name x p0) "get" apos a f pos) :
    PE X (.Call (.Attribute (.Name x p0) "get" apos) [a, f] [] pos) (lift (cn X) W (wE T (.gget x ia ie))) := by
  cases q : T.gd x with
  | none => exact ⟨fun pins s a H Q I ⟨b, G0, H0, G, n, r, Qd, Ex, h, t, x, k⟩ => by
      rw [wE, q] at t
      exact t.elim⟩
  | some kv =>
    obtain ⟨d, es, n, h1, h2, h3⟩ := (hd kv q).ex
    refine pe_imp (pe_kget h2 (pe_glob hg h1 rfl hdb) ha hf m) fun s H Q ⟨b, G0, H0, G, n, r, Qd, Ex, h, t, x, k⟩ => ?_
    rw [wE, q, ofO_some] at t
    refine lift_bind h x t fun v G1 H1 n1 d h1 x1 s1 r1 q1 => lift_bind h1 x1 q1 fun w G2 H2 n2 e h2 x2 s2 r2 q2 => ?_
    cases d with
    | str z =>
      obtain ⟨e1, e2, e3⟩ := rp_str_inv r1
      rcases h3 z with ⟨u, v', g1, g2, e', g3, g4⟩ | ⟨g1, g3⟩
      · have q2 : Qd ((kv.lookup z).getD e) n2 := q2
        rw [g3] at q2
        exact ⟨z, some u, v', e1, g1, fun u' eu => by cases eu; exact g2, (fun z => nomatch z), k _ G2 H2 n2 _ (s1.trans s2) (g4 b G2) q2⟩
      · have q2 : Qd ((kv.lookup z).getD e) n2 := q2
        rw [g3] at q2
        exact ⟨z, none, w, e1, g1, (fun u' eu => nomatch eu), fun _ => rfl, k _ G2 H2 n2 _ (s1.trans s2) r2 q2⟩
    | _ => exact q2.elim
/-! ### a list of one's own, read -/
theorem ow_list {K : PySem.W.Frag} {b : Option Addr} {G0 H0 G H : Hp} {n : Nat} {s : L2.St} {r : List Ent} (h : Rho K b G0 H0 G H n s r) {i : Nat} {ys : List D} (e : owL r i = some ys) :
    ∃ p xs, s[i]? = some (some (.ref p)) ∧ H p = some (.lst xs) ∧ xs.length ≤ sizeLine ∧ Rps K b G xs ys := by
  unfold owL at e
  split at e
  · rename_i e0
    cases e
    obtain ⟨v, e1, e2⟩ := h.ent i _ e0
    obtain ⟨p, xs, rfl, hl, z, g⟩ := rp_list_inv e2
    exact ⟨p, xs, e1, h.ok.sub _ _ hl, z, g⟩
  · rename_i e0
    cases e
    obtain ⟨p, e1, _, _, _, e5⟩ := h.ent i _ e0
    rcases e5 with ⟨xs, ds, ed, hl, z, g⟩ | ⟨xs, ds, ed, _⟩ | ⟨_, _, _, _, _, ed, _⟩
    · cases ed
      exact ⟨p, xs, e1, hl, z, g⟩
    · cases ed
    · cases ed
  · cases e
def rInO (K : PySem.W.Frag) (neg : Bool) : R2 := fun x y H Q => ∃ b G dx ds xs p, Same G H ∧ Rp K b G x dx ∧ Rps K b G xs ds ∧ inOk dx ds = true ∧ y = .ref p ∧ H p = some (.lst xs) ∧ Q (.bl (if neg then !ds.any fun z => z.eqb dx else ds.any fun z => z.eqb dx)) H
theorem op_inO (hu : X.A.units + 65 < cLine) (neg : Bool) : OpR X (compareOp (if neg then .NotIn else .In)) (rInO X.K neg) := by
  intro pins s a H x y v u Q I rx ry ⟨b, G, dx, ds, xs, p, sm, hx, g, c, ey, hp, q⟩
  subst ey
  cases ry
  exact in_core hu I rx sm hx g c neg (.inl (SqL.of hp)) q
theorem inO_read {neg : Bool} {ia : IE} {i : Nat} {s : L2.St} {H : Hp} {Q : VK} (hq : lift (cn X) W (wE T (.inO neg ia i)) s H Q) : tOp (rInO X.K neg) (lift (cn X) W (wE T ia)) (tVar i) s H Q := by
  obtain ⟨b, G0, H0, G, n, r, Qd, Ex, h, t, x, k⟩ := hq
  rw [wE] at t
  refine lift_bind h x t fun v G1 H1 n1 d h1 x1 s1 r1 q1 => ?_
  obtain ⟨ys, e, q⟩ := ofO_iff q1
  obtain ⟨p, xs, e1, hp, z, g⟩ := ow_list h1 e
  exact ⟨.ref p, e1, b, G1, d, ys, xs, p, h1.ok.sub, r1, g, q.1, rfl, hp, k _ G1 H1 n1 _ s1 (.bl _) q.2⟩
theorem de_in {a : Expr} {ia : IE} {i : Nat} {x : Str} {p pos : Pos} (hu : X.A.units + 65 < cLine) (ha : PE X a (lift (cn X) W (wE T ia))) (hN : X.N[i]? = some x) (hv : Vis X.env.scope x) (hd : (x == ("__debug__" : Str)) = false) (hcd : (x == ("__classdict__" : Str)) = false) :
    PE X (.Compare a [.In] [.Name x p] pos) (lift (cn X) W (wE T (.inO false ia i))) := pe_imp (pe_cmpR (op_inO (X := X) hu false) ha (pe_var hN hv hd hcd) rfl) fun s H Q h => inO_read h
theorem de_notin {a : Expr} {ia : IE} {i : Nat} {x : Str} {p pos : Pos} (hu : X.A.units + 65 < cLine) (ha : PE X a (lift (cn X) W (wE T ia))) (hN : X.N[i]? = some x) (hv : Vis X.env.scope x) (hd : (x == ("__debug__" : Str)) = false) (hcd : (x == ("__classdict__" : Str)) = false) :
    PE X (.Compare a [.NotIn] [.Name x p] pos) (lift (cn X) W (wE T (.inO true ia i))) := pe_imp (pe_cmpR (op_inO (X := X) hu true) ha (pe_var hN hv hd hcd) rfl) fun s H Q h => inO_read h
theorem inO_readT {neg : Bool} {ia : IE} {i : Nat} {s : L2.St} {H : Hp} {Q : Bool → Hp → Prop} (hq : lT X W (wE T (.inO neg ia i)) s H Q) : tTest (tOp (rInO X.K neg) (lift (cn X) W (wE T ia)) (tVar i)) s H Q := by
  obtain ⟨b, G0, H0, G, n, r, Qd, Ex, h, t, x, k⟩ := hq
  rw [wE] at t
  refine lift_bind h x t fun v G1 H1 n1 d h1 x1 s1 r1 q1 => ?_
  obtain ⟨ys, e, q⟩ := ofO_iff q1
  obtain ⟨p, xs, e1, hp, z, g⟩ := ow_list h1 e
  exact ⟨.ref p, e1, b, G1, d, ys, xs, p, h1.ok.sub, r1, g, q.1, rfl, hp, _, rfl, k G1 H1 n1 _ s1 q.2⟩
theorem de_lenO {i : Nat} {x : Str} {p p2 pos : Pos} (hg : Gl X "len") (hm : X.mg "len" = none) (hN : X.N[i]? = some x) (hv : Vis X.env.scope x) (hd : (x == ("__debug__" : Str)) = false) (hcd : (x == ("__classdict__" : Str)) = false) :
    PE X (.Call (.Name "len" p) [.Name x p2] [] pos) (lift (cn X) W (wE T (.lenO i))) := pe_imp (pe_callB call_len hg hm boot_len (pa_cons (pe_var hN hv hd hcd) pa_nil) (by decide +kernel) (by decide +kernel)) fun s H Q ⟨b, G0, H0, G, n, r, Qd, Ex, h, t, x, k⟩ => by
  rw [wE] at t
  obtain ⟨ys, e, q⟩ := ofO_iff t
  obtain ⟨p, xs, e1, hp, z, g⟩ := ow_list h e
  rw [← g.length] at q
  exact ⟨.ref p, e1, .ref p, xs.length, rfl, .inl ⟨_, SqL.of hp, rfl⟩, k _ G H n _ (Stp.refl h.ok) (.int _) q⟩
theorem dt_in {a : Expr} {ia : IE} {i : Nat} {x : Str} {p pos : Pos} (hu : X.A.units + 65 < cLine) (ha : PE X a (lift (cn X) W (wE T ia))) (hN : X.N[i]? = some x) (hv : Vis X.env.scope x) (hd : (x == ("__debug__" : Str)) = false) (hcd : (x == ("__classdict__" : Str)) = false) :
    PT X (.Compare a [.In] [.Name x p] pos) (lT X W (wE T (.inO false ia i))) := pt_imp (pt_cmpR (op_inO (X := X) hu false) ha (pe_var hN hv hd hcd) rfl) fun s H Q h => inO_readT h
theorem dt_notin {a : Expr} {ia : IE} {i : Nat} {x : Str} {p pos : Pos} (hu : X.A.units + 65 < cLine) (ha : PE X a (lift (cn X) W (wE T ia))) (hN : X.N[i]? = some x) (hv : Vis X.env.scope x) (hd : (x == ("__debug__" : Str)) = false) (hcd : (x == ("__classdict__" : Str)) = false) :
    PT X (.Compare a [.NotIn] [.Name x p] pos) (lT X W (wE T (.inO true ia i))) := pt_imp (pt_cmpR (op_inO (X := X) hu true) ha (pe_var hN hv hd hcd) rfl) fun s H Q h => inO_readT h
end
end Dl

set_option Elab.async false
set_option linter.all false
set_option maxRecDepth 100000
set_option maxHeartbeats 4000000
/-! How many unlike keys a tuple has: len(set(..)). -/
namespace Dl
open PySem PySem.Spec PyProof.Rows L2
section
variable {K : Type} [DecidableEq K]
theorem more1_mem (l : List K) (x k : K) : k ∈ more1 l x ↔ k ∈ l ∨ k = x := by
  unfold more1
  split
  · rename_i h
    constructor
    · exact .inl
    · rintro (z | rfl)
      · exact z
      · exact h
  · simp
theorem more1_len (l : List K) (x : K) : (more1 l x).length = if x ∈ l then l.length else l.length + 1 := by
  unfold more1
  split <;> simp
theorem unlike_next {xs : List K} {i : Nat} {x : K} (h : xs[i]? = some x) : unlike (xs.take (i + 1)) = more1 (unlike (xs.take i)) x := by
  unfold unlike
  rw [List.take_add_one, h]
  simp [List.foldl_append]
theorem unlike_len (xs : List K) : (unlike xs).length ≤ xs.length := by
  have key : ∀ (xs l : List K), (xs.foldl more1 l).length ≤ l.length + xs.length := by
    intro xs
    induction xs with
    | nil => intro l; exact Nat.le_refl _
    | cons x xs ih =>
      intro l
      have h1 := ih (more1 l x)
      have h2 := more1_len l x
      rw [List.foldl_cons, List.length_cons]
      split at h2 <;> omega
  have := key xs []
  simpa [unlike] using this
end
section
variable {P : Program} {w : World} {A : Around} {K : Type} [DecidableEq K] {knd : KeyKind P w K} {I : Addr} {fp wr : List Addr} {G : Array GenState → Array GenState → Prop} {n : Nat} {Pv : Nat → Value → Prop} {St : Nat → Shared → Prop} {R : Result → Shared → Prop}
/-- the set at S holds just what stands in l -/
def Holds (knd : KeyKind P w K) (h : Heap) (S : Addr) (l : List K) : Prop := h.SetOf knd S (fun k => decide (k ∈ l)) l.length
theorem Holds.on {h h' : Heap} {S : Addr} {l : List K} (x : Holds knd h S l) (k : ∀ o, h.get? S = some o → h'.get? S = some o) : Holds knd h' S l := by
  obtain ⟨o, es, ep, t, ho, r⟩ := x
  exact ⟨o, es, ep, t, k o ho, r⟩
/-- one turn's key goes in -/
theorem put_in {l : List K} {S : Addr} {k : K} {v : Value} {s : Shared} {A : Around} {Q : Bool → Shared → Prop} {E : Value → Shared → Prop} (hk : knd.is k v = true) (hv : v.scannable = true) (x : Holds knd s.heap S l) (room : l.length + 1 < scanBound)
    (q : ∀ h' b, Heap.SameBut S s.heap h' → Holds knd h' S (more1 l k) → Q b { s with heap := h', toks := s.toks + 1 }) : wpAny (model P w) A (setAdd S v) Q E s := by
  unfold setAdd
  refine wpAny_holding (wpAny_bind (knd.pyHash hk (wpAny_setAddHashed_of (s := { s with toks := s.toks + 1 }) hk hv x room fun h' same y => q h' _ same ?_)))
  unfold Holds
  rw [more1_len]
  have e : (fun k' => decide (k' ∈ more1 l k)) = fun k' => decide (k' ∈ l) || decide (k' = k) := by
    funext k'
    rw [Bool.eq_iff_iff]
    simp [more1_mem]
  rw [e]
  have e2 : (if k ∈ l then l.length else l.length + 1) = if decide (k ∈ l) = true then l.length else l.length + 1 := by simp
  rw [e2]
  exact y
theorem fill_loop (W : WalksS P w A.in1 I fp wr G n Pv St) (S : Addr) (hS : S ∉ fp) (ks : List K) (hn : ks.length = n) (room : n + 1 < scanBound) (hv : ∀ i v, Pv i v → ∃ k, ks[i]? = some k ∧ knd.is k v = true ∧ v.scannable = true) (i : Nat) (s : Shared) (hi : i ≤ n) (st : St i s) (x : Holds knd s.heap S (unlike (ks.take i)))
    (q : ∀ s', Moved (S :: wr) G s s' → Holds knd s'.heap S (unlike ks) → R (.ok (.ret .none)) s') : codeAny (model P w) A (.builtin "set.update.loop" ⟨[.ref S, .ref I], []⟩) R s := by
  have nw : S ∉ wr := fun h => hS (W.sub _ h)
  have up : ∀ b ∈ wr, b ∈ S :: wr := fun b h => List.mem_cons_of_mem _ h
  have main : ∀ (m i : Nat) (s : Shared), i + m = n → St i s → Holds knd s.heap S (unlike (ks.take i)) → (∀ s', Moved (S :: wr) G s s' → Holds knd s'.heap S (unlike ks) → R (.ok (.ret .none)) s') → codeAny (model P w) A (.builtin "set.update.loop" ⟨[.ref S, .ref I], []⟩) R s := by
    intro m
    induction m with
    | zero =>
      intro i s e st x q
      obtain rfl : i = n := by omega
      rw [List.take_of_length_le (by omega)] at x
      refine codeAny_builtin F.entry_set_update_loop ?_
      rw [Around.under_plainId F.plain_set_update_loop _]
      refine wpAny_bind (W.done s _ _ st fun s' mv => wpAny_pure (q s' (mv.mono up) (x.on fun o e => mv.heap S o nw e)))
    | succ m ih =>
      intro i s e st x q
      refine codeAny_builtin F.entry_set_update_loop ?_
      rw [Around.under_plainId F.plain_set_update_loop _]
      refine wpAny_bind (W.item i s _ _ (by omega) st fun v s1 pv st1 mv => ?_)
      obtain ⟨k, hk, his, hsc⟩ := hv i v pv
      have x1 := x.on (h' := s1.heap) fun o e => mv.heap S o nw e
      have l1 := unlike_len (ks.take i)
      rw [List.length_take] at l1
      refine wpAny_bind (wpAny_holding (put_in his hsc x1 (by omega) fun h' b same x2 => ?_))
      rw [← unlike_next hk] at x2
      refine wpAny_pure ⟨plainId_quiet F.plain_set_update_loop _, ih (i + 1) _ (by omega) (W.frame _ s1 _ _ st1 (Nat.le_succ _) fun b hb o e => ?_) x2 fun s2 mv2 x3 => q s2 (Moved.trans W.gtrans ((mv.mono up).then_heap (Nat.le_succ _) fun b o hb e => ?_) mv2) x3⟩
      · rw [same.2 b fun z : b = S => hS (z ▸ hb)]
        exact e
      · rw [same.2 b fun z : b = S => hb (z ▸ List.mem_cons_self)]
        exact e
  exact main (n - i) i s (by omega) st x q
end

abbrev newSet (led : Bool) : Obj := { cls := .type "set", dict := none, data := .set #[] 0 (.fresh 0 0 led) }
section
variable {P : Program} {w : World} {A : Around} {K : Type} [DecidableEq K] {knd : KeyKind P w K} {E : Value → Shared → Prop} {s : Shared}
/-- set.__init__ over a tuple -/
theorem init_tup {l S : Addr} {items : Array Value} {ks : List K} {led : Bool} {R : Result → Shared → Prop} (hh : A.handled = none) (hl : s.heap.IsTuple l items) (hks : ks.length = items.size) (room : items.size + 1 < scanBound)
    (hv : ∀ (i : Nat) v, items[i]? = some v → ∃ k, ks[i]? = some k ∧ knd.is k v = true ∧ v.scannable = true) (hS : s.heap.get? S = some (newSet led)) (hne : l ≠ S)
    (q : ∀ (h' : Heap) (tk : Nat), Holds knd h' S (unlike ks) → (∀ b o, b ≠ S → s.heap.get? b = some o → h'.get? b = some o) → R (.ok (.ret .none)) { s with heap := h', toks := tk }) :
    codeAny (model P w) A (.call (.builtin "set.__init__") ⟨[.ref S, .ref l], []⟩) R s := by
  have hl0 := hl
  obtain ⟨⟨cls, od, dt, osl⟩, hol, hc, nl, hd⟩ := hl
  simp only at hc hd
  subst hc hd
  refine codeAny_call_builtin PySem.F.called_set.init.plain PySem.F.entry_set_init (check_set_init_1 ⟨_, hS, rfl⟩ ?_)
  have k1 := PySem.F.sub_tuple_set
  have k2 := PySem.F.sub_tuple_frozenset
  have k3 : (Value.type "tuple" == Value.type "dict") = false := by decide
  unfold Builtin.«set.__init__» noKeywords Builtin.Frozenset.updateFrom
  generalize hPI : pyIter = PI
  wp_walk
  subst hPI
  refine wpAny_pyIter_tuple hl0 ?_
  have nS : S ≠ s.heap.objs.size := Nat.ne_of_lt (Heap.lt_size hS)
  have nl' : l ≠ s.heap.objs.size := Nat.ne_of_lt (Heap.lt_size hol)
  have hh2 : A.in1.in1.handled = none := by simp [hh]
  refine wpAny_bind (wpAny_runValue ?_)
  refine fill_loop (knd := knd) (Walks.tuple hh2 _ l nl' items).toS S (by simp [nS, Ne.symm hne]) ks hks room hv 0 _ (Nat.zero_le _) ?_ ?_ ?_
  · exact ⟨⟨_, Heap.get?_push_size _ rfl, rfl, rfl⟩, hl0.push _⟩
  · exact PyProof.Rows.SetOf_congr ((PyProof.Rows.setObjOf_fresh (knd := knd) led).setOf (Heap.get?_push_of_some _ hS) (by unfold scanBound; omega)) (fun _ => by simp [unlike]) rfl
  · intro s' mv x
    obtain ⟨h', g', d', tk', os'⟩ := s'
    obtain rfl : g' = s.gens := mv.gens
    obtain rfl : d' = s.drawn := mv.drawn
    obtain rfl : os' = s.os := mv.os
    refine wpAny_pure (wpAny_pure (q h' tk' x fun b o nb e => mv.heap b o ?_ (Heap.get?_push_of_some _ e)))
    have := Nat.ne_of_lt (Heap.lt_size e)
    simp [nb, this]
/-- set(t) -/
theorem set_tup {l : Addr} {items : Array Value} {ks : List K} {Q : Value → Shared → Prop} (hh : A.handled = none) (hl : s.heap.IsTuple l items) (hks : ks.length = items.size) (room : items.size + 1 < scanBound)
    (hv : ∀ (i : Nat) v, items[i]? = some v → ∃ k, ks[i]? = some k ∧ knd.is k v = true ∧ v.scannable = true)
    (q : ∀ (h' : Heap) (tk : Nat), Holds knd h' s.heap.objs.size (unlike ks) → (∀ b o, s.heap.get? b = some o → h'.get? b = some o) → Q (.ref s.heap.objs.size) { s with heap := h', toks := tk }) :
    wpAny (model P w) A (call (.type "set") [.ref l]) Q E s := by
  obtain ⟨c, tl, hmro⟩ := PySem.F.called_set.mro
  have g1 := PySem.F.called_set.made
  have g2 := PySem.F.called_set.sub
  have g3 := PySem.F.called_set.notType
  have g4 := PySem.F.called_set.canCreate
  have g5 := PySem.F.typeCall_set_1 (.ref l)
  have g6 := PySem.F.called_set.init.lookup
  have g7 := PySem.F.called_set.init.bind (.ref s.heap.objs.size)
  refine wpAny_call (codeAny_of_tree (wpAny_pure ⟨Code.quiet_builtin _ (by decide +kernel), codeAny_builtin PySem.F.entry_type_call ?_⟩))
  rw [Around.under_plain (weight_type_call_type "set" [.ref l] []) rfl]
  repeat (any_goals (first | assumption | wp_step))
  refine codeAny_mono (code_set_new_1 (.ref l) (E := E) (Q₁ := fun obj s1 => ∃ led, obj = .ref s.heap.objs.size ∧ s1 = { s with heap := s.heap.push (newSet led) }) fun led => ⟨led, rfl, rfl⟩) fun r s1 hr => ?_
  match r, hr with
  | .error e, hr => exact hr
  | .ok (.ret obj), hr =>
    obtain ⟨led, rfl, rfl⟩ := hr
    have hS : (s.heap.push (newSet led)).get? s.heap.objs.size = some (newSet led) := Heap.get?_push_size _ rfl
    have hT : Shared.TypeIs { s with heap := s.heap.push (newSet led) } (.ref s.heap.objs.size) "set" := ⟨_, hS, rfl⟩
    repeat (any_goals (first | assumption | wp_step))
    obtain ⟨o, ho, _⟩ := id hl
    refine codeAny_mono (init_tup (knd := knd) (ks := ks) (R := wants (fun r s2 => r = .none ∧ ∃ h' tk, s2 = { s with heap := h', toks := tk } ∧ Holds knd h' s.heap.objs.size (unlike ks) ∧ ∀ b o, s.heap.get? b = some o → h'.get? b = some o) E) (by simp [hh]) (hl.push _) hks room hv hS (Nat.ne_of_lt (Heap.lt_size ho)) fun h' tk x k => ⟨rfl, h', tk, rfl, x, fun b o e => k b o (Nat.ne_of_lt (Heap.lt_size e)) (Heap.get?_push_of_some _ e)⟩) fun r s2 hr => ?_
    match r, hr with
    | .error e, hr => exact hr
    | .ok (.ret u), hr =>
      obtain ⟨rfl, h', tk, rfl, x, k⟩ := hr
      repeat (any_goals (first | assumption | wp_step))
      exact q h' tk x k
end
end Dl

set_option Elab.async false
set_option linter.all false
set_option maxRecDepth 100000
set_option maxHeartbeats 4000000
/-! C.m(..), m a static method of the class C. -/
namespace L2
open PySem PySem.Spec PyProof.Rows PySem.W
structure Stat (K : Frag) (C : Addr) (m : Str) (f : Addr) : Prop where
  ga : specialIn K (.ref C) "__getattribute__" = some (some (.builtin "type.__getattribute__"))
  rd : readsIn K C (.type "type") = true
  fc : ∃ (p : Addr) (rest : List Value), findCls K (.ref C) (.type "type") m = some (.get (.builtin "staticmethod.__get__") (.ref p) .none (.ref C)) ∧ recIn K p "staticmethod" = some (.ref f :: rest)
  hv : handedIn (.ref f) = true
  kp : keepIn K (.ref f) = true
section
variable {X : Cx} {CX : CXT} {k : Nat} {C f : Addr} {fd : FuncData} {ps : List Str} {sp : Sp} {E : XK} {x m : Str} {e : Expr} {es : List Expr} {kws : List Keyword} {t tk : TA} {ds : List Value} {dvs : List V} {p1 p2 pos : Pos}
theorem get_stat {pl : Sem Bool} {A : Around} {Ex : Value → Shared → Prop} {s : Shared} {Q : Value × List Value → Shared → Prop} (S : Stat X.K C m f) (kin : X.K.In s.heap) (h : Q (.ref f, []) { s with toks := s.toks + 1 }) :
    wpAny (model X.prog X.w) A (getMethod (.ref C) m pl) Q Ex s := by
  obtain ⟨p, rest, h1, h2⟩ := S.fc
  exact method_cls kin S.ga (cls_bind kin S.rd h1 (wpAny_call (sm_get (s := { s with toks := s.toks + 1 }) kin h2 (handed_on S.hv h))))
theorem pe_stat {pl : Sem Bool} (S : Stat X.K C m f) (F : FnOk X.prog X.w X.K X.mg X.base CX k f fd ps sp) (hr : Room k X.A) (hg : Gl X x) (hm : X.mg x = some (.ref C)) (hb : Binds X.K fd ps ds) (hd : Vals dvs ds) (hx : Passes CX X E) (ha : PA X (e :: es) t)
    (hc : eval (.Call (.Attribute (.Name x p1) m p2) (e :: es) [] pos) X.env = (do
      let ov ← eval (.Name x p1) X.env
      standAt p2.atName
      let (f, first) ← holding [ov] (getMethod ov m pl)
      callWith pos f first (backTo pos (starEach (e :: es) X.env)) (backToKw pos (keywordEach [] X.env))) := by rfl)
    (hdb : (x == ("__debug__" : Str)) = false := by decide) (he : starEach (e :: es) X.env = (false, eval e X.env) :: starEach es X.env := by rfl) (hpl : (backTo pos (starEach es X.env)).any (·.1) = false := by rfl) :
    PE X (.Call (.Attribute (.Name x p1) m p2) (e :: es) [] pos) (tCall sp dvs E t) := by
  refine ⟨fun pins s σ H Q I h => ?_⟩
  refine methodCall_KW (ld_glob I hg hm ?_ hdb) hc
  refine get_stat S I.kIn ?_
  show wpAny _ _ (callWith pos (Value.ref f) [] (backTo pos (starEach (e :: es) X.env)) []) _ _ _
  refine callWith_K (h₀ := X.base) I.ok.mod.kin S.kp (thn (ha.run pos pins _ σ H _ (I.tok _) h) fun us s1 ⟨vs, H1, I1, r, q⟩ => ⟨I1.kIn, ?_⟩) he hpl
  exact run_fn F hr hb hd hx I1 r q
theorem pe_statK {pl : Sem Bool} {ks : List Str} {g : List Value → List Value → List Value} {gV : List V → List V → List V} (S : Stat X.K C m f) (F : FnOk X.prog X.w X.K X.mg X.base CX k f fd ps sp) (hr : Room k X.A) (hg : Gl X x) (hm : X.mg x = some (.ref C)) (hb : KBn X.K fd ps 0 ks g gV) (hx : Passes CX X E) (hkw : PK X kws tk)
    (hc : eval (.Call (.Attribute (.Name x p1) m p2) [] kws pos) X.env = (do
      let ov ← eval (.Name x p1) X.env
      standAt p2.atName
      let (f, first) ← holding [ov] (getMethod ov m pl)
      callWith pos f first (backTo pos (starEach [] X.env)) (backToKw pos (keywordEach kws X.env))) := by rfl)
    (hall : (backToKw pos (keywordEach kws X.env)).all (·.1.isSome) = true := by rfl) (hks : (backToKw pos (keywordEach kws X.env)).filterMap (·.1) = ks := by rfl) (hdb : (x == ("__debug__" : Str)) = false := by decide)
    (hpl : ((backTo pos (starEach [] X.env)).any (·.1) || (backToKw pos (keywordEach kws X.env)).any (·.1.isNone)) = false := by rfl) :
    PE X (.Call (.Attribute (.Name x p1) m p2) [] kws pos) (tCallN 0 ks.length sp gV E tNil tk) := by
  refine ⟨fun pins s σ H Q I h => ?_⟩
  refine methodCall_KW (ld_glob I hg hm ?_ hdb) hc
  refine get_stat S I.kIn ?_
  refine callWith_KW0 (h₀ := X.base) I.ok.mod.kin S.kp hall (thn (hkw.run pos pins _ σ H _ (I.tok _) h) fun ws s2 ⟨zs, H2, I2, rz, l1, l2, q2⟩ => ⟨I2.kIn, ?_⟩) hpl
  rw [hks]
  exact run_fnN (us := []) (vs := []) F hr hb hx I2 .nil rz l1 l2 q2
end
end L2

set_option Elab.async false
set_option linter.all false
set_option maxRecDepth 100000
set_option maxHeartbeats 4000000
/-! x[::-1] of a tuple; {}, {k: v}; len(set(t)); C.m(..). -/
namespace Dl
open PySem PySem.Spec PyProof.Rows L2
section
variable {prog : Program} {w : World} {A : Around} {E : Value → Shared → Prop} {s : Shared}
theorem back_places (n : Nat) : Builtin.Slice.slicePlaces ((n : Int) - 1) (-1) (-1) = n := by
  unfold Builtin.Slice.slicePlaces
  rw [if_neg (by decide)]
  split
  · rw [show (- -1 : Int) = 1 from rfl, Int.ediv_one]
    omega
  · omega
theorem back_pick (xs : Array Value) : ((List.range xs.size).filterMap fun (k : Nat) => xs[(((xs.size : Nat) : Int) - 1 + (k : Int) * -1).toNat]?).toArray = xs.toList.reverse.toArray := by
  have e : (List.range xs.size).filterMap (fun (k : Nat) => xs[(((xs.size : Nat) : Int) - 1 + (k : Int) * -1).toNat]?) = ((List.range xs.size).map fun k => xs.size - 1 - k).filterMap (xs[·]?) := by
    rw [List.filterMap_map]
    have e : (fun (k : Nat) => xs[(((xs.size : Nat) : Int) - 1 + (k : Int) * -1).toNat]?) = (xs[·]?) ∘ fun k => xs.size - 1 - k := by
      funext k
      show xs[_]? = xs[xs.size - 1 - k]?
      congr 1
      omega
    rw [e]
  rw [e, PySem.W.krv_range, List.filterMap_reverse, PySem.W.krv_all]
theorem get_back {t sl : Addr} {items : Array Value} {vs : Value} {Q : Value → Shared → Prop} (ht : IsTup s.heap t items) (hs : s.heap.IsSliceOf sl .none .none vs) (ps : IsPart vs (some (-1)))
    (h : Q (.ref s.heap.objs.size) { s with heap := s.heap.push { cls := .type "tuple", data := .seq items.toList.reverse.toArray } }) (hz : items.size ≤ sizeLine) : wpAny (model prog w) A (getItem (.ref t) (.ref sl)) Q E s := by
  obtain ⟨os, hos, hcs, hds⟩ := id hs
  have hb : sizeOk (.seq items.toList.reverse.toArray) := by
    show items.toList.reverse.toArray.size ≤ sizeLine
    simpa using hz
  unfold getItem
  try with_reducible refine wpAny_holding ?_
  first | refine wpAny_bind (wpAny_pure ?_) | skip
  refine wpAny_bind (wpAny_sequenceKey ht.typeIs (by decide) (wpAny_bind (wpAny_callSpecial?_slot (name := Str.ofString "__getitem__") ht.typeIs PyProof.Rows.slot_tuple_getitem
    (wpAny_call_entry PyProof.Rows.slot_tuple_getitem ht.typeIs PyProof.Rows.entry_tuple_getitem ?_ (PyProof.Rows.args_tuple_getitem _ _)))))
  refine wpAny_bind (m := Builtin.Tuple.tupleItemsOf (.ref t)) (PyProof.Rows.tupleItemsOf_ ht (wpAny_bind (wpAny_typeOf ⟨os, hos, hcs⟩ ?_)))
  rw [if_pos (by decide)]
  refine wpAny_bind ?_
  unfold Builtin.Slice.sliceApplied Builtin.Slice.sliceFields
  refine wpAny_bind (wpAny_bind (wpAny_field hos hds (x := .none) rfl (wpAny_bind (wpAny_field hos hds (x := .none) rfl (wpAny_bind (wpAny_field hos hds (x := vs) rfl (wpAny_pure ?_)))))))
  refine wpAny_bind (HT.slicePart_ ps ?_)
  show wpAny _ _ (if ((-1 : Int) == 0) = true then _ else _) _ _ s
  rw [if_neg (by decide)]
  refine wpAny_bind (HT.slicePart_ .none (wpAny_bind (HT.slicePart_ .none (wpAny_bind (wpAny_pure (wpAny_pure ?_))))))
  show wpAny _ _ (if ((((items.size : Nat) : Int) - 1 == 0 && (-1 : Int) == 1 && Builtin.Slice.slicePlaces (((items.size : Nat) : Int) - 1) (-1) (-1) == items.size) = true) then _ else _) _ _ s
  rw [if_neg (by simp)]
  have bp := back_places items.size
  show wpAny _ _ (Builtin.Tuple.tupleExact ((List.range (Builtin.Slice.slicePlaces (((items.size : Nat) : Int) - 1) (-1) (-1))).filterMap fun (k : Nat) => items[(((items.size : Nat) : Int) - 1 + (k : Int) * -1).toNat]?).toArray >>= _) _ _ s
  rw [bp]
  show wpAny _ _ (Builtin.Tuple.tupleExact ((List.range items.size).filterMap fun (k : Nat) => items[(((items.size : Nat) : Int) - 1 + (k : Int) * -1).toNat]?).toArray >>= _) _ _ s
  rw [back_pick]
  first
    | exact wpAny_bind (m := Builtin.Tuple.tupleExact _) (wpAny_newObj_type (wpAny_pure ⟨_, rfl, wpAny_pure h⟩) hb)
    | exact wpAny_bind (m := Builtin.Tuple.tupleExact _) (wpAny_newObj_type (wpAny_bind (wpAny_pure (wpAny_pure ⟨_, rfl, wpAny_pure h⟩))) hb)
end
section
variable {X : Cx}
def tBack (K : PySem.W.Frag) (te : TE) : TE := fun a H Q => te a H fun x H1 => ∃ q xs, x = .ref q ∧ ((SqL K H1 q xs ∧ ∀ p, H1 p = none → Q (.ref p) (upd H1 p (.lst xs.reverse))) ∨ (SqT K H1 q xs ∧ ∀ p, H1 p = none → Q (.ref p) (upd H1 p (.tup xs.reverse))))
theorem pe_back {e : Expr} {te : TE} {k : Nat} {p1 p2 p3 pos : Pos} (he : PE X e te) : PE X (.Subscript e (.Slice none none (some (.UnaryOp .USub (.Constant (.int 1) k p1) p2)) p3) pos) (tBack X.K te) := by
  have hst : PO X (some (.UnaryOp .USub (.Constant (.int 1) k p1) p2)) (tPart (tUn (rU fun i => .int (-i)) (tC (.int 1)))) := po_some (pe_un un_neg pe_int)
  refine ⟨fun pins s a H Q I h => Subscript_ (thn (he.run pins s a H _ I h) fun v s1 ⟨x, H1, I1, r1, q, xs, ex, h1⟩ => ?_)⟩
  subst ex
  cases r1
  refine wpAny_Slice (thn (po_none.run pins s1 a H1 (fun o H2 => o = none ∧ H2 = H1) I1 ⟨rfl, rfl⟩) fun vl s2 ⟨l, H2, I2, pl, el, e2⟩ => ?_)
  cases el
  cases e2
  refine thn (po_none.run pins s2 a H1 (fun o H2 => o = none ∧ H2 = H1) I2 ⟨rfl, rfl⟩) fun vu s3 ⟨u, H3, I3, pu, eu, e3⟩ => ?_
  cases eu
  cases e3
  refine thn (hst.run pins s3 a H1 (fun o H2 => o = some (-1) ∧ H2 = H1) I3 ⟨1, rfl, -1, rfl, rfl, rfl⟩) fun vs s4 ⟨o, H4, I4, ps, eo, e4⟩ => ?_
  cases eo
  cases e4
  cases pl
  cases pu
  have I5 : Inv X pins a H1 { s4 with heap := s4.heap.push { cls := .type "slice", data := .fields #[.none, .none, vs] } } := I4.kept (t' := s4.toks) fun b ob q => Heap.get?_push_of_some _ q
  show wpAny (model X.prog X.w) X.A (subscriptTail e (.Slice none none (some (.UnaryOp .USub (.Constant (.int 1) k p1) p2)) p3) (.ref q) (.ref s4.heap.objs.size)) (EP X pins a Q) X.xe { s4 with heap := s4.heap.push { cls := .type "slice", data := .fields #[.none, .none, vs] } }
  rcases h1 with ⟨hx, qq⟩ | ⟨hx, qq⟩
  · obtain ⟨its, r, ht, hz⟩ := I5.list hx
    have hl := r.length
    refine tail_any (ops := [.ref q, .ref s4.heap.objs.size]) ht.isList.typeIs (PySem.slot_list_getitem.lookup) (wpAny_getItem_list_slice ht.isList (Heap.IsSliceOf.new _ .none .none vs) .none .none ps (by decide) ?_ (by rw [List.size_toArray]; omega)) (by with_unfolding_all rfl)
    rw [PySem.W.krv_pick]
    exact ⟨.ref _, _, I5.laid (t' := s4.toks) (o := .lst xs.reverse) (fun b ob q => Heap.get?_push_of_some _ q) (Nat.le_refl _) ⟨by rw [List.length_reverse]; exact hz, _, 0, r.reverse, Heap.get?_push_size _ rfl⟩, rfl, qq _ (I5.hok.fresh (Nat.le_refl _))⟩
  · obtain ⟨its, r, ht, hz⟩ := I5.tuple hx
    have hl := r.length
    refine tail_any (ops := [.ref q, .ref s4.heap.objs.size]) ht.typeIs (PyProof.Rows.slot_tuple_getitem.lookup) (get_back ht (Heap.IsSliceOf.new _ .none .none vs) ps ?_ (by rw [List.size_toArray]; omega)) (by with_unfolding_all rfl)
    exact ⟨.ref _, _, I5.laid (t' := s4.toks) (o := .tup xs.reverse) (fun b ob q => Heap.get?_push_of_some _ q) (Nat.le_refl _) ⟨by rw [List.length_reverse]; exact hz, _, r.reverse, ⟨_, Heap.get?_push_size _ rfl, rfl, 0, rfl⟩⟩, rfl, qq _ (I5.hok.fresh (Nat.le_refl _))⟩
end
end Dl

set_option Elab.async false
set_option linter.all false
set_option maxRecDepth 100000
set_option maxHeartbeats 4000000
/-! x[::-1], dict displays, len(set(t)), C.m(..), over data. -/
namespace Dl
open PySem PySem.Spec PyProof.Rows L2
section
variable {X : Cx} {W : WD} {T : Tab}
theorem Rps.reverse {K : PySem.W.Frag} {b : Option Addr} {G : Hp} : ∀ {xs : List V} {ds : List D}, Rps K b G xs ds → Rps K b G xs.reverse ds.reverse
  | _, _, .nil => .nil
  | _, _, .cons h g => by
    rw [List.reverse_cons, List.reverse_cons]
    exact (Rps.reverse g).append (.cons h .nil)
theorem de_rev {a : Expr} {ia : IE} {k : Nat} {p1 p2 p3 pos : Pos} (ha : PE X a (lift (cn X) W (wE T ia))) : PE X (.Subscript a (.Slice none none (some (.UnaryOp .USub (.Constant (.int 1) k p1) p2)) p3) pos) (lift (cn X) W (wE T (.rev ia))) :=
  pe_imp (pe_back ha) fun s H Q ⟨b, G0, H0, G, n, r, Qd, Ex, h, t, x, k⟩ => by
    rw [wE] at t
    refine lift_bind h x t fun v G1 H1 n1 d h1 x1 s1 r1 q1 => ?_
    cases d with
    | list ds =>
      obtain ⟨a, xs, rfl, hl, zz, g⟩ := rp_list_inv r1
      refine ⟨a, xs, rfl, .inl ⟨SqL.of (h1.ok.sub _ _ hl), fun p np => ?_⟩⟩
      obtain ⟨s2, r2⟩ := rp_new_list h1.ok np g.reverse (by rw [List.length_reverse]; exact zz)
      exact k _ _ _ n1 _ (s1.trans s2) r2 q1
    | tup ds =>
      obtain ⟨a, xs, rfl, hl, zz, g⟩ := rp_tup_inv r1
      refine ⟨a, xs, rfl, .inr ⟨sqt_same h1.ok.sub hl, fun p np => ?_⟩⟩
      obtain ⟨s2, r2⟩ := rp_new_tup h1.ok np g.reverse (by rw [List.length_reverse]; exact zz)
      exact k _ _ _ n1 _ (s1.trans s2) r2 q1
    | _ => exact q1.elim
/-! ### len(set(t)) -/
def tLenT (K : PySem.W.Frag) (ta : TE) : TE := fun s H Q => ta s H fun x H1 => ∃ l, ∃ xs : List Str, x = .ref l ∧ SqT K H1 l (xs.map V.str) ∧ xs.length ≤ 1000 ∧ Q (.int (unlike xs).length) H1
theorem pe_lenT {a : Expr} {ta : TE} {p p2 q pos : Pos} (hc : X.calm = true) (hg : Gl X "len") (hm : X.mg "len" = none) (hg2 : Gl X "set") (hm2 : X.mg "set" = none) (ha : PE X a ta)
    (na : starEach [a] X.env = (false, eval a X.env) :: starEach [] X.env) : PE X (.Call (.Name "len" p) [.Call (.Name "set" p2) [a] [] q] [] pos) (tLenT X.K ta) := by
  refine ⟨fun pins s u H Q I h => Call_ (ld_blt I hg hm boot_len (PyProof.Rows.callWith_builtin1 (PyProof.Rows.args_cons (Call_ (ld_blt I hg2 hm2 boot_set ?_)) rfl) rfl rfl))⟩
  refine PyProof.Rows.callWith_type1 (PyProof.Rows.args_cons (thn (ha.run pins s u H _ I h) fun v s1 ⟨x, H1, I1, r1, l, xs, ex, hq, hz, q1⟩ => PyProof.Rows.args_nil ?_) na) na rfl
  subst ex
  cases r1
  obtain ⟨its, r, pl, _⟩ := I1.tuple hq
  have hl := r.length
  rw [List.length_map] at hl
  refine set_tup (knd := PySem.strKind X.prog X.w) (ks := xs) (I1.ok.hd hc) pl (by rw [List.size_toArray]; exact hl) (by rw [List.size_toArray, ← hl]; unfold scanBound; omega) (fun i v hv => ?_) fun h' tk y kp => PyProof.Rows.args_nil ?_
  · have hi : i < its.length := by
      have := (Array.getElem?_eq_some_iff.mp hv).1
      simpa using this
    have hx : xs[i]? = some (xs[i]'(by omega)) := List.getElem?_eq_getElem _
    obtain ⟨v', hv', rv⟩ := r.get (i := i) (x := .str (xs[i]'(by omega))) (by rw [List.getElem?_map, hx]; rfl)
    have hvv : its[i]? = some v := by simpa using hv
    rw [hvv] at hv'
    cases hv'
    obtain ⟨t, rfl⟩ := rv
    exact ⟨_, hx, strKind_is _ _ _ _, rfl⟩
  · have I2 : Inv X pins u H1 { s1 with heap := h', toks := tk } := I1.kept fun b o e => kp b o e
    obtain ⟨o, es, ep, t, ho, hex, hd, _, _, hb, hf, hn⟩ := y
    exact call_len_set ho hex hd hf (by unfold scanBound at hb; omega) ⟨.int (unlike xs).length, H1, I2.tok _, ⟨_, by rw [hn]⟩, q1⟩
theorem de_lenset {a : Expr} {ia : IE} {p p2 q pos : Pos} (hc : X.calm = true) (hg : Gl X "len") (hm : X.mg "len" = none) (hg2 : Gl X "set") (hm2 : X.mg "set" = none) (ha : PE X a (lift (cn X) W (wE T ia)))
    (na : starEach [a] X.env = (false, eval a X.env) :: starEach [] X.env) : PE X (.Call (.Name "len" p) [.Call (.Name "set" p2) [a] [] q] [] pos) (lift (cn X) W (wE T (.lenset ia))) :=
  pe_imp (pe_lenT hc hg hm hg2 hm2 ha na) fun s H Q ⟨b, G0, H0, G, n, r, Qd, Ex, h, t, x, k⟩ => by
    rw [wE] at t
    refine lift_bind h x t fun v G1 H1 n1 d h1 x1 s1 r1 q1 => ?_
    cases d with
    | tup ds =>
      obtain ⟨a, xs, rfl, hl, zz, g⟩ := rp_tup_inv r1
      obtain ⟨ys, ey, l1, q3⟩ := ofO_iff q1
      obtain ⟨rfl, _⟩ := strs_rps g ey
      exact ⟨a, ys, rfl, sqt_same h1.ok.sub hl, l1, k _ G1 H1 n1 _ s1 (.int _) q3⟩
    | _ => exact q1.elim
/-! ### f() -/
theorem de_call0 {k : Nat} {f : Str} {p pos : Pos} (tk : Takes X W) (hf : ∀ fs, T.fs f = some fs → FnD X k f fs) (hr : Room k X.A) (hg : Gl X f) (hdb : (f == ("__debug__" : Str)) = false) : PE X (.Call (.Name f p) [] [] pos) (lift (cn X) W (wE T (.call f .nil))) := by
  refine ⟨fun pins s a H Q I ⟨b, G0, H0, G, n, r, Qd, Ex, h, t, x, k⟩ => ?_⟩
  rw [wE] at t
  obtain ⟨fs, q, t⟩ := ofO_iff t
  rw [wA] at t
  obtain ⟨fa, fd, ps, h1, h2, h3, h4⟩ := (hf fs q).ex
  refine wpAny_Call_Name_kw (ld_glob I hg h1 (PySem.W.callWith_K0 I.kIn h2 (run_fnS (E := WE W) h4 hr h3 (passAt tk a) I .nil ?_)) hdb)
  exact ⟨b, G, n, [], Qd, Ex, h.ok, .nil, t, fun cls d G' H' n' xx st rx ex => x cls d G' H' n' xx st rx ex, fun v G' H' n' d st rr qq => k v G' H' n' d st rr qq⟩
/-! ### keywords -/
theorem pk_imp {kws : List Keyword} {t t' : TA} (h : PK X kws t) (i : ∀ s H Q, t' s H Q → t s H Q) : PK X kws t' := ⟨fun pos pins s a H Q I q => h.run pos pins s a H Q I (i _ _ _ q)⟩
theorem dk_nil : PK X [] (liftA (cn X) W (wA T .nil)) := pk_imp pk_nil fun s H Q ⟨b, G0, H0, G, n, r, Qd, Ex, h, t, x, k⟩ => by
  rw [wA] at t
  exact k [] G H n [] (Stp.refl h.ok) .nil t
theorem dk_cons {e : Expr} {kws : List Keyword} {nm : Option Str} {kpos : Pos} {ie : IE} {ir : IAs} (he : PE X e (lift (cn X) W (wE T ie))) (hr : PK X kws (liftA (cn X) W (wA T ir))) : PK X (⟨nm, e, kpos⟩ :: kws) (liftA (cn X) W (wA T (.cons ie ir))) :=
  pk_imp (pk_cons he hr) fun s H Q ⟨b, G0, H0, G, n, r, Qd, Ex, h, t, x, k⟩ => by
    rw [wA] at t
    refine lift_bind h x t fun v G1 H1 n1 d h1 x1 s1 r1 q1 => liftA_bind h1 x1 q1 fun w G2 H2 n2 e h2 x2 s2 r2 q2 => ?_
    exact k _ G2 H2 n2 _ (s1.trans s2) (.cons (r1.mono s2.gg) r2) q2
/-! ### C.m(..) -/
/-- what is known of a static method -/
structure SmD (X : Cx) (k : Nat) (C m : Str) (ps : List Str) (fs : FS) : Prop where
  ex : ∃ (Ca f : Addr) (fd : FuncData), X.mg C = some (.ref Ca) ∧ Stat X.K Ca m f ∧ Binds X.K fd ps [] ∧ KBn X.K fd ps 0 ps (fun _ ws => ws) (fun _ zs => zs) ∧ FnOk X.prog X.w X.K X.mg X.base (L2.CX X.prog X.w) k f fd ps (spOf (cn X) fs)
theorem passes_no : Passes (L2.CX X.prog X.w) X (fun _ _ _ => False) := fun _ _ _ _ _ _ _ ⟨_, _, _, _, _, _, _, _, _, _, _, _, z⟩ => z.elim
theorem sm_end {c : Cn} {b : Option Addr} {G H G1 H1 : Hp} {n1 : Nat} {vs : List V} {ds : List D} {fs : FS} {Q : VK} {Qd : D → Nat → Prop} (o : Ok b G1 H1 n1) (s1 : Stp b G H G1 H1 n1) (r : Rps c.K b G1 vs ds) (f : fs ds n1 Qd noX) (k : ∀ v G' H' n' d, Stp b G H G' H' n' → Rp c.K b G' v d → Qd d n' → Q v H') : spOf c fs vs H1 Q (fun _ _ _ => False) :=
  ⟨b, G1, n1, ds, Qd, noX, o, r, f, fun _ _ _ _ _ _ _ _ z => z, fun v G' H' n' d st rr qq => k v G' H' n' d (s1.trans st) rr qq⟩
theorem meth_eq {C m : Str} {p1 p2 pos : Pos} {args : List Expr} {kws : List Keyword} {env : Env} (hf : methodCallForm (args.length + kws.length) (backTo pos (starEach args env)) (backToKw pos (keywordEach kws env)) = true) (hl : (p2.endLine == pos.line) = true) :
    eval (.Call (.Attribute (.Name C p1) m p2) args kws pos) env = (do
      let ov ← eval (.Name C p1) env
      standAt p2.atName
      let (f, first) ← holding [ov] (getMethod ov m (do return (← importBound (.Name C p1) env).getD true))
      callWith pos f first (backTo pos (starEach args env)) (backToKw pos (keywordEach kws env))) := by
  rw [eval.eq_def]
  dsimp only
  show (do
    let ov ← eval (.Name C p1) env
    standAt p2.atName
    methodCall (.Name C p1) m p2 pos env ov (args.length + kws.length) (backTo pos (starEach args env)) (backToKw pos (keywordEach kws env))) = _
  unfold methodCall calleeOf methodCallPos
  rw [hf, hl]
  rfl
theorem de_stat {lv : Nat} {C m : Str} {e : Expr} {es : List Expr} {ia : IAs} {p1 p2 pos : Pos} (hf : ∀ ps fs, T.sm C m = some (ps, fs) → SmD X lv C m ps fs) (hr : Room lv X.A) (hg : Gl X C) (hdb : (C == ("__debug__" : Str)) = false) (ha : PA X (e :: es) (liftA (cn X) W (wA T ia)))
    (he : starEach (e :: es) X.env = (false, eval e X.env) :: starEach es X.env) (hpl : (backTo pos (starEach es X.env)).any (·.1) = false) (hform : methodCallForm ((e :: es).length + 0) (backTo pos (starEach (e :: es) X.env)) [] = true) (hl : (p2.endLine == pos.line) = true) : PE X (.Call (.Attribute (.Name C p1) m p2) (e :: es) [] pos) (lift (cn X) W (wE T (.stat C m ia))) := by
  cases q : T.sm C m with
  | none => exact ⟨fun pins s a H Q I ⟨b, G0, H0, G, n, r, Qd, Ex, h, t, x, k⟩ => by
      rw [wE, q] at t
      exact t.elim⟩
  | some ps =>
    obtain ⟨ps, fs⟩ := ps
    obtain ⟨Ca, f, fd, h1, h2, h3, h4, h5⟩ := (hf ps fs q).ex
    refine pe_imp (pe_stat h2 h5 hr hg h1 h3 (dvs := []) .nil passes_no ha (meth_eq hform hl) hdb he hpl) fun s H Q ⟨b, G0, H0, G, n, r, Qd, Ex, h, t, x, k⟩ => ?_
    rw [wE, q, ofO_some] at t
    refine liftA_bind h x t fun v G1 H1 n1 d h1 x1 s1 r1 q1 => ?_
    rw [List.append_nil]
    exact sm_end h1.ok s1 r1 q1 k
theorem de_statk {lv : Nat} {C m k1 k2 : Str} {e1 e2 : Expr} {ia : IAs} {p1 p2 pos q1 q2 : Pos} (hf : ∀ ps fs, T.sm C m = some (ps, fs) → SmD X lv C m ps fs) (hr : Room lv X.A) (hg : Gl X C) (hdb : (C == ("__debug__" : Str)) = false) (ha : PK X [⟨some k1, e1, q1⟩, ⟨some k2, e2, q2⟩] (liftA (cn X) W (wA T ia))) (hl : (p2.endLine == pos.line) = true) : PE X (.Call (.Attribute (.Name C p1) m p2) [] [⟨some k1, e1, q1⟩, ⟨some k2, e2, q2⟩] pos) (lift (cn X) W (wE T (.statk C m [k1, k2] ia))) := by
  cases q : T.sm C m with
  | none => exact ⟨fun pins s a H Q I ⟨b, G0, H0, G, n, r, Qd, Ex, h, t, x, k⟩ => by
      rw [wE, q] at t
      exact t.elim⟩
  | some ps =>
    obtain ⟨ps, fs⟩ := ps
    by_cases eps : ps = [k1, k2]
    · subst eps
      obtain ⟨Ca, f, fd, h1, h2, h3, h4, h5⟩ := (hf _ fs q).ex
      refine pe_imp (pe_statK h2 h5 hr hg h1 h4 passes_no ha (meth_eq rfl hl) rfl rfl hdb rfl) fun s H Q ⟨b, G0, H0, G, n, r, Qd, Ex, h, t, x, k⟩ => ?_
      rw [wE, q, ofO_some] at t
      refine liftA_bind h x t.2 fun v G1 H1 n1 d h1 x1 s1 r1 q1 => ⟨rfl, ?_, sm_end h1.ok s1 r1 q1 k⟩
      rw [r1.length]
      exact h5.len v H1 Q (fun _ _ _ => False) (sm_end h1.ok s1 r1 q1 k) ▸ r1.length.symm
    · exact ⟨fun pins s a H Q I ⟨b, G0, H0, G, n, r, Qd, Ex, h, t, x, k⟩ => by
        rw [wE, q, ofO_some] at t
        exact (eps t.1).elim⟩
end
end Dl

set_option Elab.async false
set_option linter.all false
set_option maxRecDepth 100000
set_option maxHeartbeats 4000000
/-! Dict displays with written keys. -/
namespace Dl
open PySem PySem.Spec PyProof.Rows L2
/-- a new object that stood empty while its parts were made -/
theorem Stp.seal {b : Option Addr} {G H G2 H2 : Hp} {n n2 : Nat} {p : Addr} {o o2 : HO} (h : Ok b G H n) (np : H p = none) (s : Stp b G (upd H p o) G2 H2 n2) : Stp b G H (upd G2 p o2) (upd H2 p o2) n2 := by
  have gp : G p = none := h.sub.free np
  have hb : ∀ q, b = some q → q ≠ p := fun q e z => by
    subst z
    exact (h.box _ e).2.some np
  refine ⟨fun a u e => ?_, same_upd2 s.gh, fun a u na e => ?_, fun a u e => ?_, fun q e => ?_⟩
  · have na : a ≠ p := fun z => by subst z; rw [gp] at e; cases e
    rw [upd_ne na]
    exact s.gg a u e
  · have na2 : a ≠ p := fun z => by subst z; rw [np] at e; cases e
    rw [upd_ne na2]
    exact s.kp a u na (by rw [upd_ne na2]; exact e)
  · by_cases z : a = p
    · rw [z]; exact .inr np
    · rw [upd_ne z] at e
      rcases s.nw a u e with q | q
      · exact .inl q
      · rw [upd_ne z] at q
        exact .inr q
  · obtain ⟨x, y, z, e1, r⟩ := s.bx q e
    exact ⟨x, y, z, by rw [upd_ne (hb q e)]; exact e1, r⟩
def keyE : Expr → Option Key
  | .Constant (.int i) _ _ => some (.inl i)
  | .Constant (.str z) _ _ => some (.inr z)
  | _ => none
def keysE : List (Option Expr) → Option (List Key)
  | [] => some []
  | some e :: r => match keyE e, keysE r with
    | some k, some ks => some (k :: ks)
    | _, _ => none
  | none :: _ => none
section
variable {X : Cx} {W : WD} {T : Tab}
theorem pe_key {e : Expr} {k : Key} (h : keyE e = some k) : PE X e (tC (kV k)) := by
  unfold keyE at h
  split at h
  · cases h; exact pe_int
  · cases h; exact pe_str
  · cases h
def Prs (X : Cx) (W : WD) (T : Tab) (keys : List (Option Expr)) (values : List Expr) (ks : List Key) (ia : IAs) : Prop := ∀ pos, ∃ trs, PPs X pos keys values trs ∧ ∀ s H (Q : List (V × V) → Hp → Prop), liftA (cn X) W (wA T ia) s H (fun xs H1 => Q ((ks.map kV).zip xs) H1) → tPairs trs s H Q
theorem prs_bad : ∀ {keys : List (Option Expr)} {values : List Expr} {ks : List Key}, keysE keys = some ks → values.length = ks.length → Prs X W T keys values ks (.cons .bad .nil) := by
  intro keys values ks h hl pos
  have key : ∀ (keys : List (Option Expr)) (values : List Expr) (ks : List Key), keysE keys = some ks → values.length = ks.length → ∃ trs, PPs X pos keys values trs := by
    intro keys
    induction keys with
    | nil =>
      intro values ks h hl
      cases h
      cases values with
      | nil => exact ⟨[], pps_nil⟩
      | cons _ _ => cases hl
    | cons o r ih =>
      intro values ks h hl
      cases o with
      | none => cases h
      | some e =>
        rw [keysE] at h
        split at h
        · rename_i k ks' h1 h2
          cases h
          cases values with
          | nil => cases hl
          | cons v vs =>
            obtain ⟨trs, q⟩ := ih vs ks' h2 (by simpa using hl)
            exact ⟨_, pps_cons (pe_key h1) (⟨fun pins s a H Q I h => h.elim⟩ : PE X v fun _ _ _ => False) q⟩
        · cases h
  obtain ⟨trs, q⟩ := key keys values ks h hl
  refine ⟨trs, q, fun s H Q ⟨b, G0, H0, G, n, r, Qd, Ex, h, t, x, k⟩ => ?_⟩
  rw [wA, wE] at t
  exact t.elim
theorem prs_nil {ks : List Key} (h : keysE [] = some ks) : Prs X W T [] [] ks .nil := fun pos => ⟨[], pps_nil, fun s H Q ⟨b, G0, H0, G, n, r, Qd, Ex, h2, t, x, k⟩ => by
  rw [wA] at t
  have q := k [] G H n [] (Stp.refl h2.ok) .nil t
  have q : Q ((List.map kV ks).zip []) H := q
  rw [List.zip_nil_right] at q
  exact q⟩
theorem prs_cons {e v : Expr} {keys : List (Option Expr)} {values : List Expr} {k0 : Key} {ks : List Key} {iv : IE} {ir : IAs} (hk : keyE e = some k0) (hv : PE X v (lift (cn X) W (wE T iv))) (hr : Prs X W T keys values ks ir) : Prs X W T (some e :: keys) (v :: values) (k0 :: ks) (.cons iv ir) := fun pos => by
  obtain ⟨trs, q, z⟩ := hr pos
  refine ⟨_, pps_cons (pe_key hk) hv q, fun s H Q ⟨b, G0, H0, G, n, r, Qd, Ex, h, t, x, k⟩ => ?_⟩
  rw [wA] at t
  show lift (cn X) W (wE T iv) s H fun y H2 => tPairs trs s H2 fun ps H3 => Q ((kV k0, y) :: ps) H3
  refine lift_bind h x t fun v G1 H1 n1 d h1 x1 s1 r1 q1 => ?_
  refine z s H1 (fun ps H3 => Q ((kV k0, v) :: ps) H3) ⟨b, G0, H0, G1, n1, r, _, Ex, h1, q1, x1, fun vs G' H' n' ds st rr qq => ?_⟩
  exact k (v :: vs) G' H' n' (d :: ds) (s1.trans st) (.cons (r1.mono st.gg) rr) qq
theorem merge_new {kvs more : List (Key × V)} (h : ((kvs ++ more).map (·.1)).Nodup) : mergeK kvs more = kvs ++ more := by
  induction more generalizing kvs with
  | nil => rw [List.append_nil]; rfl
  | cons p r ih =>
    have e : putK kvs p.1 p.2 = kvs ++ [p] := by
      unfold putK
      rw [if_neg]
      intro z
      rw [List.any_eq_true] at z
      obtain ⟨q, hq, e⟩ := z
      rw [decide_eq_true_eq] at e
      rw [List.map_append, List.map_cons, List.nodup_append] at h
      exact h.2.2 q.1 (List.mem_map.mpr ⟨q, hq, rfl⟩) p.1 (List.mem_cons_self ..) e
    show mergeK (putK kvs p.1 p.2) r = _
    rw [e, ih (by simpa using h)]
    simp
theorem rkv_zip {K : PySem.W.Frag} {b : Option Addr} {G : Hp} : ∀ {ks : List Key} {xs : List V} {ds : List D}, Rps K b G xs ds → Rkv K b G (ks.zip xs) (ks.zip ds)
  | [], _, _, _ => .nil
  | k :: ks, _, _, .nil => .nil
  | k :: ks, _, _, .cons h g => .cons h (rkv_zip g)
theorem zip_kV (ks : List Key) (xs : List V) : (ks.map kV).zip xs = (ks.zip xs).map fun kv => (kV kv.1, kv.2) := by
  induction ks generalizing xs with
  | nil => rfl
  | cons k ks ih => cases xs with
    | nil => rfl
    | cons x xs => simp [ih]
theorem de_dis0 {pos : Pos} : PE X (.Dict [] [] pos) (lift (cn X) W (wE T (.dis [] .nil))) := pe_imp pe_dnewK fun s H Q ⟨b, G0, H0, G, n, r, Qd, Ex, h, t, x, k⟩ => by
  rw [wE, wA] at t
  intro p np
  exact k _ _ _ n _ (Stp.new h.ok np) (.dict (upd_same ..) (Nat.zero_le _) .nil) t.2.2.2
theorem de_dis {keys : List (Option Expr)} {values : List Expr} {ks : List Key} {ia : IAs} {pos : Pos} (hk : keysE keys = some ks) (hl : values.length = ks.length) (h15 : ks.length ≤ 15) (h0 : keys ≠ []) (hp : Prs X W T keys values ks ia) : PE X (.Dict keys values pos) (lift (cn X) W (wE T (.dis ks ia))) := by
  have key : ∀ (keys : List (Option Expr)) (ks : List Key), keysE keys = some ks → keys.length = ks.length ∧ keys.all (·.isSome) = true := by
    intro keys
    induction keys with
    | nil => intro ks h; cases h; exact ⟨rfl, rfl⟩
    | cons o r ih =>
      intro ks h
      cases o with
      | none => cases h
      | some e =>
        rw [keysE] at h
        split at h
        · rename_i k ks' h1 h2
          cases h
          obtain ⟨z1, z2⟩ := ih ks' h2
          exact ⟨by simp [z1], by simpa using z2⟩
        · cases h
  obtain ⟨k1, k2⟩ := key keys ks hk
  cases keys with
  | nil =>
    cases hk
    cases values with
    | cons _ _ => cases hl
    | nil =>
      exact absurd rfl h0
  | cons o r =>
    obtain ⟨trs, q, z⟩ := hp pos
    refine pe_imp (pe_disp q k2 (by rw [k1, hl]) (by simp) (by rw [k1]; exact h15)) fun s H Q ⟨b, G0, H0, G, n, r, Qd, Ex, h, t, x, k⟩ => ?_
    rw [wE] at t
    intro p np
    have s0 : Stp b G H G (upd H p (.dK [])) n := Stp.own h.ok np
    refine z s _ _ ⟨b, G0, H0, G, n, r, _, Ex, h.step s0, t, x.step s0, fun vs G' H' n' ds st rr qq => ?_⟩
    obtain ⟨l1, nd, l3, qq⟩ := qq
    have nb : some p ≠ b := fun e => (h.ok.box p e.symm).2.some np
    have hz : (ks.zip vs).length ≤ 15 := by rw [List.length_zip]; omega
    have e : mergeK [] (ks.zip vs) = ks.zip vs := by
      rw [merge_new]
      · rfl
      · rw [List.nil_append, List.map_fst_zip (by rw [rr.length]; omega)]
        exact nd
    refine ⟨st.kp p _ nb (upd_same ..), ks.zip vs, zip_kV ks vs, hz, ?_⟩
    rw [e]
    refine k _ _ _ n' _ (Stp.seal h.ok np st) (.dict (upd_same ..) (by rw [sizeLine_eq]; omega) (rkv_zip (rr.mono ?_))) qq
    intro a u ea
    have na : a ≠ p := fun e => by
      subst e
      rcases st.nw a u ea with z | z
      · rw [h.ok.sub.free np] at z; cases z
      · rw [upd_same] at z; cases z
    rw [upd_ne na]
    exact ea
end
end Dl

set_option Elab.async false
set_option linter.all false
set_option maxRecDepth 100000
set_option maxHeartbeats 4000000
/-! enumerate over a tuple. -/
namespace Dl
open PySem PySem.Spec PyProof.Rows L2
open AutoSeq1 (wpAny_loadPart')
theorem meets_enumT (u : Addr) (ws : Array Value) (m : Nat) (dc : Option Addr) (so : Array (Option Value)) :
    Meets (Builtin.«enumerate.__new__» ⟨[.type "enumerate", .ref u], []⟩) (fun _ R z => z.heap.get? u = some { cls := .type "tuple", dict := dc, data := .seq ws m, slots := so } ∧
      R (.ok (.ret (.ref (z.heap.push { cls := .type "tuple_iterator", data := .fields #[.ref u, .int 0 0] }).objs.size)))
        { z with heap := (z.heap.push { cls := .type "tuple_iterator", data := .fields #[.ref u, .int 0 0] }).push { cls := .type "enumerate", data := .fields #[.none, .bool false, .ref z.heap.objs.size, rawInt 0, .none, .none] } }) :=
  .of_wp fun P W A R z q => by
    obtain ⟨y1, y2, y3, y4, y5⟩ := z
    obtain ⟨lu, q⟩ := q
    have su := sub_enumerate
    have hu : Heap.IsTuple (Shared.heap ⟨y1, y2, y3, y4, y5⟩) u ws := ⟨_, lu, rfl, m, rfl⟩
    wp_walk using wpAny_loadPart' lu
    refine wpAny_stack_any fun k => wpAny_pure ?_
    split
    · rename_i cc _ _ _ _ _
      cases (cc == Value.type "enumerate") <;> (wp_walk using wpAny_loadPart' lu, wpAny_pyIter_tuple hu; exact ⟨_, rfl, q⟩)
    · wp_walk using wpAny_loadPart' lu, wpAny_pyIter_tuple hu
      exact ⟨_, rfl, q⟩
theorem call_enumT {P : Program} {W : World} {A : Around} {Er : Value → Shared → Prop} {z : Shared} {u : Addr} {ws : Array Value} {Q : Value → Shared → Prop} (hu : z.heap.IsTuple u ws)
    (k : ∀ g, IsEnum g (z.heap.objs.size + 1) z.heap.objs.size 0 .none → g.IsTupleIter z.heap.objs.size u 0 → g.objs.size = z.heap.objs.size + 2 → (∀ b o, z.heap.get? b = some o → g.get? b = some o) → Q (.ref (z.heap.objs.size + 1)) { z with heap := g }) :
    wpAny (model P W) A (call (.type "enumerate") [.ref u]) Q Er z := by
  obtain ⟨⟨c1, c2, c3, c4⟩, lu, e1, m, e2⟩ := hu
  dsimp only at e1 e2
  subst e1 e2
  have sz : (z.heap.push { cls := .type "tuple_iterator", data := .fields #[.ref u, .int 0 0] }).objs.size = z.heap.objs.size + 1 := Heap.size_push ..
  have ge : IsEnum ((z.heap.push { cls := .type "tuple_iterator", data := .fields #[.ref u, .int 0 0] }).push { cls := .type "enumerate", data := .fields #[.none, .bool false, .ref z.heap.objs.size, rawInt 0, .none, .none] }) (z.heap.objs.size + 1) z.heap.objs.size 0 .none := by
    have t := Heap.get?_push_size (z.heap.push { cls := .type "tuple_iterator", data := .fields #[.ref u, .int 0 0] }) (o := { cls := .type "enumerate", data := .fields #[.none, .bool false, .ref z.heap.objs.size, rawInt 0, .none, .none] }) rfl
    rw [sz] at t
    exact t
  refine callType_new F.called_enumerate (by decide) (F.typeCall_enumerate_1 _) (F.newCall_enumerate_1 _) (fun o => F.args_object_init_2 o _) F.entry_enumerate_new (meets_enumT u ws m c2 c4) ⟨lu, ?_⟩
  show _ ∧ _
  rw [sz]
  exact ⟨⟨_, ge, rfl⟩, k _ ge ⟨_, Heap.get?_push_of_some _ (Heap.get?_push_size _ rfl), rfl, rfl⟩ (by rw [Heap.size_push, sz]) fun b o t => Heap.get?_push_of_some _ (Heap.get?_push_of_some _ t)⟩
/-- a tuple's items, each in a new pair with its place -/
def IteT (K : PySem.W.Frag) (a : Addr) : It :=
  ⟨fun i H => ∃ (xs : List V) (x : V), SqT K H a xs ∧ xs[i]? = some x, fun i H v H' => ∃ T x, v = .ref T ∧ H T = none ∧ H' = upd H T (.tup [.int (i : Nat), x]) ∧ ∀ xs, SqT K H a xs → xs[i]? = some x, fun i H => ∃ xs : List V, SqT K H a xs ∧ xs.length ≤ i⟩
theorem tup_inj {X : Cx} {pins : List (Addr × Obj)} {a0 : L2.St} {H : Hp} {s : Shared} {a : Addr} {xs ys : List V} (I : L2.Inv X pins a0 H s) (h1 : SqT X.K H a xs) (h2 : SqT X.K H a ys) : ys = xs := I.tuple_inj h2 h1
theorem turn_enumT {P : Program} {w : World} {K : PySem.W.Frag} {el : List Expr} {kk : Nat} {tp : Pos} (a e it : Addr) :
    Turn P w K (.Tuple el kk tp) (IteT K a) [e, it] e (fun i h => (∃ old, IsEnum h e it ((i : Nat) : Int) old) ∧ h.IsTupleIter it a i ∧ e ≠ it ∧ a ≠ it ∧ a ≠ e) where
  mem := List.mem_cons_self ..
  obj := fun i h st b hb => by
    obtain ⟨⟨old, he⟩, ⟨o, ho, hc, hd⟩, _⟩ := st
    rcases List.mem_cons.mp hb with z | z
    · subst z
      exact ⟨_, he, fun v q => nomatch q⟩
    · cases List.mem_singleton.mp z
      exact ⟨o, ho, fun v q => by rw [hd] at q; cases q⟩
  keep := fun i h h' st k => by
    obtain ⟨⟨old, he⟩, hi, hne⟩ := st
    exact ⟨⟨old, k e (List.mem_cons_self ..) _ he⟩, hi.at fun o q => k it (List.mem_cons_of_mem _ (List.mem_singleton.mpr rfl)) o q, hne⟩
  item := by
    intro X hP hw hK hc i pins s a0 H E I hf st hg
    subst hP hw hK
    obtain ⟨⟨old, he⟩, hit, hne, hai, hae⟩ := st
    obtain ⟨xs, x, hq, hx⟩ := hg
    obtain ⟨its, rv, p, hz⟩ := I.tuple hq
    obtain ⟨u, hu, ru⟩ := rv.get hx
    have lt : i < its.toArray.size := by
      have := (List.getElem?_eq_some_iff.mp hu).1
      simpa using this
    have hel := Heap.lt_size he
    have hil : it < s.heap.objs.size := by
      obtain ⟨_, q, _⟩ := hit
      exact Heap.lt_size q
    have DD : Draws X.prog X.w X.A.in1 it [it, a] its.toArray.size (fun i v => its.toArray[i]? = some v) (fun i h => h.IsTupleIter it a i ∧ h.IsTuple a its.toArray) := Draws.tuple (A := X.A.in1) (show X.A.in1.handled = none from I.ok.hd hc) it a hai its.toArray
    refine wpAny_pyNext_enum_itemD DD he ⟨hit, p⟩ lt hne (fun z => ?_) fun y g tk hy ho hs' hT hsz hk => ?_
    · rcases List.mem_cons.mp z with z | z
      · exact hne z
      · exact hae (List.mem_singleton.mp z).symm
    have ey : y = u := by
      have e2 : its.toArray[i]? = some u := by simpa using hu
      rw [e2] at hy
      exact (Option.some.inj hy).symm
    subst ey
    refine ⟨_, rfl, wpAny_letOwnedTupleGo_enum (s := { s with heap := g, toks := tk + 1 }) ho fun g2 he2 sb => ?_⟩
    have hT2 : g2.get? s.heap.objs.size = some { cls := .type "tuple", data := .seq #[.int i tk, y] } := (sb.2 _ (Nat.ne_of_gt hel)).trans hT
    have new : ObjOk X.prog X.w (upd H s.heap.objs.size (.tup [.int (i : Nat), x])) g2 s.heap.objs.size (.tup [.int (i : Nat), x]) := by
      refine ⟨by show 2 ≤ sizeLine; decide, [.int i tk, y], .cons ⟨_, rfl⟩ (.cons ru .nil), ?_⟩
      exact ⟨_, hT2, rfl, _, rfl⟩
    have I1 : L2.Inv X pins a0 (upd H s.heap.objs.size (.tup [.int (i : Nat), x])) { s with heap := g2, toks := tk + 1 } :=
      I.turnedNew (ch := [e, it]) (fun b ob hb q => (sb.2 b (fun z => hb (by simp [z]))).trans (hk b ob (fun z => hb (by simp [z])) (fun z => hb (by simp [z])) q)) hf (Nat.le_refl _) new
    refine ⟨.ref s.heap.objs.size, _, I1, rfl, ⟨_, x, rfl, I.hok.fresh (Nat.le_refl _), rfl, fun ys hy => ?_⟩, ⟨⟨y, ?_⟩, hs'.1.at fun o q => (sb.2 it (Ne.symm hne)).trans q, hne, hai, hae⟩, fun b hb => ?_⟩
    · rw [tup_inj I hq hy]
      exact hx
    · have e1 : ((i + 1 : Nat) : Int) = (i : Int) + 1 := by omega
      rw [e1]
      exact he2
    · have hb' : b < s.heap.objs.size := by
        rcases List.mem_cons.mp hb with z | z
        · rw [z]; exact hel
        · rw [List.mem_singleton.mp z]; exact hil
      rw [upd_ne (Nat.ne_of_lt hb')]
      exact (hf b hb).1
  done := by
    intro X hP hw hK hc i pins s a0 H E I hf st hg
    subst hP hw hK
    obtain ⟨⟨old, he⟩, hit, hne, hai, hae⟩ := st
    obtain ⟨xs, hq, hx⟩ := hg
    obtain ⟨its, rv, p, hz⟩ := I.tuple hq
    obtain ⟨f0, f1, f2, f3, f4, f5⟩ := hf it (List.mem_cons_of_mem _ (List.mem_singleton.mpr rfl))
    have hT : s.TypeIs (.ref e) "enumerate" := ⟨_, he, rfl⟩
    unfold pyNext
    refine wpAny_bind (wpAny_attempt (wpAny_callSpecial?_slot (name := Str.ofString "__next__") hT F.slot_enumerate_next (wpAny_call_entry F.slot_enumerate_next hT F.entry_enumerate_next ?_ (F.args_enumerate_next_1 _))))
    show wpAny _ _ (field (.ref e) 2 >>= _) _ _ _
    refine wpAny_bind (wpAny_field he rfl (x := .ref it) rfl ?_)
    have hl := rv.length
    refine wpAny_bind (wpAny_nextOf_tuple_end (I.ok.hd hc) hit p (by simp; omega) fun g y ey cy => ?_)
    obtain ⟨o, ho, hc'⟩ := cy
    refine wpAny_bind (wpAny_isInstance (T := "StopIteration") (b := true) ⟨o, ho, hc'⟩ isSubtype_stop ?_)
    exact wpAny_pure ⟨rfl, I.turned (t' := s.toks) (fun b o hb q => ey b o hb q) f0 f1 f3 f4 f5⟩
  self := fun A i s Q E st h => by
    obtain ⟨⟨_, he⟩, _⟩ := st
    exact wpAny_pyIter_enum he h
/-- enumerate of a list or of a tuple -/
theorem pi_enumA {X : Cx} {e : Expr} {ta : TA} {p pos tpos : Pos} {el : List Expr} {kk : Nat} (hg : Gl X "enumerate") (hm : X.mg "enumerate" = none) (ha : PA X [e] ta) (hs : starEach [e] X.env = [(false, eval e X.env)]) :
    PI X (.Tuple el kk tpos) (.Call (.Name "enumerate" p) [e] [] pos) (fun s H R => ta s H fun vs H1 => (∃ a xs, vs = [.ref a] ∧ SqL X.K H1 a xs ∧ R (Ite X.K a) H1) ∨ ∃ a xs, vs = [.ref a] ∧ SqT X.K H1 a xs ∧ R (IteT X.K a) H1) := by
  refine ⟨fun pins s a0 H R I h => ?_⟩
  refine Call_ (ld_blt I hg hm boot_enumerate (PyProof.Rows.callWith_type1 (thn (ha.run pos pins s a0 H _ I h) fun us s1 ⟨vs, H1, I1, r1, q1⟩ => ?_) hs rfl))
  rcases q1 with ⟨a, xs, ex, hq, q⟩ | ⟨a, xs, ex, hq, q⟩
  · subst ex
    cases r1 with
    | cons r rr =>
      cases rr
      cases r
      obtain ⟨its, rv, p', hz⟩ := I1.list hq
      refine call_enumerate_list p'.isList fun g he hit hsz hk => wpAny_pyIter_enum he ?_
      have I2 : L2.Inv X pins a0 H1 { s1 with heap := g } := I1.kept (t' := s1.toks) hk
      refine ⟨s1.heap.objs.size + 1, [s1.heap.objs.size + 1, s1.heap.objs.size], _, _, H1, rfl, I2, turn_enum a (s1.heap.objs.size + 1) s1.heap.objs.size, ⟨⟨.none, he⟩, hit, Nat.succ_ne_self _⟩, fun b hb => ?_, q⟩
      have hle : s1.heap.objs.size ≤ b := by
        rcases List.mem_cons.mp hb with z | z
        · rw [z]
          exact Nat.le_succ _
        · rw [List.mem_singleton.mp z]
          exact Nat.le_refl _
      exact I1.fpOk hle (I1.hok.fresh hle)
  · subst ex
    cases r1 with
    | cons r rr =>
      cases rr
      cases r
      obtain ⟨its, rv, p', hz⟩ := I1.tuple hq
      have la : a < s1.heap.objs.size := by
        obtain ⟨o, ho, _⟩ := p'
        exact Heap.lt_size ho
      refine call_enumT p' fun g he hit hsz hk => wpAny_pyIter_enum he ?_
      have I2 : L2.Inv X pins a0 H1 { s1 with heap := g } := I1.kept (t' := s1.toks) hk
      refine ⟨s1.heap.objs.size + 1, [s1.heap.objs.size + 1, s1.heap.objs.size], _, _, H1, rfl, I2, turn_enumT a (s1.heap.objs.size + 1) s1.heap.objs.size, ⟨⟨.none, he⟩, hit, Nat.succ_ne_self _, Nat.ne_of_lt la, Nat.ne_of_lt (Nat.lt_succ_of_lt la)⟩, fun b hb => ?_, q⟩
      have hle : s1.heap.objs.size ≤ b := by
        rcases List.mem_cons.mp hb with z | z
        · rw [z]
          exact Nat.le_succ _
        · rw [List.mem_singleton.mp z]
          exact Nat.le_refl _
      exact I1.fpOk hle (I1.hok.fresh hle)
end Dl

set_option Elab.async false
set_option linter.all false
set_option maxRecDepth 100000
set_option maxHeartbeats 4000000
/-! What is walked; comprehensions. -/
namespace Dl
open PySem PySem.Spec PyProof.Rows L2
/-! ### walks -/
structure Wk (K : PySem.W.Frag) (b : Option Addr) (J : It) (G : Hp) (ds : List D) : Prop where
  go : ∀ i G1 H1, Same G G1 → Same G1 H1 → i < ds.length → J.go i H1
  stop : ∀ i G1 H1, Same G G1 → Same G1 H1 → ds.length ≤ i → J.stop i H1
  yld : ∀ i n G1 H1 x H2, Same G G1 → Ok b G1 H1 n → J.yld i H1 x H2 → i < ds.length → ∃ d G2, ds[i]? = some d ∧ Stp b G1 H1 G2 H2 n ∧ Rp K b G2 x d
  small : ds.length ≤ sizeLine
abbrev WI := List Ent → Nat → (List D → Nat → Prop) → QX → Prop
def liftI (c : Cn) (W : WD) (te : WI) : TI := fun s H R => ∃ b G0 H0 G n r Qd Ex, Rho c.K b G0 H0 G H n s r ∧ te r n Qd Ex ∧ XOk c W b G H s Ex ∧ ∀ J G' H' n' ds, Stp b G H G' H' n' → Wk c.K b J G' ds → Qd ds n' → R J H'
theorem pi_imp {X : Cx} {tg e : Expr} {t t' : TI} (h : PI X tg e t) (i : ∀ s H Q, t' s H Q → t s H Q) : PI X tg e t' := ⟨fun pins s a H Q I q => h.run pins s a H Q I (i _ _ _ q)⟩
section
variable {K : PySem.W.Frag} {b : Option Addr} {G : Hp}
theorem Rps.lt {xs : List V} {ds : List D} (g : Rps K b G xs ds) {i : Nat} (h : i < ds.length) : ∃ x, xs[i]? = some x := ⟨xs[i]'(by rw [g.length]; exact h), List.getElem?_eq_getElem _⟩
theorem wk_list {a : Addr} {xs : List V} {ds : List D} (h : G a = some (.lst xs)) (z : xs.length ≤ sizeLine) (g : Rps K b G xs ds) : Wk K b (Itl K a) G ds where
  go := fun i G1 H1 s1 s2 hi => by
    obtain ⟨x, e⟩ := g.lt hi
    exact ⟨xs, x, SqL.of (s2 _ _ (s1 _ _ h)), e⟩
  stop := fun i G1 H1 s1 s2 hi => ⟨xs, SqL.of (s2 _ _ (s1 _ _ h)), by rw [g.length]; exact hi⟩
  yld := fun i n G1 H1 x H2 s1 ok y hi => by
    obtain ⟨e, y⟩ := y
    subst e
    obtain ⟨d, e1, e2⟩ := g.get (y xs (SqL.of (ok.sub _ _ (s1 _ _ h))))
    exact ⟨d, G1, e1, Stp.refl ok, e2.mono s1⟩
  small := by rw [← g.length]; exact z
theorem wk_tup {a : Addr} {xs : List V} {ds : List D} (h : SqT K G a xs) (z : xs.length ≤ sizeLine) (g : Rps K b G xs ds) : Wk K b (Itt K a) G ds where
  go := fun i G1 H1 s1 s2 hi => by
    obtain ⟨x, e⟩ := g.lt hi
    exact ⟨xs, x, sqt_same s2 (sqt_same s1 h), e⟩
  stop := fun i G1 H1 s1 s2 hi => ⟨xs, sqt_same s2 (sqt_same s1 h), by rw [g.length]; exact hi⟩
  yld := fun i n G1 H1 x H2 s1 ok y hi => by
    obtain ⟨e, y⟩ := y
    subst e
    obtain ⟨d, e1, e2⟩ := g.get (y xs (sqt_same ok.sub (sqt_same s1 h)))
    exact ⟨d, G1, e1, Stp.refl ok, e2.mono s1⟩
  small := by rw [← g.length]; exact z
theorem wk_str {z : Str} (hz : z.length ≤ sizeLine) (ho : PyData.strOk z = true) : Wk K b (Its z) G (signs z) where
  go := fun i G1 H1 s1 s2 hi => by
    show i < z.cps.size
    unfold signs at hi
    simpa using hi
  stop := fun i G1 H1 s1 s2 hi => by
    show z.cps.size ≤ i
    unfold signs at hi
    simpa using hi
  yld := fun i n G1 H1 x H2 s1 ok y hi => by
    obtain ⟨e, c, e1, e2⟩ := y
    subst e e2
    refine ⟨.str ⟨#[c]⟩, G1, ?_, Stp.refl ok, .str _ (by show 1 ≤ sizeLine; rw [sizeLine_eq]; decide) (strOk_one ho ?_)⟩
    · unfold signs
      rw [List.getElem?_map, Array.getElem?_toList, e1]
      rfl
    · exact List.mem_of_getElem? (show z.cps.toList[i]? = some c by rw [Array.getElem?_toList]; exact e1)
  small := by
    unfold signs
    rw [List.length_map, Array.length_toList]
    exact hz
theorem iotaI_length (lo : Int) (k : Nat) : (iotaI lo k).length = k := by
  induction k generalizing lo with
  | zero => rfl
  | succ k ih => rw [iotaI, List.length_cons, ih]
theorem iotaI_get (lo : Int) (k i : Nat) (h : i < k) : (iotaI lo k)[i]? = some (.int (lo + i)) := by
  induction k generalizing lo i with
  | zero => omega
  | succ k ih =>
    rw [iotaI]
    cases i with
    | zero => simp
    | succ i =>
      rw [List.getElem?_cons_succ, ih _ _ (by omega)]
      simp
      omega
theorem wk_rng {lo : Int} {k : Nat} (hk : k ≤ sizeLine) : Wk K b (Itr lo k) G (iotaI lo k) where
  go := fun i G1 H1 s1 s2 hi => by rw [iotaI_length] at hi; exact hi
  stop := fun i G1 H1 s1 s2 hi => by rw [iotaI_length] at hi; exact hi
  yld := fun i n G1 H1 x H2 s1 ok y hi => by
    obtain ⟨e, y⟩ := y
    subst e y
    rw [iotaI_length] at hi
    exact ⟨_, G1, iotaI_get lo k i hi, Stp.refl ok, .int _⟩
  small := by rw [iotaI_length]; exact hk
theorem enumD_length (i : Int) (ds : List D) : (enumD i ds).length = ds.length := by
  induction ds generalizing i with
  | nil => rfl
  | cons d ds ih => rw [enumD, List.length_cons, List.length_cons, ih]
theorem enumD_get (lo : Int) : ∀ (ds : List D) (i : Nat) (d : D), ds[i]? = some d → (enumD lo ds)[i]? = some (.tup [.int (lo + i), d])
  | [], i, d, e => by simp at e
  | x :: xs, 0, d, e => by
    simp at e
    subst e
    rw [enumD]
    simp
  | x :: xs, i + 1, d, e => by
    rw [enumD, List.getElem?_cons_succ, enumD_get (lo + 1) xs i d (by simpa using e)]
    simp
    omega
theorem wk_enum {a : Addr} {xs : List V} {ds : List D} (h : G a = some (.lst xs)) (z : xs.length ≤ sizeLine) (g : Rps K b G xs ds) : Wk K b (Ite K a) G (enumD 0 ds) where
  go := fun i G1 H1 s1 s2 hi => by
    rw [enumD_length] at hi
    obtain ⟨x, e⟩ := g.lt hi
    exact ⟨xs, x, SqL.of (s2 _ _ (s1 _ _ h)), e⟩
  stop := fun i G1 H1 s1 s2 hi => ⟨xs, SqL.of (s2 _ _ (s1 _ _ h)), by rw [enumD_length] at hi; rw [g.length]; exact hi⟩
  yld := fun i n G1 H1 x H2 s1 ok y hi => by
    obtain ⟨p, w, ex, np, e2, y⟩ := y
    subst ex e2
    obtain ⟨d, e1, e2⟩ := g.get (y xs (SqL.of (ok.sub _ _ (s1 _ _ h))))
    obtain ⟨s2, r2⟩ := rp_new_tup (K := K) ok np (.cons (.int (i : Nat)) (.cons (e2.mono s1) .nil)) (by show 2 ≤ sizeLine; rw [sizeLine_eq]; decide)
    refine ⟨_, _, ?_, s2, r2⟩
    rw [enumD_get 0 ds i d e1]
    simp
  small := by rw [enumD_length, ← g.length]; exact z
theorem wk_enumT {a : Addr} {xs : List V} {ds : List D} (h : SqT K G a xs) (z : xs.length ≤ sizeLine) (g : Rps K b G xs ds) : Wk K b (IteT K a) G (enumD 0 ds) where
  go := fun i G1 H1 s1 s2 hi => by
    rw [enumD_length] at hi
    obtain ⟨x, e⟩ := g.lt hi
    exact ⟨xs, x, sqt_same s2 (sqt_same s1 h), e⟩
  stop := fun i G1 H1 s1 s2 hi => ⟨xs, sqt_same s2 (sqt_same s1 h), by rw [enumD_length] at hi; rw [g.length]; exact hi⟩
  yld := fun i n G1 H1 x H2 s1 ok y hi => by
    obtain ⟨p, w, ex, np, e2, y⟩ := y
    subst ex e2
    obtain ⟨d, e1, e2⟩ := g.get (y xs (sqt_same ok.sub (sqt_same s1 h)))
    obtain ⟨s2, r2⟩ := rp_new_tup (K := K) ok np (.cons (.int (i : Nat)) (.cons (e2.mono s1) .nil)) (by show 2 ≤ sizeLine; rw [sizeLine_eq]; decide)
    refine ⟨_, _, ?_, s2, r2⟩
    rw [enumD_get 0 ds i d e1]
    simp
  small := by rw [enumD_length, ← g.length]; exact z
theorem zipD_get : ∀ (xs ys : List D) (i : Nat) (x y : D), xs[i]? = some x → ys[i]? = some y → (zipD xs ys)[i]? = some (.tup [x, y])
  | [], _, i, x, y, e, _ => by simp at e
  | _ :: _, [], i, x, y, _, e => by simp at e
  | a :: xs, c :: ys, 0, x, y, e1, e2 => by
    simp at e1 e2
    subst e1 e2
    rfl
  | a :: xs, c :: ys, i + 1, x, y, e1, e2 => by
    rw [zipD, List.getElem?_cons_succ]
    exact zipD_get xs ys i x y (by simpa using e1) (by simpa using e2)
theorem zipD_length : ∀ (xs ys : List D), (zipD xs ys).length = min xs.length ys.length
  | [], _ => by rw [zipD]; simp; intros; simp_all
  | _ :: _, [] => by rw [zipD]; simp; intros; simp_all
  | a :: xs, c :: ys => by
    rw [zipD, List.length_cons, zipD_length xs ys, List.length_cons, List.length_cons]
    omega
theorem wk_zipL {a c : Addr} {xs ys : List V} {ds es : List D} (h : G a = some (.lst xs)) (z : xs.length ≤ sizeLine) (g : Rps K b G xs ds) (h' : G c = some (.lst ys)) (g' : Rps K b G ys es) : Wk K b (Itz K a c) G (zipD ds es) where
  go := fun i G1 H1 s1 s2 hi => by
    rw [zipD_length] at hi
    obtain ⟨x, e⟩ := g.lt (show i < ds.length by omega)
    obtain ⟨y, e'⟩ := g'.lt (show i < es.length by omega)
    exact ⟨xs, ys, x, y, SqL.of (s2 _ _ (s1 _ _ h)), SqL.of (s2 _ _ (s1 _ _ h')), e, e'⟩
  stop := fun i G1 H1 s1 s2 hi => ⟨xs, ys, SqL.of (s2 _ _ (s1 _ _ h)), SqL.of (s2 _ _ (s1 _ _ h')), by rw [zipD_length] at hi; rw [g.length, g'.length]; omega⟩
  yld := fun i n G1 H1 x H2 s1 ok y hi => by
    obtain ⟨p, w, w', ex, np, e2, y, y'⟩ := y
    subst ex e2
    obtain ⟨d, e1, e2⟩ := g.get (y xs (SqL.of (ok.sub _ _ (s1 _ _ h))))
    obtain ⟨d', e1', e2'⟩ := g'.get (y' ys (SqL.of (ok.sub _ _ (s1 _ _ h'))))
    obtain ⟨s2, r2⟩ := rp_new_tup (K := K) ok np (.cons (e2.mono s1) (.cons (e2'.mono s1) .nil)) (by show 2 ≤ sizeLine; rw [sizeLine_eq]; decide)
    exact ⟨_, _, zipD_get _ _ _ _ _ e1 e1', s2, r2⟩
  small := by rw [zipD_length, ← g.length]; omega
theorem wk_zipT {a c : Addr} {xs ys : List V} {ds es : List D} (h : SqT K G a xs) (z : xs.length ≤ sizeLine) (g : Rps K b G xs ds) (h' : SqT K G c ys) (g' : Rps K b G ys es) : Wk K b (RZ.ItzT K a c) G (zipD ds es) where
  go := fun i G1 H1 s1 s2 hi => by
    rw [zipD_length] at hi
    obtain ⟨x, e⟩ := g.lt (show i < ds.length by omega)
    obtain ⟨y, e'⟩ := g'.lt (show i < es.length by omega)
    exact ⟨xs, ys, x, y, sqt_same s2 (sqt_same s1 h), sqt_same s2 (sqt_same s1 h'), e, e'⟩
  stop := fun i G1 H1 s1 s2 hi => ⟨xs, ys, sqt_same s2 (sqt_same s1 h), sqt_same s2 (sqt_same s1 h'), by rw [zipD_length] at hi; rw [g.length, g'.length]; omega⟩
  yld := fun i n G1 H1 x H2 s1 ok y hi => by
    obtain ⟨p, w, w', ex, np, e2, y, y'⟩ := y
    subst ex e2
    obtain ⟨d, e1, e2⟩ := g.get (y xs (sqt_same ok.sub (sqt_same s1 h)))
    obtain ⟨d', e1', e2'⟩ := g'.get (y' ys (sqt_same ok.sub (sqt_same s1 h')))
    obtain ⟨s2, r2⟩ := rp_new_tup (K := K) ok np (.cons (e2.mono s1) (.cons (e2'.mono s1) .nil)) (by show 2 ≤ sizeLine; rw [sizeLine_eq]; decide)
    exact ⟨_, _, zipD_get _ _ _ _ _ e1 e1', s2, r2⟩
  small := by rw [zipD_length, ← g.length]; omega
end
section
variable {X : Cx} {W : WD} {T : Tab} {tg : Expr}
theorem pi_any {e : Expr} {te : TE} (he : PE X e te) : PI X tg e (fun s H R => te s H fun x H1 => (∃ a xs, x = .ref a ∧ SqL X.K H1 a xs ∧ R (Itl X.K a) H1) ∨ (∃ a xs, x = .ref a ∧ SqT X.K H1 a xs ∧ R (Itt X.K a) H1) ∨ ∃ z, x = .str z ∧ R (Its z) H1) := by
  refine ⟨fun pins s a0 H R I h => thn (he.run pins s a0 H _ I h) fun v s1 ⟨x, H1, I1, r1, q1⟩ => ?_⟩
  rcases q1 with ⟨a, xs, rfl, hq, q⟩ | ⟨a, xs, rfl, hq, q⟩ | ⟨z, rfl, q⟩
  · obtain ⟨_, _, p, _⟩ := I1.list hq
    cases r1
    exact wpAny_pyIter_list p.isList (pi_one (tk := s1.toks) I1 _ (turn_list a _) ⟨_, Heap.get?_push_size _ rfl, rfl, rfl⟩ q)
  · obtain ⟨_, _, p, _⟩ := I1.tuple hq
    cases r1
    exact wpAny_pyIter_tuple p (pi_one (tk := s1.toks) I1 _ (turn_tuple a _) ⟨_, Heap.get?_push_size _ rfl, rfl, rfl⟩ q)
  · obtain ⟨t, rfl⟩ := r1
    by_cases ha : z.cps.all (· < 128) = true
    · refine wpAny_pyIter_ascii ha (pi_one I1 _ (turn_str _ z t _ (.inl rfl)) ?_ q)
      exact ⟨_, Heap.get?_push_size _ rfl, rfl, rfl⟩
    · refine wpAny_pyIter_wide (by simpa using ha) (pi_one I1 _ (turn_str _ z t _ (.inr rfl)) ?_ q)
      exact ⟨_, Heap.get?_push_size _ rfl, rfl, rfl⟩
theorem di_ex {e : Expr} {ie : IE} (he : PE X e (lift (cn X) W (wE T ie))) : PI X tg e (liftI (cn X) W (wI T (.ex ie))) :=
  pi_imp (pi_any he) fun s H Q ⟨b, G0, H0, G, n, r, Qd, Ex, h, t, x, k⟩ => by
    rw [wI] at t
    refine lift_bind h x t fun v G1 H1 n1 d h1 x1 s1 r1 q1 => ?_
    obtain ⟨ds, e, q⟩ := ofO_iff q1
    cases d with
    | list ys =>
      cases e
      obtain ⟨a, xs, rfl, hl, z, g⟩ := rp_list_inv r1
      exact .inl ⟨a, xs, rfl, SqL.of (h1.ok.sub _ _ hl), k _ G1 H1 n1 _ s1 (wk_list hl z g) q⟩
    | tup ys =>
      cases e
      obtain ⟨a, xs, rfl, hl, z, g⟩ := rp_tup_inv r1
      exact .inr (.inl ⟨a, xs, rfl, sqt_same h1.ok.sub hl, k _ G1 H1 n1 _ s1 (wk_tup hl z g) q⟩)
    | str y =>
      cases e
      obtain ⟨ev, zy, oy⟩ := rp_str_inv r1
      exact .inr (.inr ⟨y, ev, k _ G1 H1 n1 _ s1 (wk_str zy oy) q⟩)
    | _ => cases e
theorem di_rng1 {e : Expr} {ie : IE} {p pos : Pos} (hg : Gl X "range") (hm : X.mg "range" = none) (he : PE X e (lift (cn X) W (wE T ie))) (hs : starEach [e] X.env = [(false, eval e X.env)]) : PI X tg (.Call (.Name "range" p) [e] [] pos) (liftI (cn X) W (wI T (.rng1 ie))) :=
  pi_imp (pi_range1 hg hm (pa_cons he pa_nil hs) hs) fun s H Q ⟨b, G0, H0, G, n, r, Qd, Ex, h, t, x, k⟩ => by
    rw [wI] at t
    refine lift_bind h x t fun v G1 H1 n1 d h1 x1 s1 r1 q1 => ?_
    cases d with
    | int j =>
      obtain ⟨c1, c2, q⟩ := q1
      have ev := rp_int_inv r1
      subst ev
      exact ⟨j, rfl, c2, by omega, k _ G1 H1 n1 _ s1 (wk_rng (by rw [sizeLine_eq]; omega)) q⟩
    | _ => exact q1.elim
theorem di_rng2 {e f : Expr} {ie iff : IE} {p pos : Pos} (hg : Gl X "range") (hm : X.mg "range" = none) (he : PE X e (lift (cn X) W (wE T ie))) (hf : PE X f (lift (cn X) W (wE T iff))) (hs : starEach [e, f] X.env = [(false, eval e X.env), (false, eval f X.env)]) (hs2 : starEach [f] X.env = [(false, eval f X.env)]) :
    PI X tg (.Call (.Name "range" p) [e, f] [] pos) (liftI (cn X) W (wI T (.rng2 ie iff))) :=
  pi_imp (pi_range2 hg hm (pa_cons he (pa_cons hf pa_nil hs2) (by rw [hs, hs2])) hs hs2) fun s H Q ⟨b, G0, H0, G, n, r, Qd, Ex, h, t, x, k⟩ => by
    rw [wI] at t
    refine lift_bind h x t fun v G1 H1 n1 d h1 x1 s1 r1 q1 => lift_bind h1 x1 q1 fun w G2 H2 n2 e h2 x2 s2 r2 q2 => ?_
    cases d with
    | int i =>
      cases e with
      | int j =>
        obtain ⟨c1, c2, c3, c4, c5, q⟩ := q2
        have ev := rp_int_inv r1
        have ew := rp_int_inv r2
        subst ev ew
        exact ⟨i, j, rfl, ⟨c2, c3, c4, c5⟩, k _ G2 H2 n2 _ (s1.trans s2) (wk_rng (by rw [sizeLine_eq]; omega)) q⟩
      | _ => exact q2.elim
    | _ => cases e <;> exact q2.elim
theorem di_enum {e : Expr} {ie : IE} {p pos tpos : Pos} {elts : List Expr} {kk : Nat} (hg : Gl X "enumerate") (hm : X.mg "enumerate" = none) (he : PE X e (lift (cn X) W (wE T ie))) (hs : starEach [e] X.env = [(false, eval e X.env)]) : PI X (.Tuple elts kk tpos) (.Call (.Name "enumerate" p) [e] [] pos) (liftI (cn X) W (wI T (.enum ie))) :=
  pi_imp (pi_enumA hg hm (pa_cons he pa_nil hs) hs) fun s H Q ⟨b, G0, H0, G, n, r, Qd, Ex, h, t, x, k⟩ => by
    rw [wI] at t
    refine lift_bind h x t fun v G1 H1 n1 d h1 x1 s1 r1 q1 => ?_
    cases d with
    | list ys =>
      obtain ⟨a, xs, rfl, hl, z, g⟩ := rp_list_inv r1
      exact .inl ⟨a, xs, rfl, SqL.of (h1.ok.sub _ _ hl), k _ G1 H1 n1 _ s1 (wk_enum hl z g) q1⟩
    | tup ys =>
      obtain ⟨a, xs, rfl, hl, z, g⟩ := rp_tup_inv r1
      exact .inr ⟨a, xs, rfl, sqt_same h1.ok.sub hl, k _ G1 H1 n1 _ s1 (wk_enumT hl z g) q1⟩
    | _ => exact q1.elim
theorem di_zip {e f : Expr} {ie iff : IE} {p pos tpos : Pos} {elts : List Expr} {kk : Nat} (hg : Gl X "zip") (hm : X.mg "zip" = none) (he : PE X e (lift (cn X) W (wE T ie))) (hf : PE X f (lift (cn X) W (wE T iff))) (hs : starEach [e, f] X.env = (false, eval e X.env) :: starEach [f] X.env) (hs2 : starEach [f] X.env = [(false, eval f X.env)]) :
    PI X (.Tuple elts kk tpos) (.Call (.Name "zip" p) [e, f] [] pos) (liftI (cn X) W (wI T (.zip ie iff))) :=
  pi_imp (RZ.pi_zipA hg hm (pa_cons he (pa_cons hf pa_nil hs2) hs) hs (by rw [hs2]; rfl)) fun s H Q ⟨b, G0, H0, G, n, r, Qd, Ex, h, t, x, k⟩ => by
    rw [wI] at t
    refine lift_bind h x t fun v G1 H1 n1 d h1 x1 s1 r1 q1 => lift_bind h1 x1 q1 fun w G2 H2 n2 e h2 x2 s2 r2 q2 => ?_
    have r1 := r1.mono s2.gg
    cases d with
    | list i =>
      cases e with
      | list j =>
        obtain ⟨a, xs, rfl, hl, z, g⟩ := rp_list_inv r1
        obtain ⟨a', xs', rfl, hl', z', g'⟩ := rp_list_inv r2
        exact ⟨a, a', xs, xs', rfl, .inl ⟨SqL.of (h2.ok.sub _ _ hl), SqL.of (h2.ok.sub _ _ hl'), k _ G2 H2 n2 _ (s1.trans s2) (wk_zipL hl z g hl' g') q2⟩⟩
      | _ => exact q2.elim
    | tup i =>
      cases e with
      | tup j =>
        obtain ⟨a, xs, rfl, hl, z, g⟩ := rp_tup_inv r1
        obtain ⟨a', xs', rfl, hl', z', g'⟩ := rp_tup_inv r2
        exact ⟨a, a', xs, xs', rfl, .inr ⟨sqt_same h2.ok.sub hl, sqt_same h2.ok.sub hl', k _ G2 H2 n2 _ (s1.trans s2) (wk_zipT hl z g hl' g') q2⟩⟩
      | _ => exact q2.elim
    | _ => cases e <;> exact q2.elim
end
end Dl

set_option Elab.async false
set_option linter.all false
set_option maxRecDepth 100000
set_option maxHeartbeats 4000000
/-! Targets; comprehensions. -/
namespace Dl
open PySem PySem.Spec PyProof.Rows L2
def gMany : List Nat → TGs
  | [] => gNil
  | i :: is => gCons (gName i) (gMany is)
def gOf (K : PySem.W.Frag) : Tg → TG
  | .one i => gName i
  | .many l => fun v s H Q => gTup K l.length (gMany l) v s H Q ∨ gUnl K l.length (gMany l) v s H Q
  | .nest i l => gTup K 2 (gCons (gName i) (gCons (gTup K l.length (gMany l)) gNil))
/-- some slots stored -/
def setL (s : L2.St) : List Nat → List V → L2.St
  | [], _ => s
  | _ :: _, [] => s
  | i :: is, v :: vs => setL (s.set i (some v)) is vs
section
variable {K : PySem.W.Frag} {b : Option Addr} {G0 H0 G H : Hp} {n : Nat}
theorem many_bind {Q : L2.St → Hp → Prop} : ∀ {l : List Nat} {vs : List V} {ds : List D} {s : L2.St} {r r' : List Ent}, Rho K b G0 H0 G H n s r → Rps K b G vs ds → setMany r l ds = some r' → (∀ s', Rho K b G0 H0 G H n s' r' → s' = setL s l vs → Q s' H) → gMany l vs s H Q
  | [], vs, ds, s, r, r', h, g, e, k => by
    cases ds with
    | nil =>
      cases g
      rw [setMany] at e
      cases e
      exact ⟨rfl, k s h rfl⟩
    | cons d ds => simp [setMany] at e
  | i :: is, vs, ds, s, r, r', h, g, e, k => by
    cases ds with
    | nil => simp [setMany] at e
    | cons d ds =>
      cases g with
      | cons hv g =>
        rw [setMany] at e
        exact ⟨_, _, rfl, many_bind (h.setSh hv) g e fun s' h' e' => k s' h' (by rw [e']; rfl)⟩
theorem setMany_len : ∀ {l : List Nat} {ds : List D} {r r' : List Ent}, setMany r l ds = some r' → ds.length = l.length
  | [], [], r, r', e => rfl
  | [], d :: ds, r, r', e => by simp [setMany] at e
  | i :: is, [], r, r', e => by simp [setMany] at e
  | i :: is, d :: ds, r, r', e => by
    rw [setMany] at e
    rw [List.length_cons, List.length_cons, setMany_len e]
theorem g_bind {t : Tg} {v : V} {d : D} {s : L2.St} {r r' : List Ent} {Q : L2.St → Hp → Prop} (h : Rho K b G0 H0 G H n s r) (hv : Rp K b G v d) (e : bindT t r d = some r') (k : ∀ s', Rho K b G0 H0 G H n s' r' → (∃ vs, s' = setL s t.slots vs) → Q s' H) : gOf K t v s H Q := by
  cases t with
  | one i =>
    cases e
    exact k _ (h.setSh hv) ⟨[v], rfl⟩
  | many l =>
    cases d with
    | tup ds =>
      obtain ⟨a, xs, rfl, hl, z, g⟩ := rp_tup_inv hv
      have e : setMany r l ds = some r' := e
      exact .inl ⟨a, xs, rfl, sqt_same h.ok.sub hl, by rw [g.length, setMany_len e], many_bind h g e fun s' h' e' => k s' h' ⟨xs, e'⟩⟩
    | list ds =>
      obtain ⟨a, xs, rfl, hl, z, g⟩ := rp_list_inv hv
      have e : setMany r l ds = some r' := e
      exact .inr ⟨a, xs, rfl, SqL.of (h.ok.sub _ _ hl), by rw [g.length, setMany_len e], many_bind h g e fun s' h' e' => k s' h' ⟨xs, e'⟩⟩
    | _ => cases e
  | nest i l =>
    cases d with
    | tup ds =>
      match ds, e, hv with
      | [d1, .tup es], e, hv =>
        obtain ⟨a, xs, rfl, hl, z, g⟩ := rp_tup_inv hv
        have e : setMany (r.set i (.sh d1)) l es = some r' := e
        cases g with
        | @cons v1 _ _ _ h1 g =>
          cases g with
          | cons h2 g =>
            cases g
            obtain ⟨a2, ys, rfl, hl2, z2, g2⟩ := rp_tup_inv h2
            refine ⟨a, _, rfl, sqt_same h.ok.sub hl, rfl, _, _, rfl, _, _, rfl, a2, ys, rfl, sqt_same h.ok.sub hl2, by rw [g2.length, setMany_len e], ?_⟩
            exact many_bind (h.setSh h1) g2 e fun s' h' e' => ⟨rfl, k s' h' ⟨v1 :: ys, e'⟩⟩
    | _ => cases e
end
/-! ### wiping -/
theorem wipe_set_in {i : Nat} {x : Option V} : ∀ {vs : List Nat} {s : L2.St}, i ∈ vs → wipe (s.set i x) vs = wipe s vs
  | v :: vs, s, h => by
    show (wipe (s.set i x) vs).set v none = (wipe s vs).set v none
    by_cases hi : i ∈ vs
    · rw [wipe_set_in hi]
    · have hv : i = v := by
        rcases List.mem_cons.mp h with z | z
        · exact z
        · exact absurd z hi
      subst hv
      have key : ∀ {ws : List Nat} {s : L2.St}, i ∉ ws → wipe (s.set i x) ws = (wipe s ws).set i x := by
        intro ws
        induction ws with
        | nil => intro s _; rfl
        | cons w ws ih =>
          intro s hn
          have h1 : i ≠ w := fun z => hn (by rw [z]; exact List.mem_cons_self)
          show (wipe (s.set i x) ws).set w none = ((wipe s ws).set w none).set i x
          rw [ih (fun z => hn (List.mem_cons_of_mem _ z)), List.set_comm _ _ h1]
      rw [key hi, List.set_set]
theorem wipe_setL {vs : List Nat} : ∀ {l : List Nat} {ws : List V} {s : L2.St}, (∀ i ∈ l, i ∈ vs) → wipe (setL s l ws) vs = wipe s vs
  | [], _, s, _ => rfl
  | _ :: _, [], s, _ => rfl
  | i :: is, w :: ws, s, h => by
    show wipe (setL (s.set i (some w)) is ws) vs = _
    rw [wipe_setL fun j hj => h j (List.mem_cons_of_mem _ hj), wipe_set_in (h i List.mem_cons_self)]
theorem wipe_wipe : ∀ {vs us : List Nat} {s : L2.St}, (∀ i ∈ us, i ∈ vs) → wipe (wipe s us) vs = wipe s vs
  | vs, [], s, _ => rfl
  | vs, u :: us, s, h => by
    show wipe ((wipe s us).set u none) vs = _
    rw [wipe_set_in (h u List.mem_cons_self), wipe_wipe fun i hi => h i (List.mem_cons_of_mem _ hi)]
section
variable {K : PySem.W.Frag} {b : Option Addr} {G0 H0 G H : Hp} {n : Nat}
theorem Rho.wipeL {s : L2.St} {r : List Ent} (h : Rho K b G0 H0 G H n s r) : ∀ vs, Rho K b G0 H0 G H n (L2.wipe s vs) (wipeR r vs)
  | [] => h
  | v :: vs => (Rho.wipeL h vs).wipe1
theorem wipeR_set {i : Nat} {e : Ent} : ∀ {vs : List Nat} {r : List Ent}, i ∉ vs → (wipeR r vs).set i e = wipeR (r.set i e) vs
  | [], r, _ => rfl
  | v :: vs, r, h => by
    show ((wipeR r vs).set v .no).set i e = (wipeR (r.set i e) vs).set v .no
    rw [List.set_comm _ _ (fun z => h (by rw [z]; exact List.mem_cons_self)), wipeR_set fun z => h (List.mem_cons_of_mem _ z)]
theorem setMany_wipe : ∀ {l : List Nat} {ds : List D} {r r' : List Ent}, l.Nodup → setMany r l ds = some r' → setMany (wipeR r l) l ds = some r'
  | [], [], r, r', _, e => e
  | [], d :: ds, r, r', _, e => by simp [setMany] at e
  | i :: is, [], r, r', _, e => by simp [setMany] at e
  | i :: is, d :: ds, r, r', nd, e => by
    obtain ⟨h1, h2⟩ := List.nodup_cons.mp nd
    rw [setMany] at e ⊢
    show setMany (((wipeR r is).set i .no).set i (.sh d)) is ds = some r'
    rw [List.set_set, wipeR_set h1]
    exact setMany_wipe h2 e
theorem bind_wipe {t : Tg} {d : D} {r r' : List Ent} (nd : t.slots.Nodup) (e : bindT t r d = some r') : bindT t (wipeR r t.slots) d = some r' := by
  cases t with
  | one i =>
    cases e
    show some (((r.set i .no)).set i (.sh d)) = _
    rw [List.set_set]
  | many l =>
    cases d with
    | tup ds => exact setMany_wipe nd e
    | list ds => exact setMany_wipe nd e
    | _ => cases e
  | nest i l =>
    cases d with
    | tup ds =>
      match ds, e with
      | [d1, .tup es], e =>
        obtain ⟨h1, h2⟩ := List.nodup_cons.mp nd
        show setMany (((wipeR r l).set i .no).set i (.sh d1)) l es = some r'
        rw [List.set_set, wipeR_set h1]
        exact setMany_wipe h2 e
    | _ => cases e
end
/-! ### what is new and one's own -/
def liftF (c : Cn) (W : WD) (te : TD) : TE := fun s H Q => ∃ b G0 H0 G n r Qd Ex, Rho c.K b G0 H0 G H n s r ∧ te r n Qd Ex ∧ XOk c W b G H s Ex ∧
  ∀ p xs ds G' H' n', Stp b G H G' H' n' → H p = none → G' p = none → H' p = some (.lst xs) → xs.length ≤ sizeLine → Rps c.K b G' xs ds → Qd (.list ds) n' → Q (.ref p) H'
theorem stp_share {b : Option Addr} {G H G' H' : Hp} {n' : Nat} (s : Stp b G H G' H' n') {p : Addr} {o : HO} (h1 : H p = none) (h2 : G' p = none) (h3 : H' p = some o) : Stp b G H (upd G' p o) H' n' := by
  refine ⟨s.gg.trans (same_upd h2), fun a u e => ?_, s.kp, fun a u e => ?_, s.bx⟩
  · by_cases z : a = p
    · subst z
      rw [upd_same] at e
      cases e
      exact h3
    · rw [upd_ne z] at e
      exact s.gh a u e
  · by_cases z : a = p
    · subst z
      exact .inr h1
    · rw [upd_ne z] at e
      exact s.nw a u e
theorem lift_of_F {c : Cn} {W : WD} {te : TD} {s : L2.St} {H : Hp} {Q : VK} (h : lift c W te s H Q) : liftF c W te s H Q := by
  obtain ⟨b, G0, H0, G, n, r, Qd, Ex, h, t, x, k⟩ := h
  refine ⟨b, G0, H0, G, n, r, Qd, Ex, h, t, x, fun p xs ds G' H' n' st h1 h2 h3 z g q => ?_⟩
  exact k _ _ H' n' _ (stp_share st h1 h2 h3) (.list upd_same z (g.mono (same_upd h2))) q
theorem de_of_F {X : Cx} {W : WD} {e : Expr} {te : TD} (h : PE X e (liftF (cn X) W te)) : PE X e (lift (cn X) W te) := pe_imp h fun _ _ _ q => lift_of_F q
abbrev WF : WD := fun _ _ _ _ => False
theorem xok_F {c : Cn} {b : Option Addr} {G H : Hp} {s : L2.St} : XOk c WF b G H s noX := fun _ _ _ _ _ _ _ _ z => z.elim
section
variable {X : Cx} {W : WD} {T : Tab}
/-- the heap changed at one's own place alone -/
theorem stp_at {b : Option Addr} {G H G' H' : Hp} {n' : Nat} (s : Stp b G H G' H' n') {p : Addr} {o : HO} (h1 : H p = none) (h2 : G' p = none) (hb : some p ≠ b) : Stp b G H G' (upd H' p o) n' := by
  refine ⟨s.gg, fun a u e => ?_, fun a u nb e => ?_, s.nw, fun q e => ?_⟩
  · rw [upd_ne (ne_of_none e h2)]
    exact s.gh a u e
  · rw [upd_ne (ne_of_none e h1)]
    exact s.kp a u nb e
  · obtain ⟨x, y, z, e1, e2⟩ := s.bx q e
    have nq : q ≠ p := fun z => hb (by rw [← z]; exact e.symm)
    exact ⟨x, y, z, by rw [upd_ne nq]; exact e1, e2⟩
theorem comp_read {is : ISr} {t : Tg} {ic ie : IE} {s : L2.St} {H : Hp} {Q : VK} (nd : t.slots.Nodup) (hq : liftF (cn X) W (wE T (.comp is t ic ie)) s H Q) :
    tLc (liftI (cn X) W (wI T is)) (gOf X.K t) (liftT (cn X) WF (fun r n Q E => wE T ic r n (tru Q) E)) (lift (cn X) WF (wE T ie)) t.slots s H Q := by
  obtain ⟨b, G0, H0, G, n, r, Qd, Ex, h, t0, x, k⟩ := hq
  rw [wE] at t0
  refine ⟨b, G0, H0, G, n, r, _, Ex, h, t0, x, fun J G1 H1 n1 ds s1 wk q1 p np => ?_⟩
  have h1 := h.step s1
  have hb : some p ≠ b := fun z => by
    obtain ⟨_, bx⟩ := h1.ok.box p z.symm
    exact bx.some np
  have gp : G1 p = none := h1.ok.sub.free np
  -- the state of the turns
  refine ⟨fun i m Hc => m = ds.length - i ∧ i ≤ ds.length ∧ ∃ Gc nc acc vacc, Stp b G1 H1 Gc Hc nc ∧ Gc p = none ∧ Hc p = some (.lst vacc) ∧ vacc.length ≤ i ∧ Rps X.K b Gc vacc acc ∧
    compL (fun d m k => ofO (bindT t r d) fun r' => wE T ic r' m (tru fun z m1 => if z = true then wE T ie r' m1 (fun y m2 => k (some y) m2) noX else k none m1) noX) (ds.drop i) acc nc fun xs n2 => Qd (.list xs) n2, ?_, ?_⟩
  · exact ⟨_, rfl, Nat.zero_le _, G1, n1, [], [], Stp.own h1.ok np, gp, upd_same, Nat.zero_le _, .nil, by rw [List.drop_zero]; exact q1⟩
  · rintro i m Hc ⟨rfl, hi, Gc, nc, acc, vacc, sc, gc, hc, hv, g, q⟩
    have okc : Ok b Gc Hc nc := h1.ok.step sc
    by_cases hlt : i < ds.length
    · refine .inr ⟨wk.go i Gc Hc sc.gg sc.gh hlt, fun H' => i + 1 ≤ ds.length ∧ ∃ Gc nc acc vacc, Stp b G1 H1 Gc H' nc ∧ Gc p = none ∧ H' p = some (.lst vacc) ∧ vacc.length ≤ i + 1 ∧ Rps X.K b Gc vacc acc ∧
        compL (fun d m k => ofO (bindT t r d) fun r' => wE T ic r' m (tru fun z m1 => if z = true then wE T ie r' m1 (fun y m2 => k (some y) m2) noX else k none m1) noX) (ds.drop (i + 1)) acc nc fun xs n2 => Qd (.list xs) n2,
        fun H' w => ⟨ds.length - (i + 1), by omega, rfl, w⟩, fun v H' y => ?_⟩
      obtain ⟨d, G2, ed, s2, rv⟩ := wk.yld i nc Gc Hc v H' sc.gg okc y hlt
      have s12 := sc.trans s2
      have h2 := h1.step s12
      have edr : ds.drop i = d :: ds.drop (i + 1) := by
        rw [List.drop_eq_getElem_cons hlt]
        congr 1
        have e2 : ds[i]? = some ds[i] := List.getElem?_eq_getElem hlt
        rw [ed] at e2
        exact (Option.some.inj e2).symm
      rw [edr, compL] at q
      obtain ⟨r', er, q⟩ := ofO_iff q
      have keep : ∀ {G3 H3 : Hp} {n3 : Nat}, Stp b Gc Hc G3 H3 n3 → H3 p = some (.lst vacc) ∧ G3 p = none := fun {G3 H3 n3} s3 => ⟨s3.kp _ _ hb hc, by
        cases qq : G3 p with
        | none => rfl
        | some o =>
          rcases s3.nw p o qq with z | z
          · rw [gc] at z; cases z
          · rw [hc] at z; cases z⟩
      refine g_bind (h2.wipeL t.slots) rv (bind_wipe nd er) fun s' h' ⟨ws, es⟩ => ⟨?_, ?_⟩
      · rw [es, wipe_setL fun i hi => hi, wipe_wipe fun i hi => hi]
      refine ⟨b, G0, H0, G2, nc, r', _, noX, h', q, xok_F, fun G3 H3 n3 z s3 q3 => ?_⟩
      have h3 := h'.step s3
      cases z with
      | false =>
        rw [if_neg (by decide)] at q3
        refine iteF ?_
        have s23 := s2.trans s3
        obtain ⟨k1, k2⟩ := keep s23
        exact ⟨hlt, G3, n3, acc, vacc, sc.trans s23, k2, k1, by omega, g.mono s23.gg, q3⟩
      | true =>
        rw [if_pos rfl] at q3
        refine iteT ?_
        refine lift_bind h3 xok_F q3 fun v4 G4 H4 n4 d4 h4 x4 s4 r4 q4 => ?_
        have s24 := (s2.trans s3).trans s4
        obtain ⟨k1, k2⟩ := keep s24
        refine ⟨vacc, k1, by have := wk.small; omega, hlt, G4, n4, acc ++ [d4], vacc ++ [v4], stp_at (sc.trans s24) np k2 hb, k2, upd_same, by rw [List.length_append]; simp; omega, (g.mono s24.gg).append (.cons r4 .nil), q4⟩
    · have ei : i = ds.length := by omega
      subst ei
      rw [List.drop_length, compL] at q
      refine .inl ⟨wk.stop _ Gc Hc sc.gg sc.gh (Nat.le_refl _), ?_⟩
      have hp : H p = none := by
        cases qq : H p with
        | none => rfl
        | some o => rw [s1.kp p o hb qq] at np; cases np
      exact k p vacc acc Gc Hc nc (s1.trans sc) hp gc hc (by have := wk.small; omega) g q
end
end Dl

set_option Elab.async false
set_option linter.all false
set_option maxRecDepth 100000
set_option maxHeartbeats 4000000
/-! Comprehensions with two walks. -/
namespace Dl
open PySem PySem.Spec PyProof.Rows L2
section
variable {X : Cx} {W : WD} {T : Tab}
theorem keep_own {b : Option Addr} {Gc Hc G3 H3 : Hp} {n3 : Nat} {p : Addr} {o : HO} (hb : some p ≠ b) (hc : Hc p = some o) (gc : Gc p = none) (s3 : Stp b Gc Hc G3 H3 n3) : H3 p = some o ∧ G3 p = none := by
  refine ⟨s3.kp _ _ hb hc, ?_⟩
  cases qq : G3 p with
  | none => rfl
  | some u =>
    rcases s3.nw p u qq with z | z
    · rw [gc] at z; cases z
    · rw [hc] at z; cases z
theorem drop_at {ds : List D} {i : Nat} {d : D} (h : i < ds.length) (e : ds[i]? = some d) : ds.drop i = d :: ds.drop (i + 1) := by
  rw [List.drop_eq_getElem_cons h]
  congr 1
  have e2 : ds[i]? = some ds[i] := List.getElem?_eq_getElem h
  rw [e] at e2
  exact (Option.some.inj e2).symm
/-- the same binding at a later time -/
def Later (K : PySem.W.Frag) (b : Option Addr) (G0 H0 G : Hp) (s s' : L2.St) (r r' : List Ent) : Prop := ∀ G' H' n', Same G G' → Rho K b G0 H0 G' H' n' s r → Rho K b G0 H0 G' H' n' s' r'
theorem many_later {K : PySem.W.Frag} {b : Option Addr} {G0 H0 G : Hp} : ∀ {l : List Nat} {vs : List V} {ds : List D} {s : L2.St} {r r' : List Ent}, Rps K b G vs ds → setMany r l ds = some r' → Later K b G0 H0 G s (setL s l vs) r r'
  | [], vs, ds, s, r, r', g, e => by
    cases ds with
    | nil =>
      rw [setMany] at e
      cases e
      exact fun G' H' n' _ h => h
    | cons d ds => simp [setMany] at e
  | i :: is, vs, ds, s, r, r', g, e => by
    cases ds with
    | nil => simp [setMany] at e
    | cons d ds =>
      cases g with
      | cons hv g =>
        rw [setMany] at e
        exact fun G' H' n' sm h => many_later g e G' H' n' sm (h.setSh (hv.mono sm))
theorem many_bind2 {K : PySem.W.Frag} {b : Option Addr} {G0 H0 G H : Hp} {n : Nat} {Q : L2.St → Hp → Prop} {l : List Nat} {vs : List V} {ds : List D} {s : L2.St} {r r' : List Ent} (h : Rho K b G0 H0 G H n s r) (g : Rps K b G vs ds) (e : setMany r l ds = some r')
    (k : Rho K b G0 H0 G H n (setL s l vs) r' → Later K b G0 H0 G s (setL s l vs) r r' → Q (setL s l vs) H) : gMany l vs s H Q :=
  many_bind h g e fun s' h' e' => by
    subst e'
    exact k h' (many_later g e)
theorem g_bind2 {K : PySem.W.Frag} {b : Option Addr} {G0 H0 G H : Hp} {n : Nat} {t : Tg} {v : V} {d : D} {s : L2.St} {r r' : List Ent} {Q : L2.St → Hp → Prop} (h : Rho K b G0 H0 G H n s r) (hv : Rp K b G v d) (e : bindT t r d = some r')
    (k : ∀ s', Rho K b G0 H0 G H n s' r' → (∃ vs, s' = setL s t.slots vs) → Later K b G0 H0 G s s' r r' → Q s' H) : gOf K t v s H Q := by
  cases t with
  | one i =>
    cases e
    exact k _ (h.setSh hv) ⟨[v], rfl⟩ fun G' H' n' sm h => h.setSh (hv.mono sm)
  | many l =>
    cases d with
    | tup ds =>
      obtain ⟨a, xs, rfl, hl, z, g⟩ := rp_tup_inv hv
      have e : setMany r l ds = some r' := e
      exact .inl ⟨a, xs, rfl, sqt_same h.ok.sub hl, by rw [g.length, setMany_len e], many_bind2 h g e fun h' lt => k _ h' ⟨xs, rfl⟩ lt⟩
    | list ds =>
      obtain ⟨a, xs, rfl, hl, z, g⟩ := rp_list_inv hv
      have e : setMany r l ds = some r' := e
      exact .inr ⟨a, xs, rfl, SqL.of (h.ok.sub _ _ hl), by rw [g.length, setMany_len e], many_bind2 h g e fun h' lt => k _ h' ⟨xs, rfl⟩ lt⟩
    | _ => cases e
  | nest i l =>
    cases d with
    | tup ds =>
      match ds, e, hv with
      | [d1, .tup es], e, hv =>
        obtain ⟨a, xs, rfl, hl, z, g⟩ := rp_tup_inv hv
        have e : setMany (r.set i (.sh d1)) l es = some r' := e
        cases g with
        | cons h1 g =>
          cases g with
          | cons h2 g =>
            cases g
            obtain ⟨a2, ys, rfl, hl2, z2, g2⟩ := rp_tup_inv h2
            refine ⟨a, _, rfl, sqt_same h.ok.sub hl, rfl, _, _, rfl, _, _, rfl, a2, ys, rfl, sqt_same h.ok.sub hl2, by rw [g2.length, setMany_len e], ?_⟩
            exact many_bind2 (h.setSh h1) g2 e fun h' lt => ⟨rfl, k _ h' ⟨_ :: ys, rfl⟩ fun G' H' n' sm hh => lt G' H' n' sm (hh.setSh (h1.mono sm))⟩
    | _ => cases e
theorem comp2_read {is is2 : ISr} {t t2 : Tg} {ic ie : IE} {s : L2.St} {H : Hp} {Q : VK} (hq : liftF (cn X) W (wE T (.comp2 is t is2 t2 ic ie)) s H Q) :
    tLc2 (liftI (cn X) W (wI T is)) (gOf X.K t) tYes (liftI (cn X) WF (wI T is2)) (gOf X.K t2) (liftT (cn X) WF (fun r n Q E => wE T ic r n (tru Q) E)) (lift (cn X) WF (wE T ie)) (t.slots ++ t2.slots) t2.slots s H Q := by
  obtain ⟨b, G0, H0, G, n, r, Qd, Ex, h, t0, x, k⟩ := hq
  rw [wE] at t0
  refine ⟨b, G0, H0, G, n, r, _, Ex, h, t0, x, fun J G1 H1 n1 ds s1 wk q1 p np => ?_⟩
  have h1 := h.step s1
  have hb : some p ≠ b := fun z => by
    obtain ⟨_, bx⟩ := h1.ok.box p z.symm
    exact bx.some np
  have gp : G1 p = none := h1.ok.sub.free np
  have hp : H p = none := by
    cases qq : H p with
    | none => rfl
    | some o => rw [s1.kp p o hb qq] at np; cases np
  generalize eF : (fun (d : D) (m : Nat) (k : List Ent → List D → Nat → Prop) => ofO (bindT t (wipeR r (t.slots ++ t2.slots)) d) fun r' => wI T is2 r' m (fun ds2 m1 => k r' ds2 m1) noX) = F at q1
  generalize eh : (fun (r' : List Ent) (d : D) (m : Nat) (k : Option D → Nat → Prop) => ofO (bindT t2 (wipeR r' t2.slots) d) fun r2 => wE T ic r2 m (tru fun z m1 => if z = true then wE T ie r2 m1 (fun y m2 => k (some y) m2) noX else k none m1) noX) = h' at q1
  refine ⟨fun i m Hc => m = ds.length - i ∧ i ≤ ds.length ∧ ∃ Gc nc acc vacc, Stp b G1 H1 Gc Hc nc ∧ Gc p = none ∧ Hc p = some (.lst vacc) ∧ vacc.length ≤ sizeLine ∧ Rps X.K b Gc vacc acc ∧ comp2L F h' (ds.drop i) acc nc fun xs n2 => Qd (.list xs) n2, ?_, ?_⟩
  · exact ⟨_, rfl, Nat.zero_le _, G1, n1, [], [], Stp.own h1.ok np, gp, upd_same, Nat.zero_le _, .nil, by rw [List.drop_zero]; exact q1⟩
  rintro i m Hc ⟨rfl, hi, Gc, nc, acc, vacc, sc, gc, hc, hv, g, q⟩
  have okc : Ok b Gc Hc nc := h1.ok.step sc
  by_cases hlt : i < ds.length
  · refine .inr ⟨wk.go i Gc Hc sc.gg sc.gh hlt, fun H' => i + 1 ≤ ds.length ∧ ∃ Gc nc acc vacc, Stp b G1 H1 Gc H' nc ∧ Gc p = none ∧ H' p = some (.lst vacc) ∧ vacc.length ≤ sizeLine ∧ Rps X.K b Gc vacc acc ∧ comp2L F h' (ds.drop (i + 1)) acc nc fun xs n2 => Qd (.list xs) n2,
      fun H' w => ⟨ds.length - (i + 1), by omega, rfl, w⟩, fun v H' y => ?_⟩
    obtain ⟨d, G2, ed, s2, rv⟩ := wk.yld i nc Gc Hc v H' sc.gg okc y hlt
    have s12 := sc.trans s2
    have h2 := h1.step s12
    rw [drop_at hlt ed, comp2L, ← eF] at q
    obtain ⟨r', er, q⟩ := ofO_iff q
    rw [eF] at q
    refine g_bind2 (h2.wipeL (t.slots ++ t2.slots)) rv er fun s' hs' ⟨ws, es⟩ lt => ⟨?_, ?_⟩
    · rw [es, wipe_setL fun i hi => List.mem_append_left _ hi, wipe_wipe fun i hi => hi]
    unfold tYes
    dsimp only
    rw [if_pos rfl]
    refine ⟨b, G0, H0, G2, nc, r', _, noX, hs', q, xok_F, fun J1 G3 H3 n3 ds2 s3 wk2 q3 => ?_⟩
    have s23 := s2.trans s3
    obtain ⟨k3, g3⟩ := keep_own hb hc gc s23
    have hs3 := hs'.step s3
    have s13 := sc.trans s23
    refine ⟨fun j m Hd => m = ds2.length - j ∧ j ≤ ds2.length ∧ ∃ Gd nd acc vacc, Same G3 Gd ∧ Stp b G1 H1 Gd Hd nd ∧ Gd p = none ∧ Hd p = some (.lst vacc) ∧ vacc.length ≤ sizeLine ∧ Rps X.K b Gd vacc acc ∧ compB (h' r') (ds2.drop j) acc nd fun acc2 n2 => comp2L F h' (ds.drop (i + 1)) acc2 n2 fun xs n2 => Qd (.list xs) n2, ?_, ?_⟩
    · exact ⟨_, rfl, Nat.zero_le _, G3, n3, acc, vacc, Same.refl _, s13, g3, k3, hv, g.mono s23.gg, by rw [List.drop_zero]; exact q3⟩
    rintro j m Hd ⟨rfl, hj, Gd, nd, acc, vacc, sd, sd1, gd, hd, hvd, gg, qd⟩
    have hrd : Rho X.K b G0 H0 Gd Hd nd s' r' := lt Gd Hd nd (s3.gg.trans sd) ((h1.step sd1).wipeL _)
    by_cases hlj : j < ds2.length
    · refine .inr ⟨wk2.go j Gd Hd sd hrd.ok.sub hlj, fun H' => j + 1 ≤ ds2.length ∧ ∃ Gd nd acc vacc, Same G3 Gd ∧ Stp b G1 H1 Gd H' nd ∧ Gd p = none ∧ H' p = some (.lst vacc) ∧ vacc.length ≤ sizeLine ∧ Rps X.K b Gd vacc acc ∧ compB (h' r') (ds2.drop (j + 1)) acc nd fun acc2 n2 => comp2L F h' (ds.drop (i + 1)) acc2 n2 fun xs n2 => Qd (.list xs) n2,
        fun H' w => ⟨ds2.length - (j + 1), by omega, rfl, w⟩, fun v2 H4 y2 => ?_⟩
      obtain ⟨d2, G4, ed2, s4, rv2⟩ := wk2.yld j nd Gd Hd v2 H4 sd hrd.ok y2 hlj
      have hr4 := hrd.step s4
      rw [drop_at hlj ed2, compB, ← eh] at qd
      obtain ⟨r2, er2, qd⟩ := ofO_iff qd
      rw [eh] at qd
      refine g_bind (hr4.wipeL t2.slots) rv2 er2 fun s2' hs2' ⟨ws2, es2⟩ => ⟨?_, ?_⟩
      · rw [es2, wipe_setL fun i hi => hi, wipe_wipe fun i hi => hi]
      refine ⟨b, G0, H0, G4, nd, r2, _, noX, hs2', qd, xok_F, fun G5 H5 n5 z s5 q5 => ?_⟩
      have s45 := s4.trans s5
      cases z with
      | false =>
        rw [if_neg (by decide)] at q5
        refine iteF ?_
        obtain ⟨k1, k2⟩ := keep_own hb hd gd s45
        exact ⟨hlj, G5, n5, acc, vacc, sd.trans s45.gg, sd1.trans s45, k2, k1, hvd, gg.mono s45.gg, q5⟩
      | true =>
        rw [if_pos rfl] at q5
        refine iteT ?_
        refine lift_bind (hs2'.step s5) xok_F q5 fun v6 G6 H6 n6 d6 h6 x6 s6 r6 q6 => ?_
        have s46 := s45.trans s6
        obtain ⟨k1, k2⟩ := keep_own hb hd gd s46
        obtain ⟨ql, q6⟩ := q6
        have e1 := gg.length
        refine ⟨vacc, k1, by omega, hlj, G6, n6, acc ++ [d6], vacc ++ [v6], sd.trans s46.gg, stp_at (sd1.trans s46) np k2 hb, k2, upd_same, by rw [List.length_append, e1]; exact ql, (gg.mono s46.gg).append (.cons r6 .nil), q6⟩
    · have ej : j = ds2.length := by omega
      subst ej
      rw [List.drop_length, compB] at qd
      exact .inl ⟨wk2.stop _ Gd Hd sd hrd.ok.sub (Nat.le_refl _), hlt, Gd, nd, acc, vacc, sd1, gd, hd, hvd, gg, qd⟩
  · have ei : i = ds.length := by omega
    subst ei
    rw [List.drop_length, comp2L] at q
    exact .inl ⟨wk.stop _ Gc Hc sc.gg sc.gh (Nat.le_refl _), k p vacc acc Gc Hc nc (s1.trans sc) hp gc hc hv g q⟩
end
end Dl

set_option Elab.async false
set_option linter.all false
set_option maxRecDepth 100000
set_option maxHeartbeats 4000000
/-! Statements. -/
namespace Dl
open PySem PySem.Spec PyProof.Rows L2
mutual
inductive IS where
  | bad
  | pass
  | brk
  | cont
  | ret (e : IE)
  | retN
  | ex (e : IE)
  | set (i : Nat) (e : IE)
  | setF (i : Nat) (e : IE)
  | unp (l : List Nat) (e : IE)
  | par (l : List Nat) (a : IAs)
  | ife (c : IE) (a e : ISs)
  | forr (s : ISr) (t : Tg) (a : ISs)
  | whl (c : IE) (a : ISs)
  | app (i : Nat) (e : IE)
  | frz (l : List Nat)
  | inc (i : Nat) (e : IE)
  | parF (l : List Nat) (fl : List Bool) (a : IAs)
  | stf (i : Nat) (fs : List Str) (a : IAs)
inductive ISs where
  | nil
  | cons (s : IS) (r : ISs)
end
structure EndD where
  nx : List Ent → Nat → Prop
  rt : D → Nat → Prop
  bk : List Ent → Nat → Prop
  ct : List Ent → Nat → Prop
  ex : Exn → List Ent → Nat → Prop
def freeze (r : List Ent) : List Nat → List Ent
  | [] => r
  | i :: is => freeze (match r[i]? with
    | some (.ow d) => r.set i (.sh d)
    | _ => r) is
def forL (f : D → List Ent → Nat → (List Ent → Nat → Prop) → Prop) : List D → List Ent → Nat → (List Ent → Nat → Prop) → Prop
  | [], r, n, Q => Q r n
  | d :: ds, r, n, Q => f d r n fun r' n' => forL f ds r' n' Q
def owD (r : List Ent) (i : Nat) : Option (List D) := match r[i]? with
  | some (.ow (.list ys)) => some ys
  | _ => none
/-- one's own object, a field put -/
def putD (f : Str) (d : D) : List (Str × D) → List (Str × D)
  | [] => [(f, d)]
  | (g, x) :: r => if g = f then (f, d) :: r else (g, x) :: putD f d r
def putsD : List Str → List D → List (Str × D) → Option (List (Str × D))
  | [], [], o => some o
  | f :: fs, d :: ds, o => putsD fs ds (putD f d o)
  | _, _, _ => none
def owO (r : List Ent) (i : Nat) : Option (Str × List (Str × D)) := match r[i]? with
  | some (.ow (.obj c ys)) => some (c, ys)
  | _ => none
def setManyF : List Ent → List Nat → List Bool → List D → Option (List Ent)
  | r, [], [], [] => some r
  | r, i :: is, f :: fl, d :: ds => setManyF (r.set i (if f then .ow d else .sh d)) is fl ds
  | _, _, _, _ => none
def EndD.exAt (E : EndD) (r : List Ent) : QX := fun x n => E.ex x r n
mutual
def wS (T : Tab) : IS → List Ent → Nat → EndD → Prop
  | .bad, _, _, _ => False
  | .pass, r, n, E => E.nx r n
  | .brk, r, n, E => E.bk r n
  | .cont, r, n, E => E.ct r n
  | .ret e, r, n, E => wE T e r n E.rt (E.exAt r)
  | .retN, _, n, E => E.rt .non n
  | .ex e, r, n, E => wE T e r n (fun _ n1 => E.nx r n1) (E.exAt r)
  | .set i e, r, n, E => wE T e r n (fun d n1 => E.nx (r.set i (.sh d)) n1) (E.exAt r)
  | .setF i e, r, n, E => wE T e r n (fun d n1 => E.nx (r.set i (.ow d)) n1) (E.exAt r)
  | .unp l e, r, n, E => wE T e r n (fun d n1 => match d with
    | .tup ds => ofO (setMany r l ds) fun r' => E.nx r' n1
    | .list ds => ofO (setMany r l ds) fun r' => E.nx r' n1
    | _ => False) (E.exAt r)
  | .par l a, r, n, E => wA T a r n (fun ds n1 => ofO (setMany r l ds) fun r' => E.nx r' n1) (E.exAt r)
  | .ife c a e, r, n, E => wE T c r n (tru fun z n1 => if z = true then wB T a r n1 E else wB T e r n1 E) (E.exAt r)
  | .forr s t a, r, n, E => wI T s r n (fun ds n1 => forL (fun d r n k => ofO (bindT t r d) fun r' => wB T a r' n ⟨k, E.rt, E.nx, k, E.ex⟩) ds r n1 E.nx) (E.exAt r)
  | .whl c a, r, n, E => ∃ V : Nat → List Ent → Nat → Prop, (∃ m, V m r n) ∧ ∀ m r n, V m r n → wE T c r n (tru fun z n1 => if z = true then wB T a r n1 ⟨fun r' n' => ∃ m', m' < m ∧ V m' r' n', E.rt, E.nx, fun r' n' => ∃ m', m' < m ∧ V m' r' n', E.ex⟩ else E.nx r n1) (E.exAt r)
  | .app i e, r, n, E => ofO (owD r i) fun ys => wE T e r n (fun d n1 => ys.length < sizeLine ∧ E.nx (r.set i (.ow (.list (ys ++ [d])))) n1) (E.exAt r)
  | .frz l, r, n, E => E.nx (freeze r l) n
  | .parF l fl a, r, n, E => wA T a r n (fun ds n1 => ofO (setManyF r l fl ds) fun r' => E.nx r' n1) (E.exAt r)
  | .inc i e, r, n, E => match r[i]? with
    | some (.sh (.int x)) => wE T e r n (fun d n1 => match d with
      | .int y => E.nx (r.set i (.sh (.int (x + y)))) n1
      | _ => False) (E.exAt r)
    | _ => False
  | .stf i fs a, r, n, E => ofO (owO r i) fun o => (∀ f ∈ fs, T.fl o.1 f = true) ∧ o.2.length + fs.length ≤ 900 ∧ wA T a r n (fun ds n1 => ofO (putsD fs ds o.2) fun o' => E.nx (r.set i (.ow (.obj o.1 o'))) n1) (E.exAt r)
def wB (T : Tab) : ISs → List Ent → Nat → EndD → Prop
  | .nil, r, n, E => E.nx r n
  | .cons s rest, r, n, E => wS T s r n ⟨fun r' n' => wB T rest r' n' E, E.rt, E.bk, E.ct, E.ex⟩
end
abbrev WS := List Ent → Nat → EndD → Prop
structure EOk (c : Cn) (W : WD) (b : Option Addr) (G0 H0 : Hp) (E : EndD) (N : Ends) : Prop where
  nx : ∀ s G H n r, Rho c.K b G0 H0 G H n s r → E.nx r n → N.nx s H
  rt : ∀ v G H n d, Stp b G0 H0 G H n → Rp c.K b G v d → E.rt d n → N.rt v H
  bk : ∀ s G H n r, Rho c.K b G0 H0 G H n s r → E.bk r n → N.bk s H
  ct : ∀ s G H n r, Rho c.K b G0 H0 G H n s r → E.ct r n → N.ct s H
  ex : ∀ cls d s G H n r x, Rho c.K b G0 H0 G H n s r → Rx c b G H cls d x → E.ex x r n → W cls d s H
def liftS (c : Cn) (W : WD) (te : WS) : TS := fun N s H => ∃ b G0 H0 G n r E, Rho c.K b G0 H0 G H n s r ∧ te r n E ∧ EOk c W b G0 H0 E N
theorem ps_imp {X : Cx} {e : Stmt} {t t' : TS} (h : PS X e t) (i : ∀ D s H, t' D s H → t D s H) : PS X e t' := ⟨fun pins s a H D I q => h.run pins s a H D I (i _ _ _ q)⟩
theorem pss_imp {X : Cx} {e : List Stmt} {t t' : TS} (h : PSs X e t) (i : ∀ D s H, t' D s H → t D s H) : PSs X e t' := ⟨fun pins s a H D I q => h.run pins s a H D I (i _ _ _ q)⟩
theorem EOk.xok {c : Cn} {W : WD} {b : Option Addr} {G0 H0 G H : Hp} {n : Nat} {s : L2.St} {r : List Ent} {E : EndD} {N : Ends} (k : EOk c W b G0 H0 E N) (h : Rho c.K b G0 H0 G H n s r) : XOk c W b G H s (E.exAt r) :=
  fun cls d G' H' n' x st rx ex => k.ex cls d s G' H' n' r x (h.step st) rx ex
section
variable {X : Cx} {W : WD} {T : Tab}
theorem ds_bad {st : Stmt} : PS X st (liftS (cn X) W (wS T .bad)) := ⟨fun pins s a H D I ⟨b, G0, H0, G, n, r, E, h, t, k⟩ => by
  rw [wS] at t
  exact t.elim⟩
theorem ds_pass {pos : Pos} : PS X (.Pass pos) (liftS (cn X) W (wS T .pass)) := ps_imp ps_pass fun N s H ⟨b, G0, H0, G, n, r, E, h, t, k⟩ => by
  rw [wS] at t
  exact k.nx s G H n r h t
theorem ds_brk {pos : Pos} : PS X (.Break pos) (liftS (cn X) W (wS T .brk)) := ps_imp ps_break fun N s H ⟨b, G0, H0, G, n, r, E, h, t, k⟩ => by
  rw [wS] at t
  exact k.bk s G H n r h t
theorem ds_cont {pos : Pos} : PS X (.Continue pos) (liftS (cn X) W (wS T .cont)) := ps_imp ps_continue fun N s H ⟨b, G0, H0, G, n, r, E, h, t, k⟩ => by
  rw [wS] at t
  exact k.ct s G H n r h t
theorem ds_ret {e : Expr} {ie : IE} {pos : Pos} (he : PE X e (lift (cn X) W (wE T ie))) : PS X (.Return (some e) pos) (liftS (cn X) W (wS T (.ret ie))) := ps_imp (ps_ret he) fun N s H ⟨b, G0, H0, G, n, r, E, h, t, k⟩ => by
  rw [wS] at t
  exact lift_bind h (k.xok h) t fun v G1 H1 n1 d h1 x1 s1 r1 q1 => k.rt v G1 H1 n1 d h1.st r1 q1
theorem ds_retN {pos : Pos} : PS X (.Return none pos) (liftS (cn X) W (wS T .retN)) := ps_imp ps_retN fun N s H ⟨b, G0, H0, G, n, r, E, h, t, k⟩ => by
  rw [wS] at t
  exact k.rt .non G H n .non h.st .non t
theorem ds_ex {e : Expr} {ie : IE} {pos : Pos} (he : PE X e (lift (cn X) W (wE T ie))) (hs : swapsWith e none pos.line X.env = pure false) : PS X (.Expr e pos) (liftS (cn X) W (wS T (.ex ie))) := ps_imp (ps_expr he hs) fun N s H ⟨b, G0, H0, G, n, r, E, h, t, k⟩ => by
  rw [wS] at t
  exact lift_bind h (k.xok h) t fun v G1 H1 n1 d h1 x1 s1 r1 q1 => k.nx s G1 H1 n1 r h1 q1
theorem set_read {te : TE} {i : Nat} {ie : IE} {N : Ends} {s : L2.St} {H : Hp} (ht : ∀ Q, lift (cn X) W (wE T ie) s H Q → te s H Q) (h : liftS (cn X) W (wS T (.set i ie)) N s H) : tAsg te (gName i) N s H := by
  obtain ⟨b, G0, H0, G, n, r, E, h, t, k⟩ := h
  rw [wS] at t
  exact ht _ (lift_bind h (k.xok h) t fun v G1 H1 n1 d h1 x1 s1 r1 q1 => k.nx _ G1 H1 n1 _ (h1.setSh r1) q1)
theorem ds_set {i : Nat} {x : Str} {e : Expr} {ie : IE} {p pos : Pos} (hN : X.N.Nodup) (hi : X.N[i]? = some x) (hx : Loc X.env.scope x) (he : PE X e (lift (cn X) W (wE T ie))) (hs : swapsWith e (some (.Name x p)) pos.line X.env = pure false) (hf : X.fn x = true ∨ X.env.scope.names.lookup x = some .local) :
    PS X (.Assign [.Name x p] e pos) (liftS (cn X) W (wS T (.set i ie))) := ps_imp (ps_set hN hi hx he hs hf) fun N s H h => set_read (fun Q q => q) h
/-- a name gets a thing of one's own -/
theorem Rho.setOw {K : PySem.W.Frag} {b : Option Addr} {G0 H0 G H : Hp} {n : Nat} {s : L2.St} {r : List Ent} (h : Rho K b G0 H0 G H n s r) {i : Nat} {p : Addr} {xs : List V} {ds : List D} (h1 : G p = none) (h2 : H0 p = none) (h3 : some p ≠ b) (h4 : H p = some (.lst xs)) (h5 : xs.length ≤ sizeLine) (h6 : Rps K b G xs ds)
    (h7 : ∀ j d, j ≠ i → r[j]? = some (.ow d) → s[j]? ≠ some (some (.ref p))) : Rho K b G0 H0 G H n (s.set i (some (.ref p))) (r.set i (.ow (.list ds))) := by
  refine ⟨h.ok, h.st, by rw [List.length_set, List.length_set]; exact h.len, fun j x q => ?_, fun j k q d1 d2 q1 q2 q3 q4 => ?_⟩
  · by_cases hj : i = j
    · subst hj
      have hl : i < r.length := by
        have := (List.getElem?_eq_some_iff.mp q).1
        simpa using this
      rw [List.getElem?_set_self hl] at q
      cases q
      rw [List.getElem?_set_self (by rw [← h.len]; exact hl)]
      exact ⟨p, rfl, h1, h2, h3, .inl ⟨xs, ds, rfl, h4, h5, h6⟩⟩
    · rw [List.getElem?_set_ne hj] at q
      rw [List.getElem?_set_ne hj]
      exact h.ent j x q
  · by_cases e1 : i = j
    · by_cases e2 : i = k
      · rw [← e1, ← e2]
      · subst e1
        have hl : i < s.length := by
          have := (List.getElem?_eq_some_iff.mp q3).1
          simpa using this
        rw [List.getElem?_set_self hl] at q3
        rw [List.getElem?_set_ne e2] at q2 q4
        have eq : q = p := by cases q3; rfl
        subst eq
        exact absurd q4 (h7 k d2 (Ne.symm e2) q2)
    · by_cases e2 : i = k
      · subst e2
        have hl : i < s.length := by
          have := (List.getElem?_eq_some_iff.mp q4).1
          simpa using this
        rw [List.getElem?_set_self hl] at q4
        rw [List.getElem?_set_ne e1] at q1 q3
        have eq : q = p := by cases q4; rfl
        subst eq
        exact absurd q3 (h7 j d1 (Ne.symm e1) q1)
      · rw [List.getElem?_set_ne e1] at q1 q3
        rw [List.getElem?_set_ne e2] at q2 q4
        exact h.dj j k q d1 d2 q1 q2 q3 q4
/-- an own place is written -/
theorem ow_there {K : PySem.W.Frag} {b : Option Addr} {G0 H0 G H : Hp} {n : Nat} {s : L2.St} {r : List Ent} (h : Rho K b G0 H0 G H n s r) {j : Nat} {d : D} {p : Addr} (e : r[j]? = some (.ow d)) (e2 : s[j]? = some (some (.ref p))) : H p ≠ none := by
  obtain ⟨q, e1, _, _, _, e5⟩ := h.ent j _ e
  rw [e2] at e1
  have eq : p = q := by cases e1; rfl
  subst eq
  rcases e5 with ⟨xs, ds, _, z, _⟩ | ⟨xs, ds, _, z, _⟩ | ⟨_, _, _, _, _, _, _, z, _⟩ <;> (rw [z]; intro y; cases y)
theorem setF_read {te : TE} {i : Nat} {ie : IE} {N : Ends} {s : L2.St} {H : Hp} (ht : ∀ Q, liftF (cn X) W (wE T ie) s H Q → te s H Q) (h : liftS (cn X) W (wS T (.setF i ie)) N s H) : tAsg te (gName i) N s H := by
  obtain ⟨b, G0, H0, G, n, r, E, h, t, k⟩ := h
  rw [wS] at t
  refine ht _ ⟨b, G0, H0, G, n, r, _, _, h, t, k.xok h, fun p xs ds G1 H1 n1 st c1 c2 c3 c4 g q => ?_⟩
  have h1 := h.step st
  have hb : some p ≠ b := fun z => (h.ok.box p z.symm).2.some c1
  have c0 : H0 p = none := by
    cases qq : H0 p with
    | none => rfl
    | some o => rw [h.st.kp p o hb qq] at c1; cases c1
  exact k.nx _ G1 H1 n1 _ (h1.setOw c2 c0 hb c3 c4 g fun j d _ e1 e2 => ow_there h e1 e2 c1) q
theorem ds_setF {i : Nat} {x : Str} {e : Expr} {ie : IE} {p pos : Pos} (hN : X.N.Nodup) (hi : X.N[i]? = some x) (hx : Loc X.env.scope x) (he : PE X e (liftF (cn X) W (wE T ie))) (hs : swapsWith e (some (.Name x p)) pos.line X.env = pure false) (hf : X.fn x = true ∨ X.env.scope.names.lookup x = some .local) :
    PS X (.Assign [.Name x p] e pos) (liftS (cn X) W (wS T (.setF i ie))) := ps_imp (ps_set hN hi hx he hs hf) fun N s H h => setF_read (fun Q q => q) h
theorem ds_unp {tg e : Expr} {l : List Nat} {ie : IE} {pos : Pos} (he : PE X e (lift (cn X) W (wE T ie))) (hg : PG X tg (gOf X.K (.many l))) (hs : swapsWithSole [tg] e pos.line X.env = pure false) (hw : swappedStores [tg] e X.env = pure none) (h1 : (assignEach [tg] X.env).map (·.2) = [assign tg X.env]) :
    PS X (.Assign [tg] e pos) (liftS (cn X) W (wS T (.unp l ie))) := ps_imp (ps_asg he hg hs hw h1) fun N s H ⟨b, G0, H0, G, n, r, E, h, t, k⟩ => by
  rw [wS] at t
  refine lift_bind h (k.xok h) t fun v G1 H1 n1 d h1 x1 s1 r1 q1 => ?_
  cases d with
  | tup ds =>
    obtain ⟨r', er, q⟩ := ofO_iff q1
    exact g_bind (t := .many l) h1 r1 er fun s' h' _ => k.nx s' G1 H1 n1 r' h' q
  | list ds =>
    obtain ⟨r', er, q⟩ := ofO_iff q1
    exact g_bind (t := .many l) h1 r1 er fun s' h' _ => k.nx s' G1 H1 n1 r' h' q
  | _ => exact q1.elim
theorem ds_parT {tg : Expr} {es : List Expr} {l : List Nat} {ia : IAs} {kk : Nat} {p2 pos : Pos} (ha : PA X es (liftA (cn X) W (wA T ia))) (hg : PG X tg (gOf X.K (.many l))) (hs : swapsWithSole [tg] (.Tuple es kk p2) pos.line X.env = pure false) (hw : swappedStores [tg] (.Tuple es kk p2) X.env = pure none) (h1 : (assignEach [tg] X.env).map (·.2) = [assign tg X.env]) (hl : l.length ≤ sizeLine) :
    PS X (.Assign [tg] (.Tuple es kk p2) pos) (liftS (cn X) W (wS T (.par l ia))) := ps_imp (ps_asg (pe_tup ha) hg hs hw h1) fun N s H ⟨b, G0, H0, G, n, r, E, h, t, k⟩ => by
  rw [wS] at t
  refine liftA_bind h (k.xok h) t fun v G1 H1 n1 d h1 x1 s1 r1 q1 => ?_
  obtain ⟨r', er, q⟩ := ofO_iff q1
  have hz : v.length ≤ sizeLine := by rw [r1.length, setMany_len er]; exact hl
  refine ⟨hz, fun p np => ?_⟩
  obtain ⟨s2, r2⟩ := rp_new_tup h1.ok np r1 hz
  exact g_bind (t := .many l) (h1.step s2) r2 (show bindT (.many l) r (.tup d) = some r' from er) fun s' h' _ => k.nx s' _ _ n1 r' h' q
theorem ds_par2 {i j : Nat} {x y : Str} {a c : Expr} {ia : IAs} {px py pt pos : Pos} {kt k2 : Nat} {pt2 : Pos} (hc : X.calm = true) (hN : X.N.Nodup) (hi : X.N[i]? = some x) (hj : X.N[j]? = some y) (hij : i ≠ j)
    (hx : X.env.scope.names.lookup x = some .local) (hy : X.env.scope.names.lookup y = some .local) (ha : PA X [a, c] (liftA (cn X) W (wA T ia)))
    (hw : swappedStores [.Tuple [.Name x px, .Name y py] kt pt] (.Tuple [a, c] k2 pt2) X.env = pure (some [x, y])) (hs : swapsWithSole [.Tuple [.Name x px, .Name y py] kt pt] (.Tuple [a, c] k2 pt2) pos.line X.env = pure false) :
    PS X (.Assign [.Tuple [.Name x px, .Name y py] kt pt] (.Tuple [a, c] k2 pt2) pos) (liftS (cn X) W (wS T (.par [i, j] ia))) := ps_imp (ps_par hc hN hi hj hij hx hy ha hw hs) fun N s H ⟨b, G0, H0, G, n, r, E, h, t, k⟩ => by
  rw [wS] at t
  refine liftA_bind h (k.xok h) t fun v G1 H1 n1 d h1 x1 s1 r1 q1 => ?_
  obtain ⟨r', er, q⟩ := ofO_iff q1
  match d, r1, er with
  | [d1, d2], .cons g1 (.cons g2 .nil), er =>
    have er : (r.set i (.sh d1)).set j (.sh d2) = r' := by
      simpa [setMany] using er
    subst er
    exact ⟨_, _, rfl, k.nx _ G1 H1 n1 _ ((h1.setSh g1).setSh g2) q⟩
theorem ds_par3 {i j l : Nat} {x y z : Str} {a c e : Expr} {ia : IAs} {px py pz pt pos : Pos} {kt k2 : Nat} {pt2 : Pos} (hc : X.calm = true) (hN : X.N.Nodup) (hi : X.N[i]? = some x) (hj : X.N[j]? = some y) (hl : X.N[l]? = some z) (hij : i ≠ j) (hil : i ≠ l) (hjl : j ≠ l)
    (hx : X.env.scope.names.lookup x = some .local) (hy : X.env.scope.names.lookup y = some .local) (hz : X.env.scope.names.lookup z = some .local) (ha : PA X [a, c, e] (liftA (cn X) W (wA T ia)))
    (hw : swappedStores [.Tuple [.Name x px, .Name y py, .Name z pz] kt pt] (.Tuple [a, c, e] k2 pt2) X.env = pure (some [x, y, z])) (hs : swapsWithSole [.Tuple [.Name x px, .Name y py, .Name z pz] kt pt] (.Tuple [a, c, e] k2 pt2) pos.line X.env = pure false) :
    PS X (.Assign [.Tuple [.Name x px, .Name y py, .Name z pz] kt pt] (.Tuple [a, c, e] k2 pt2) pos) (liftS (cn X) W (wS T (.par [i, j, l] ia))) := ps_imp (ps_par3 hc hN hi hj hl hij hil hjl hx hy hz ha hw hs) fun N s H ⟨b, G0, H0, G, n, r, E, h, t, k⟩ => by
  rw [wS] at t
  refine liftA_bind h (k.xok h) t fun v G1 H1 n1 d h1 x1 s1 r1 q1 => ?_
  obtain ⟨r', er, q⟩ := ofO_iff q1
  match d, r1, er with
  | [d1, d2, d3], .cons g1 (.cons g2 (.cons g3 .nil)), er =>
    have er : ((r.set i (.sh d1)).set j (.sh d2)).set l (.sh d3) = r' := by
      simpa [setMany] using er
    subst er
    exact ⟨_, _, _, rfl, k.nx _ G1 H1 n1 _ (((h1.setSh g1).setSh g2).setSh g3) q⟩
theorem ds_ife {c : Expr} {a e : List Stmt} {ic : IE} {ia ie : ISs} {pos : Pos} (hc : PT X c (lT X W (wE T ic))) (ha : PSs X a (liftS (cn X) W (wB T ia))) (he : PSs X e (liftS (cn X) W (wB T ie))) : PS X (.If c a e pos) (liftS (cn X) W (wS T (.ife ic ia ie))) :=
  ps_imp (ps_if hc ha he) fun N s H ⟨b, G0, H0, G, n, r, E, h, t, k⟩ => by
    rw [wS] at t
    refine liftT_bind h (k.xok h) t fun G1 H1 n1 z h1 x1 s1 q1 => ?_
    cases z with
    | true =>
      rw [if_pos rfl] at q1
      exact iteT ⟨b, G0, H0, G1, n1, r, E, h1, q1, k⟩
    | false =>
      rw [if_neg (by decide)] at q1
      exact iteF ⟨b, G0, H0, G1, n1, r, E, h1, q1, k⟩
theorem dss_nil : PSs X [] (liftS (cn X) W (wB T .nil)) := pss_imp pss_nil fun N s H ⟨b, G0, H0, G, n, r, E, h, t, k⟩ => by
  rw [wB] at t
  exact k.nx s G H n r h t
theorem dss_cons {st : Stmt} {rest : List Stmt} {is : IS} {ir : ISs} (h1 : PS X st (liftS (cn X) W (wS T is))) (h2 : PSs X rest (liftS (cn X) W (wB T ir))) : PSs X (st :: rest) (liftS (cn X) W (wB T (.cons is ir))) :=
  pss_imp (pss_cons h1 h2) fun N s H ⟨b, G0, H0, G, n, r, E, h, t, k⟩ => by
    rw [wB] at t
    refine ⟨b, G0, H0, G, n, r, _, h, t, ⟨fun s G H n r h' q => ?_, k.rt, k.bk, k.ct, k.ex⟩⟩
    exact ⟨b, G0, H0, G, n, r, E, h', q, k⟩
/-- nothing but what is known changes -/
theorem Rho.share {K : PySem.W.Frag} {b : Option Addr} {G0 H0 G H : Hp} {n : Nat} {s : L2.St} {r : List Ent} (h : Rho K b G0 H0 G H n s r) {i : Nat} {d : D} (e : r[i]? = some (.ow d)) : ∃ G', Same G G' ∧ Rho K b G0 H0 G' H n s (r.set i (.sh d)) := by
  obtain ⟨p, e1, e2, e3, e4, e5⟩ := h.ent i _ e
  have fin : ∀ (o : HO), H p = some o → Rp K b (upd G p o) (.ref p) d → ∃ G', Same G G' ∧ Rho K b G0 H0 G' H n s (r.set i (.sh d)) := fun o hp rp => by
    have sm : Same G (upd G p o) := same_upd e2
    have sub : Same (upd G p o) H := fun a u q => by
      by_cases z : a = p
      · subst z
        rw [upd_same] at q
        cases q
        exact hp
      · rw [upd_ne z] at q
        exact h.ok.sub a u q
    refine ⟨_, sm, ⟨⟨sub, fun q eq => ⟨?_, (h.ok.box q eq).2⟩⟩, ⟨h.st.gg.trans sm, sub, h.st.kp, fun a u q => ?_, h.st.bx⟩, by rw [List.length_set]; exact h.len, fun j x q => ?_, fun j k q d1 d2 q1 q2 q3 q4 => ?_⟩⟩
    · have nq : q ≠ p := fun z => e4 (by rw [← z]; exact eq.symm)
      rw [upd_ne nq]
      exact (h.ok.box q eq).1
    · by_cases z : a = p
      · subst z
        exact .inr e3
      · rw [upd_ne z] at q
        exact h.st.nw a u q
    · by_cases hj : i = j
      · subst hj
        have hl : i < r.length := by
          have := (List.getElem?_eq_some_iff.mp q).1
          simpa using this
        rw [List.getElem?_set_self hl] at q
        cases q
        exact ⟨.ref p, e1, rp⟩
      · rw [List.getElem?_set_ne hj] at q
        have en := h.ent j x q
        cases x with
        | no => trivial
        | sh d' =>
          obtain ⟨v, f1, f2⟩ := en
          exact ⟨v, f1, f2.mono sm⟩
        | ow d' =>
          obtain ⟨p', f1, f2, f3, f4, f5⟩ := en
          have np : p' ≠ p := fun z => by
            subst z
            exact hj (h.dj i j p' d d' e q e1 f1)
          refine ⟨p', f1, by rw [upd_ne np]; exact f2, f3, f4, ?_⟩
          rcases f5 with ⟨xs, ds, g1, g2, g3, g4⟩ | ⟨xs, ds, g1, g2, g3, g4⟩ | ⟨C, dx, c, xs, ds, g1, g0, g2, g3, g4⟩
          · exact .inl ⟨xs, ds, g1, g2, g3, g4.mono sm⟩
          · exact .inr (.inl ⟨xs, ds, g1, g2, g3, g4.mono sm⟩)
          · exact .inr (.inr ⟨C, dx, c, xs, ds, g1, g0, g2, g3, g4.mono sm⟩)
    · have key : ∀ (m : Nat) (dd : D), (r.set i (.sh d))[m]? = some (.ow dd) → r[m]? = some (.ow dd) := fun m dd q => by
        by_cases hm : i = m
        · subst hm
          have hl : i < r.length := by
            have := (List.getElem?_eq_some_iff.mp q).1
            simpa using this
          rw [List.getElem?_set_self hl] at q
          cases q
        · rw [List.getElem?_set_ne hm] at q
          exact q
      exact h.dj j k q d1 d2 (key j d1 q1) (key k d2 q2) q3 q4
  rcases e5 with ⟨xs, ds, rfl, g2, g3, g4⟩ | ⟨xs, ds, rfl, g2, g3, g4⟩ | ⟨C, dx, c, xs, ds, rfl, g0, g2, g3, g4⟩
  · exact fin _ g2 (.list upd_same g3 (g4.mono (same_upd e2)))
  · exact fin _ g2 (.dict upd_same g3 (g4.mono (same_upd e2)))
  · exact fin _ g2 (.obj g0 upd_same (g4.mono (same_upd e2)))
theorem Rho.freeze {K : PySem.W.Frag} {b : Option Addr} {G0 H0 H : Hp} {n : Nat} {s : L2.St} : ∀ {l : List Nat} {G : Hp} {r : List Ent}, Rho K b G0 H0 G H n s r → ∃ G', Rho K b G0 H0 G' H n s (freeze r l)
  | [], G, r, h => ⟨G, h⟩
  | i :: is, G, r, h => by
    rw [Dl.freeze]
    split
    · obtain ⟨G', _, h'⟩ := h.share (by assumption)
      exact Rho.freeze h'
    · exact Rho.freeze h
theorem dss_frz {l : List Nat} {sts : List Stmt} {ir : ISs} (h2 : PSs X sts (liftS (cn X) W (wB T ir))) : PSs X sts (liftS (cn X) W (wB T (.cons (.frz l) ir))) :=
  pss_imp h2 fun N s H ⟨b, G0, H0, G, n, r, E, h, t, k⟩ => by
    rw [wB, wS] at t
    obtain ⟨G', h'⟩ := h.freeze (l := l)
    exact ⟨b, G0, H0, G', n, _, E, h', t, k⟩
end
end Dl

set_option Elab.async false
set_option linter.all false
set_option maxRecDepth 100000
set_option maxHeartbeats 4000000
/-! Loops; what is appended. -/
namespace Dl
open PySem PySem.Spec PyProof.Rows L2
section
variable {K : PySem.W.Frag} {b : Option Addr} {G0 H0 G H G1 H1 : Hp} {n n1 : Nat} {s s1 : L2.St} {r r1 : List Ent}
theorem Rho.self (h : Rho K b G0 H0 G H n s r) : Rho K b G H0 G H n s r :=
  ⟨h.ok, ⟨Same.refl _, h.st.gh, h.st.kp, fun a o e => .inl e, h.st.bx⟩, h.len, h.ent, h.dj⟩
theorem Rho.rebase (h1 : Rho K b G0 H0 G1 H1 n1 s1 r1) (h : Rho K b G1 H0 G H n s r) : Rho K b G0 H0 G H n s r :=
  ⟨h.ok, ⟨h1.st.gg.trans h.st.gg, h.st.gh, h.st.kp, fun a o e => (h.st.nw a o e).elim (h1.st.nw a o) .inr, h.st.bx⟩, h.len, h.ent, h.dj⟩
theorem Stp.rebase (h1 : Rho K b G0 H0 G1 H1 n1 s1 r1) (h : Stp b G1 H0 G H n) : Stp b G0 H0 G H n :=
  ⟨h1.st.gg.trans h.gg, h.gh, h.kp, fun a o e => (h.nw a o e).elim (h1.st.nw a o) .inr, h.bx⟩
end
section
variable {X : Cx} {W : WD} {T : Tab}
theorem ds_for {tg iter : Expr} {body : List Stmt} {is : ISr} {t : Tg} {ia : ISs} {pos : Pos} (hp : PassesOwn (model X.prog X.w) X.A X.env X.xe) (hc : X.calm = true) (hi : PI X tg iter (liftI (cn X) W (wI T is))) (hg : PG X tg (gOf X.K t)) (hb : PSs X body (liftS (cn X) W (wB T ia)))
    (hs : ∀ x, foldedSetIterable iter X.env x = pure x) : PS X (.For tg iter body [] pos) (liftS (cn X) W (wS T (.forr is t ia))) :=
  ps_imp (ps_for hp hc hi hg hb hs) fun N s H ⟨b, G0, H0, G, n, r, E, h, t0, k⟩ => by
    rw [wS] at t0
    refine ⟨b, G0, H0, G, n, r, _, _, h, t0, k.xok h, fun J G1 H1 n1 ds s1 wk q1 => ?_⟩
    have h1 := h.step s1
    refine ⟨fun i m s' H' => m = ds.length - i ∧ i ≤ ds.length ∧ ∃ G' n' r', Rho X.K b G1 H0 G' H' n' s' r' ∧ forL (fun d r n k => ofO (bindT t r d) fun r' => wB T ia r' n ⟨k, E.rt, E.nx, k, E.ex⟩) (ds.drop i) r' n' E.nx, ?_, ?_⟩
    · exact ⟨_, rfl, Nat.zero_le _, G1, n1, r, h1.self, by rw [List.drop_zero]; exact q1⟩
    · rintro i m s' H' ⟨rfl, hi, G', n', r', h', q⟩
      have sm : Same G1 G' := h'.st.gg
      by_cases hlt : i < ds.length
      · refine .inr ⟨wk.go i G' H' sm h'.ok.sub hlt, fun s2 H2 => i + 1 ≤ ds.length ∧ ∃ G' n' r', Rho X.K b G1 H0 G' H2 n' s2 r' ∧ forL (fun d r n k => ofO (bindT t r d) fun r' => wB T ia r' n ⟨k, E.rt, E.nx, k, E.ex⟩) (ds.drop (i + 1)) r' n' E.nx,
          fun s2 H2 w => ⟨ds.length - (i + 1), by omega, rfl, w⟩, fun v H2 y => ?_⟩
        obtain ⟨d, G2, ed, s2, rv⟩ := wk.yld i n' G' H' v H2 sm h'.ok y hlt
        have h2 := h'.step s2
        have edr : ds.drop i = d :: ds.drop (i + 1) := by
          rw [List.drop_eq_getElem_cons hlt]
          congr 1
          have e2 : ds[i]? = some ds[i] := List.getElem?_eq_getElem hlt
          rw [ed] at e2
          exact (Option.some.inj e2).symm
        rw [edr, forL] at q
        obtain ⟨r2, er, q⟩ := ofO_iff q
        refine g_bind h2 rv er fun s3 h3 _ => ?_
        refine ⟨b, G1, H0, G2, n', r2, _, h3, q, ⟨fun s4 G4 H4 n4 r4 h4 q4 => ⟨hlt, G4, n4, r4, h4, q4⟩, fun v4 G4 H4 n4 d4 st r4 q4 => k.rt v4 G4 H4 n4 d4 (st.rebase h1) r4 q4, fun s4 G4 H4 n4 r4 h4 q4 => k.nx s4 G4 H4 n4 r4 (h1.rebase h4) q4,
          fun s4 G4 H4 n4 r4 h4 q4 => ⟨hlt, G4, n4, r4, h4, q4⟩, fun cls d4 s4 G4 H4 n4 r4 x4 h4 rx q4 => k.ex cls d4 s4 G4 H4 n4 r4 x4 (h1.rebase h4) rx q4⟩⟩
      · have ei : i = ds.length := by omega
        subst ei
        rw [List.drop_length, forL] at q
        exact .inl ⟨wk.stop _ G' H' sm h'.ok.sub (Nat.le_refl _), k.nx s' G' H' n' r' (h1.rebase h') q⟩
theorem ds_whl {c : Expr} {body : List Stmt} {ic : IE} {ia : ISs} {pos : Pos} (hp : PassesOwn (model X.prog X.w) X.A X.env X.xe) (hc : PT X c (lT X W (wE T ic))) (hb : PSs X body (liftS (cn X) W (wB T ia))) : PS X (.While c body [] pos) (liftS (cn X) W (wS T (.whl ic ia))) :=
  ps_imp (ps_while hp hc hb) fun N s H ⟨b, G0, H0, G, n, r, E, h, t0, k⟩ => by
    rw [wS] at t0
    obtain ⟨V, ⟨m0, v0⟩, turn⟩ := t0
    refine ⟨fun m s' H' => ∃ G' n' r', Rho X.K b G0 H0 G' H' n' s' r' ∧ V m r' n', ⟨m0, G, n, r, h, v0⟩, ?_⟩
    rintro m s' H' ⟨G', n', r', h', v⟩
    refine liftT_bind h' (k.xok h') (turn m r' n' v) fun G1 H1 n1 z h1 x1 s1 q1 => ?_
    cases z with
    | true =>
      rw [if_pos rfl] at q1
      refine iteT ⟨fun s2 H2 => ∃ m', m' < m ∧ ∃ G' n' r', Rho X.K b G0 H0 G' H2 n' s2 r' ∧ V m' r' n', fun s2 H2 w => w, ?_⟩
      refine ⟨b, G0, H0, G1, n1, r', _, h1, q1, ⟨fun s4 G4 H4 n4 r4 h4 ⟨m', hm, q4⟩ => ⟨m', hm, G4, n4, r4, h4, q4⟩, k.rt, k.nx, fun s4 G4 H4 n4 r4 h4 ⟨m', hm, q4⟩ => ⟨m', hm, G4, n4, r4, h4, q4⟩, k.ex⟩⟩
    | false =>
      rw [if_neg (by decide)] at q1
      exact iteF (k.nx s' G1 H1 n1 r' h1 q1)
/-- an own list is changed -/
theorem Rho.write {K : PySem.W.Frag} {b : Option Addr} {G0 H0 G H : Hp} {n : Nat} {s : L2.St} {r : List Ent} (h : Rho K b G0 H0 G H n s r) {i : Nat} {p : Addr} {ds es : List D} {ys : List V} (e : r[i]? = some (.ow (.list ds))) (es' : s[i]? = some (some (.ref p))) (hz : ys.length ≤ sizeLine) (g : Rps K b G ys es) :
    Rho K b G0 H0 G (upd H p (.lst ys)) n s (r.set i (.ow (.list es))) := by
  obtain ⟨p', e1, e2, e3, e4, e5⟩ := h.ent i _ e
  rw [es'] at e1
  have ep : p' = p := by cases e1; rfl
  subst ep
  have st : Stp b G H G (upd H p' (.lst ys)) n → False ∨ True := fun _ => .inr trivial
  have sub : Same G (upd H p' (.lst ys)) := fun a o q => by
    rw [upd_ne (ne_of_none q e2)]
    exact h.ok.sub a o q
  have bx : ∀ q, b = some q → BoxAt (upd H p' (.lst ys)) q n := fun q eq => by
    obtain ⟨x, y, z, f1, f2⟩ := (h.ok.box q eq).2
    have nq : q ≠ p' := fun z => e4 (by rw [← z]; exact eq.symm)
    exact ⟨x, y, z, by rw [upd_ne nq]; exact f1, f2⟩
  refine ⟨⟨sub, fun q eq => ⟨(h.ok.box q eq).1, bx q eq⟩⟩, ⟨h.st.gg, sub, fun a o nb q => ?_, h.st.nw, bx⟩, by rw [List.length_set]; exact h.len, fun j x q => ?_, fun j k q d1 d2 q1 q2 q3 q4 => ?_⟩
  · rw [upd_ne (ne_of_none q e3)]
    exact h.st.kp a o nb q
  · by_cases hj : i = j
    · subst hj
      have hl : i < r.length := by
        have := (List.getElem?_eq_some_iff.mp q).1
        simpa using this
      rw [List.getElem?_set_self hl] at q
      cases q
      exact ⟨p', es', e2, e3, e4, .inl ⟨ys, es, rfl, upd_same, hz, g⟩⟩
    · rw [List.getElem?_set_ne hj] at q
      have en := h.ent j x q
      cases x with
      | no => trivial
      | sh d' => exact en
      | ow d' =>
        obtain ⟨p2, f1, f2, f3, f4, f5⟩ := en
        have np : p2 ≠ p' := fun z => by
          subst z
          exact hj (h.dj i j p2 _ d' e q es' f1)
        refine ⟨p2, f1, f2, f3, f4, ?_⟩
        rw [upd_ne np]
        exact f5
  · have key : ∀ (m : Nat) (dd : D), (r.set i (.ow (.list es)))[m]? = some (.ow dd) → ∃ d', r[m]? = some (.ow d') := fun m dd q => by
      by_cases hm : i = m
      · subst hm
        exact ⟨_, e⟩
      · rw [List.getElem?_set_ne hm] at q
        exact ⟨dd, q⟩
    obtain ⟨d1', f1⟩ := key j d1 q1
    obtain ⟨d2', f2⟩ := key k d2 q2
    exact h.dj j k q d1' d2' f1 f2 q3 q4
theorem ds_app {i : Nat} {x : Str} {e : Expr} {ie : IE} {p apos cpos pos : Pos} (hN : X.N[i]? = some x) (hv : Vis X.env.scope x) (hd : (x == ("__debug__" : Str)) = false) (hcd : (x == ("__classdict__" : Str)) = false) (he : PE X e (lift (cn X) W (wE T ie)))
    (hbase : attributeBase (.Name x p) "append" X.env (eval (.Name x p) X.env) = eval (.Name x p) X.env) (hst : starEach [e] X.env = [(false, eval e X.env)]) (hline : (apos.endLine == cpos.line) = true) :
    PS X (.Expr (.Call (.Attribute (.Name x p) "append" apos) [e] [] cpos) pos) (liftS (cn X) W (wS T (.app i ie))) :=
  ps_imp (ps_expr (pe_bm PySem.F.plainAttrs_list PySem.F.slot_list_append PySem.F.type_list_append mt_append (pe_var hN hv hd hcd) (pa_cons he pa_nil hst) hbase (by rw [hst]; rfl) hline hst)) fun N s H ⟨b, G0, H0, G, n, r, E, h, t0, k⟩ => by
    rw [wS] at t0
    obtain ⟨ys, ey, t0⟩ := ofO_iff t0
    have er : r[i]? = some (.ow (.list ys)) := by
      unfold owD at ey
      split at ey
      · cases ey
        assumption
      · cases ey
    obtain ⟨q, e1, e2, e3, e4, e5⟩ := h.ent i _ er
    rcases e5 with ⟨xs, ds, ed, hq, hz, g⟩ | ⟨_, _, ed, _⟩ | ⟨_, _, _, _, _, ed, _⟩
    · cases ed
      refine ⟨.ref q, e1, .inl ⟨rfl, xs, SqL.of hq⟩, ?_⟩
      refine lift_bind h (k.xok h) t0 fun v G1 H1 n1 d h1 x1 s1 r1 q1 => ?_
      have hq1 : H1 q = some (.lst xs) := s1.kp _ _ e4 hq
      refine ⟨q, xs, v, rfl, rfl, hq1, by rw [g.length]; exact q1.1, ?_⟩
      exact k.nx s G1 _ n1 _ (h1.write er e1 (by rw [List.length_append]; have := q1.1; have := g.length; simp; omega) ((g.mono s1.gg).append (.cons r1 .nil))) q1.2
    · cases ed
    · cases ed
end
end Dl

set_option Elab.async false
set_option linter.all false
set_option maxRecDepth 100000
set_option maxHeartbeats 4000000
/-! Expressions that make a new list. -/
namespace Dl
open PySem PySem.Spec PyProof.Rows L2
section
variable {X : Cx} {W : WD} {T : Tab}
theorem old_none {b : Option Addr} {G H G' H' : Hp} {n n' : Nat} (ok : Ok b G H n) (s : Stp b G H G' H' n') {p : Addr} (np : H' p = none) : H p = none := by
  cases q : H p with
  | none => rfl
  | some o =>
    by_cases hb : some p = b
    · exact absurd np (s.bx p hb.symm).some
    · rw [s.kp p o hb q] at np
      cases np
theorem df_lst {es : List Expr} {ia : IAs} {pos : Pos} (ha : PA X es (liftA (cn X) W (wA T ia))) : PE X (.List es pos) (liftF (cn X) W (wE T (.lst ia))) :=
  pe_imp (pe_lst ha) fun s H Q ⟨b, G0, H0, G, n, r, Qd, Ex, h, t, x, k⟩ => by
    rw [wE] at t
    refine liftA_bind h x t fun v G1 H1 n1 d h1 x1 s1 r1 q1 => ⟨by rw [r1.length]; exact q1.1, fun p np => ?_⟩
    exact k p v d G1 _ n1 (s1.trans (Stp.own h1.ok np)) (old_none h.ok s1 np) (h1.ok.sub.free np) upd_same (by rw [r1.length]; exact q1.1) r1 q1.2
theorem df_cat {a c : Expr} {ia ic : IE} {pos : Pos} (ha : PE X a (lift (cn X) W (wE T ia))) (hc : PE X c (lift (cn X) W (wE T ic))) : PE X (.BinOp a .Add c pos) (liftF (cn X) W (wE T (.cat ia ic))) :=
  pe_imp (pe_op op_cat ha hc) fun s H Q ⟨b, G0, H0, G, n, r, Qd, Ex, h, t, x, k⟩ => by
    rw [wE] at t
    refine lift_bind h x t fun v G1 H1 n1 d h1 x1 s1 r1 q1 => lift_bind h1 x1 q1 fun w G2 H2 n2 e h2 x2 s2 r2 q2 => ?_
    have r1 := r1.mono s2.gg
    cases d with
    | list xs =>
      cases e with
      | list ys =>
        obtain ⟨l, vs, rfl, hl, z1, g1⟩ := rp_list_inv r1
        obtain ⟨m, ws, rfl, hm, z2, g2⟩ := rp_list_inv r2
        obtain ⟨c, q⟩ := q2
        rw [← g1.length, ← g2.length] at c
        refine ⟨l, m, vs, ws, rfl, rfl, h2.ok.sub _ _ hl, h2.ok.sub _ _ hm, c, fun p np => ?_⟩
        have st := s1.trans s2
        exact k p _ _ G2 _ n2 (st.trans (Stp.own h2.ok np)) (old_none h.ok st np) (h2.ok.sub.free np) upd_same (by rw [List.length_append]; exact c) (g1.append g2) q
      | _ => exact q2.elim
    | _ => cases e <;> exact q2.elim
theorem df_list {a : Expr} {ia : IE} {p pos : Pos} (hg : Gl X "list") (hm : X.mg "list" = none) (ha : PE X a (lift (cn X) W (wE T ia))) (hs : starEach [a] X.env = [(false, eval a X.env)]) : PE X (.Call (.Name "list" p) [a] [] pos) (liftF (cn X) W (wE T (.bi .list ia))) :=
  pe_imp (pe_callTy call_list_of hg hm boot_list (pa_cons ha pa_nil hs) (by decide +kernel) (by decide +kernel) hs) fun s H Q ⟨b, G0, H0, G, n, r, Qd, Ex, h, t, x, k⟩ => by
    rw [wE] at t
    refine lift_bind h x t fun v G1 H1 n1 d h1 x1 s1 r1 q1 => ?_
    obtain ⟨z, ez, q3⟩ := ofO_iff q1
    cases d with
    | list ds =>
      obtain ⟨l, vs, rfl, hl, z1, g1⟩ := rp_list_inv r1
      cases ez
      exact ⟨l, vs, rfl, .inl (SqL.of (h1.ok.sub _ _ hl)), fun p np => k p _ _ G1 _ n1 (s1.trans (Stp.own h1.ok np)) (old_none h.ok s1 np) (h1.ok.sub.free np) upd_same z1 g1 q3⟩
    | tup ds =>
      obtain ⟨l, vs, rfl, hl, z1, g1⟩ := rp_tup_inv r1
      cases ez
      exact ⟨l, vs, rfl, .inr (sqt_same h1.ok.sub hl), fun p np => k p _ _ G1 _ n1 (s1.trans (Stp.own h1.ok np)) (old_none h.ok s1 np) (h1.ok.sub.free np) upd_same z1 g1 q3⟩
    | _ => cases ez
theorem df_comp {elt tg iter : Expr} {ifs : List Expr} {scope : Scope} {own : List (Str × Nat)} {pos : Pos} {is : ISr} {t : Tg} {ic ie : IE} (hc : X.calm = true) (hN : X.N.Nodup) (nd : t.slots.Nodup) (hi : PI X tg iter (liftI (cn X) W (wI T is))) (ok : BlkOk X.N X.env.scope scope own) (ho : own.map (·.2) = t.slots)
    (hg : ∀ (s : Shared) (H : Hp) (C : Addr) (cl : List (Str × Addr)) (fp : List Addr), PG (X.blk s H scope (compEnvC scope cl C X.env) fp) tg (gOf X.K t))
    (ht : ∀ (s : Shared) (H : Hp) (C : Addr) (cl : List (Str × Addr)) (fp : List Addr), PTs (X.blk s H scope (compEnvC scope cl C X.env) fp) ifs (lT X WF (wE T ic)))
    (he : ∀ (s : Shared) (H : Hp) (C : Addr) (cl : List (Str × Addr)) (fp : List Addr), PE (X.blk s H scope (compEnvC scope cl C X.env) fp) elt (lift (cn X) WF (wE T ie))) (hs : ∀ x, foldedSetIterable iter X.env x = pure x) :
    PE X (.ListComp elt [⟨tg, iter, ifs, 0⟩] scope pos) (liftF (cn X) W (wE T (.comp is t ic ie))) :=
  pe_imp (pe_lc hc hN hi ok hg ht he hs) fun s H Q h => by
    rw [ho]
    exact comp_read nd h
theorem ds_setLc {i : Nat} {y : Str} {py : Pos} {elt tg iter : Expr} {ifs : List Expr} {scope : Scope} {own : List (Str × Nat)} {pos spos : Pos} {is : ISr} {t : Tg} {ic ie : IE} (fr : Bool) (hc : X.calm = true) (hN : X.N.Nodup) (nd : t.slots.Nodup) (hy : X.N[i]? = some y) (hyl : X.env.scope.names.lookup y = some .local)
    (hsw : swapsWith (.ListComp elt [⟨tg, iter, ifs, 0⟩] scope pos) (some (.Name y py)) spos.line X.env = pure true) (hi : PI X tg iter (liftI (cn X) W (wI T is))) (ok : BlkOk X.N X.env.scope scope own) (ho : own.map (·.2) = t.slots)
    (hg : ∀ (s : Shared) (H : Hp) (C : Addr) (cl : List (Str × Addr)) (fp : List Addr), PG (X.blk s H scope (compEnvC scope cl C X.env) fp) tg (gOf X.K t))
    (ht : ∀ (s : Shared) (H : Hp) (C : Addr) (cl : List (Str × Addr)) (fp : List Addr), PTs (X.blk s H scope (compEnvC scope cl C X.env) fp) ifs (lT X WF (wE T ic)))
    (he : ∀ (s : Shared) (H : Hp) (C : Addr) (cl : List (Str × Addr)) (fp : List Addr), PE (X.blk s H scope (compEnvC scope cl C X.env) fp) elt (lift (cn X) WF (wE T ie))) (hs : ∀ x, foldedSetIterable iter X.env x = pure x) :
    PS X (.Assign [.Name y py] (.ListComp elt [⟨tg, iter, ifs, 0⟩] scope pos) spos) (liftS (cn X) W (wS T (if fr then .setF i (.comp is t ic ie) else .set i (.comp is t ic ie)))) :=
  ps_imp (ps_setLc hc hN hy hyl hsw hi ok hg ht he hs) fun N s H h => by
    rw [ho]
    cases fr with
    | false => exact set_read (fun Q q => comp_read nd (lift_of_F q)) h
    | true => exact setF_read (fun Q q => comp_read nd q) h
theorem dts_nil : PTs X [] (lT X W (wE T (.k (.bl true)))) := ⟨fun pins s a H Q I ⟨b, G0, H0, G, n, r, Qd, Ex, h, t, x, k⟩ => pts_nil.run pins s a H Q I (by
  dsimp only at t
  rw [wE] at t
  exact k G H n true (Stp.refl h.ok) t)⟩
end
end Dl

set_option Elab.async false
set_option linter.all false
set_option maxRecDepth 100000
set_option maxHeartbeats 4000000
/-! Objects of own classes as data: fields, own [] and in, making; calls by keywords; max, min. -/
namespace Dl
open PySem PySem.Spec PyProof.Rows L2
section
variable {X : Cx} {W : WD} {T : Tab}
/-! ### fields -/
/-- what a class lets a field be -/
structure FlD (K : PySem.W.Frag) (c f : Str) : Prop where
  ex : ∃ C, PySem.W.nsIn K mainGlobals c = some (some (.ref C)) ∧ Cls K C ∧ NoAttr K C f
theorem rp_obj_inv {K : PySem.W.Frag} {b : Option Addr} {G : Hp} {v : V} {c : Str} {ds : List (Str × D)} (h : Rp K b G v (.obj c ds)) : ∃ a C dx kvs, v = .ref a ∧ PySem.W.nsIn K mainGlobals c = some (some (.ref C)) ∧ G a = some (.ins C dx kvs) ∧ Rfs K b G kvs ds := by
  cases h with
  | @obj a C dx _ kvs _ hc h g => exact ⟨a, C, dx, kvs, rfl, hc, h, g⟩
theorem ns_inj {K : PySem.W.Frag} {c : Str} {C C' : Addr} (h : PySem.W.nsIn K mainGlobals c = some (some (.ref C))) (h' : PySem.W.nsIn K mainGlobals c = some (some (.ref C'))) : C = C' := by
  rw [h] at h'
  cases h'
  rfl
theorem de_attr {a : Expr} {ia : IE} {f : Str} {pos : Pos} (hf : ∀ c f, T.fl c f = true → FlD X.K c f) (ha : PE X a (lift (cn X) W (wE T ia))) (hb : attributeBase a f X.env (eval a X.env) = eval a X.env) : PE X (.Attribute a f pos) (lift (cn X) W (wE T (.attr ia f))) :=
  pe_imp (pe_fld ha hb) fun s H Q ⟨b, G0, H0, G, n, r, Qd, Ex, h, t, x, k⟩ => by
    rw [wE] at t
    refine lift_bind h x t fun v G1 H1 n1 d h1 x1 s1 r1 q1 => ?_
    cases d with
    | obj c ds =>
      obtain ⟨e1, q1⟩ := q1
      obtain ⟨y, ey, q⟩ := ofO_iff q1
      obtain ⟨C, n1', cl, na⟩ := (hf c f e1).ex
      obtain ⟨p, C', dx, kvs, rfl, n2, hp, g⟩ := rp_obj_inv r1
      cases ns_inj n1' n2
      obtain ⟨w, ew, rw'⟩ := g.look ey
      exact ⟨p, C, dx, kvs, w, rfl, h1.ok.sub _ _ hp, cl, na, ew, k w G1 H1 _ y s1 rw' q⟩
    | _ => exact q1.elim
/-! ### own methods behind a sign -/
/-- what is known of a method -/
structure MeD (X : Cx) (k : Nat) (c m : Str) (fs : FS) : Prop where
  ex : ∃ (C f : Addr) (fd : FuncData) (ps : List Str) (j : Nat), PySem.W.nsIn X.K mainGlobals c = some (some (.ref C)) ∧ PySem.W.findIn X.K (.ref C) m = some (some (.ref f)) ∧ PySem.W.fnIn X.K f = true ∧ PySem.W.isFn X.K (.ref f) = true ∧ Binds X.K fd ps [] ∧ j + 1 ≤ k ∧
    FnOk X.prog X.w X.K X.mg X.base (L2.CX X.prog X.w) j f fd ps (spOf (cn X) fs)
/-- a def called by the machine, in this frame or one builtin further in -/
theorem run_at {pins : List (Addr × Obj)} {a0 : L2.St} {H : Hp} {s : Shared} {Q : VK} {us : List Value} {vs : List V} {j : Nat} {f : Addr} {fd : FuncData} {ps : List Str} {sp : Sp} {A : Around} (F : FnOk X.prog X.w X.K X.mg X.base (L2.CX X.prog X.w) j f fd ps sp) (hr : Room j A)
    (e0 : Env0 X.prog X.w X.K X.mg X.base A X.stack s H) (hb : Binds X.K fd ps []) (tk : Takes X W) (I : L2.Inv X pins a0 H s) (r : Vals vs us) (h : sp vs H Q (WE W a0)) : wpAny (model X.prog X.w) A (call (.ref f) us) (EP X pins a0 Q) X.xe s := by
  have hl : us.length = ps.length := by
    rw [← r.length]
    exact F.len _ _ _ _ h
  have b0 := hb s us I.kIn (by rw [List.append_nil]; exact hl)
  rw [List.append_nil] at b0
  refine wpAny_call (codeAny_mono (F.run A X.stack s H ⟨us, []⟩ us vs Q (WE W a0) hr e0 b0 r h) fun u s' hq => ?_)
  cases u with
  | error e => exact passAt tk a0 pins H s e s' I hq
  | ok fl =>
    cases fl with
    | ret u => exact I.after hq
    | next => exact False.elim hq
    | brk => exact False.elim hq
    | cont => exact False.elim hq
/-- what reading a method's call asks -/
def rMe (X : Cx) (W : WD) (m : Str) (a0 : L2.St) (o : V) (vs : List V) (H : Hp) (Q : VK) : Prop := ∃ (p C dx : Addr) (kvs : List (Str × V)) (f : Addr) (fd : FuncData) (ps : List Str) (sp : Sp) (j : Nat), o = .ref p ∧ H p = some (.ins C dx kvs) ∧ PySem.W.findIn X.K (.ref C) m = some (some (.ref f)) ∧ PySem.W.fnIn X.K f = true ∧
  PySem.W.isFn X.K (.ref f) = true ∧ Binds X.K fd ps [] ∧ Room (j + 1) X.A ∧ FnOk X.prog X.w X.K X.mg X.base (L2.CX X.prog X.w) j f fd ps sp ∧ sp (o :: vs) H Q (WE W a0)
theorem pe_ixm {a c : Expr} {ta tc : TE} {pos : Pos} (tk : Takes X W) (ha : PE X a ta) (hc : PE X c tc) (hs : ∀ o i, subscripted c true (.ref o) i = runValue (.builtin "lifetime.subscript" ⟨[.ref o, i], []⟩)) :
    PE X (.Subscript a c pos) (fun a0 H Q => ta a0 H fun x H1 => tc a0 H1 fun y H2 => rMe X W "__getitem__" a0 x [y] H2 Q) := by
  refine ⟨fun pins s a0 H Q I h => ?_⟩
  refine Subscript_ (binT ha hc I h fun v u s2 x y H2 I2 rx ry q => ?_)
  obtain ⟨p, C, dx, kvs, f, fd, ps, sp, j, rfl, hp, h1, h2, h3, hb, hr, F, q⟩ := q
  cases rx
  obtain ⟨mA, J, _⟩ := ins_get I2.hok hp
  obtain ⟨od, J, _⟩ := J.look
  obtain ⟨m, hF⟩ := I2.fr
  refine PySem.W.sub_K hF I2.ok.mod.kin J h1 h2 h3 ?_ (hs _ _)
  exact run_at (us := [.ref p, u]) (vs := [.ref p, y]) F hr.in1 I2.env0.in1 hb tk I2 (.cons rfl (.cons ry .nil)) q
theorem op_inm {op : CmpOp} {neg : Bool} (tk : Takes X W) (ho : op = if neg then .NotIn else .In) {pins : List (Addr × Obj)} {s : Shared} {a0 : L2.St} {H : Hp} {x y : V} {v u : Value} {Q : VK} (I : L2.Inv X pins a0 H s) (rx : RelV x v) (ry : RelV y u)
    (q : rMe X W "__contains__" a0 y [x] H fun z H' => ∃ b, z = .bl b ∧ Q (.bl (if neg then !b else b)) H') : wpAny (model X.prog X.w) X.A (compareOp op v u) (EP X pins a0 Q) X.xe s := by
  obtain ⟨p, C, dx, kvs, f, fd, ps, sp, j, rfl, hp, h1, h2, h3, hb, hr, F, q⟩ := q
  cases ry
  obtain ⟨mA, J, _⟩ := ins_get I.hok hp
  obtain ⟨od, J, _⟩ := J.look
  obtain ⟨m, hF⟩ := I.fr
  have go := run_at (us := [.ref p, v]) (vs := [.ref p, x]) F (hr.mono (Nat.le_succ _)) I.env0 hb tk I (.cons rfl (.cons rx .nil)) q
  cases neg with
  | false =>
    subst ho
    refine PySem.W.in_K hF I.ok.mod.kin J h1 h3 (thn go fun w s1 ⟨z, H1, I1, rz, b, ez, q1⟩ => ?_)
    subst ez
    cases rz
    exact wpAny_truthy_bool ⟨.bl b, H1, I1, rfl, q1⟩
  | true =>
    subst ho
    refine PySem.W.notIn_K hF I.ok.mod.kin J h1 h3 (thn go fun w s1 ⟨z, H1, I1, rz, b, ez, q1⟩ => ?_)
    subst ez
    cases rz
    exact wpAny_truthy_bool ⟨.bl (!b), H1, I1, rfl, q1⟩
theorem me_read {k : Nat} {c m : Str} {fs : FS} {b : Option Addr} {G0 H0 G H : Hp} {n : Nat} {a0 : L2.St} {r : List Ent} {Ex : QX} {v : V} {vs : List V} {ds : List D} {cs : List (Str × D)} {Qd : D → Nat → Prop} {Q : VK} (me : MeD X k c m fs) (hr : Room k X.A) (h : Rho X.K b G0 H0 G H n a0 r) (x : XOk (cn X) W b G H a0 Ex)
    (ho : Rp X.K b G v (.obj c cs)) (hv : Rps X.K b G vs ds) (t : fs (.obj c cs :: ds) n Qd Ex) (k : ∀ v' G' H' n' d', Stp b G H G' H' n' → Rp X.K b G' v' d' → Qd d' n' → Q v' H') : rMe X W m a0 v vs H Q := by
  obtain ⟨C, f, fd, ps, j, n1, f1, f2, f3, hb, hj, F⟩ := me.ex
  obtain ⟨p, C', dx, kvs, rfl, n2, hp, g⟩ := rp_obj_inv ho
  cases ns_inj n1 n2
  refine ⟨p, C, dx, kvs, f, fd, ps, _, j, rfl, h.ok.sub _ _ hp, f1, f2, f3, hb, hr.mono hj, F, ?_⟩
  exact ⟨b, G, n, _, Qd, Ex, h.ok, .cons ho hv, t, fun cls d G' H' n' xx st rx ex => x cls d G' H' n' xx st rx ex, k⟩
theorem de_ixm {k : Nat} {a c : Expr} {ia ic : IE} {pos : Pos} (tk : Takes X W) (hm : ∀ c m fs, T.me c m = some fs → MeD X k c m fs) (hr : Room k X.A) (ha : PE X a (lift (cn X) W (wE T ia))) (hc : PE X c (lift (cn X) W (wE T ic))) (hs : ∀ o i, subscripted c true (.ref o) i = runValue (.builtin "lifetime.subscript" ⟨[.ref o, i], []⟩)) :
    PE X (.Subscript a c pos) (lift (cn X) W (wE T (.ixm ia ic))) :=
  pe_imp (pe_ixm tk ha hc hs) fun s H Q ⟨b, G0, H0, G, n, r, Qd, Ex, h, t, x, k⟩ => by
    rw [wE] at t
    refine lift_bind h x t fun v G1 H1 n1 d h1 x1 s1 r1 q1 => lift_bind h1 x1 q1 fun w G2 H2 n2 e h2 x2 s2 r2 q2 => ?_
    cases d with
    | obj c cs =>
      obtain ⟨fs, ef, q⟩ := ofO_iff q2
      exact me_read (hm _ _ _ ef) hr h2 x2 (r1.mono s2.gg) (.cons r2 .nil) q fun v' G' H' n' d' st rr qq => k v' G' H' n' d' ((s1.trans s2).trans st) rr qq
    | _ => exact q2.elim
def tInm (X : Cx) (W : WD) (neg : Bool) (ta tc : TE) : TE := fun a0 H Q => ta a0 H fun x H1 => tc a0 H1 fun y H2 => rMe X W "__contains__" a0 y [x] H2 fun z H' => ∃ b, z = .bl b ∧ Q (.bl (if neg then !b else b)) H'
theorem pe_inm {neg : Bool} {op : CmpOp} {a c : Expr} {ta tc : TE} {pos : Pos} (tk : Takes X W) (ho : op = if neg then .NotIn else .In) (ha : PE X a ta) (hc : PE X c tc) (hm : behindInMarks op c = false) : PE X (.Compare a [op] [c] pos) (tInm X W neg ta tc) :=
  ⟨fun pins s a0 H Q I h => wpAny_Compare1 (binT ha hc I h fun v u s2 x y H2 I2 rx ry q => op_inm tk ho I2 rx ry q) hm⟩
theorem pt_inm {neg : Bool} {op : CmpOp} {a c : Expr} {ta tc : TE} {pos : Pos} (tk : Takes X W) (ho : op = if neg then .NotIn else .In) (ha : PE X a ta) (hc : PE X c tc) (hm : behindInMarks op c = false) : PT X (.Compare a [op] [c] pos) (tTest (tInm X W neg ta tc)) := by
  refine ⟨fun pins s a0 H Q I h => ?_⟩
  refine wpAny_isTrue_Compare1 (thn (ha.run pins s a0 H _ I h) fun v s1 ⟨x, H1, I1, r1, q1⟩ => thn (hc.run pins s1 a0 H1 _ I1 q1) fun u s2 ⟨y, H2, I2, r2, q2⟩ => thn (op_inm (Q := fun x H' => ∃ k, x = .bl k ∧ Q k H') tk ho I2 r1 r2 q2) fun c s3 ⟨z, H3, I3, r3, k, e, q3⟩ => ?_) hm
  subst e
  cases r3
  exact wpAny_truthy_bool ⟨H3, I3, q3⟩
theorem inm_read {k : Nat} {neg : Bool} {ia ic : IE} {s : L2.St} {H : Hp} {Q : VK} {b : Option Addr} {G0 H0 G : Hp} {n : Nat} {r : List Ent} {Qd : D → Nat → Prop} {Ex : QX} (hm : ∀ c m fs, T.me c m = some fs → MeD X k c m fs) (hr : Room k X.A) (h : Rho X.K b G0 H0 G H n s r) (t : wE T (.inm neg ia ic) r n Qd Ex) (x : XOk (cn X) W b G H s Ex)
    (k : ∀ z G' H' n', Stp b G H G' H' n' → Qd (.bl z) n' → Q (.bl z) H') : tInm X W neg (lift (cn X) W (wE T ia)) (lift (cn X) W (wE T ic)) s H Q := by
  rw [wE] at t
  refine lift_bind h x t fun v G1 H1 n1 d h1 x1 s1 r1 q1 => lift_bind h1 x1 q1 fun w G2 H2 n2 e h2 x2 s2 r2 q2 => ?_
  cases e with
  | obj c cs =>
    obtain ⟨fs, ef, q⟩ := ofO_iff q2
    refine me_read (hm _ _ _ ef) hr h2 x2 r2 (.cons (r1.mono s2.gg) .nil) q fun v' G' H' n' d' st rr qq => ?_
    cases d' with
    | bl z => exact ⟨z, rp_bl_inv rr, k _ G' H' n' ((s1.trans s2).trans st) qq⟩
    | _ => exact qq.elim
  | _ => exact q2.elim
theorem de_inm {k : Nat} {neg : Bool} {op : CmpOp} {a c : Expr} {ia ic : IE} {pos : Pos} (tk : Takes X W) (ho : op = if neg then .NotIn else .In) (hm : ∀ c m fs, T.me c m = some fs → MeD X k c m fs) (hr : Room k X.A) (ha : PE X a (lift (cn X) W (wE T ia))) (hc : PE X c (lift (cn X) W (wE T ic))) (hb : behindInMarks op c = false) :
    PE X (.Compare a [op] [c] pos) (lift (cn X) W (wE T (.inm neg ia ic))) := pe_imp (pe_inm tk ho ha hc hb) fun s H Q ⟨b, G0, H0, G, n, r, Qd, Ex, h, t, x, k⟩ =>
  inm_read hm hr h t x fun z G' H' n' st q => k _ G' H' n' _ st (.bl z) q
theorem dt_inm {k : Nat} {neg : Bool} {op : CmpOp} {a c : Expr} {ia ic : IE} {pos : Pos} (tk : Takes X W) (ho : op = if neg then .NotIn else .In) (hm : ∀ c m fs, T.me c m = some fs → MeD X k c m fs) (hr : Room k X.A) (ha : PE X a (lift (cn X) W (wE T ia))) (hc : PE X c (lift (cn X) W (wE T ic))) (hb : behindInMarks op c = false) :
    PT X (.Compare a [op] [c] pos) (lT X W (wE T (.inm neg ia ic))) := pt_imp (pt_inm tk ho ha hc hb) fun s H Q ⟨b, G0, H0, G, n, r, Qd, Ex, h, t, x, k⟩ =>
  inm_read (Q := fun v H' => ∃ z, v = .bl z ∧ Q z H') hm hr h t x fun z G' H' n' st q => ⟨z, rfl, k G' H' n' z st q⟩
/-! ### making -/
/-- what a class's __init__ promises -/
def spMk (c : Cn) (C : Addr) (fs : FS) : Sp := fun vs H Q _ => ∃ x dx us H1 b G n ds Qd, vs = .ref x :: us ∧ H1 x = none ∧ H1 dx = none ∧ dx ≠ x ∧ H = upd (upd H1 dx (.own x)) x (.ins C dx []) ∧ Ok b G H1 n ∧ Rps c.K b G us ds ∧ fs ds n Qd noX ∧
  ∀ G' H' n' d, Stp b G H1 G' H' n' → Rp c.K b G' (.ref x) d → Qd d n' → Q .non H'
structure ClD (X : Cx) (k : Nat) (c : Str) (fs : FS) : Prop where
  ex : ∃ (C f : Addr) (fd : FuncData) (ps : List Str) (j : Nat), X.mg c = some (.ref C) ∧ Mk X.K C f ∧ Binds X.K fd ps [] ∧ j + 1 ≤ k ∧ FnOk X.prog X.w X.K X.mg X.base (L2.CX X.prog X.w) j f fd ps (spMk (cn X) C fs)
theorem de_mk {k : Nat} {c : Str} {e : Expr} {es : List Expr} {ia : IAs} {p pos : Pos} (hf : ∀ fs, T.cl c = some fs → ClD X k c fs) (hr : Room k X.A) (hg : Gl X c) (hdb : (c == ("__debug__" : Str)) = false) (ha : PA X (e :: es) (liftA (cn X) W (wA T ia)))
    (he : starEach (e :: es) X.env = (false, eval e X.env) :: starEach es X.env) (hpl : (backTo pos (starEach es X.env)).any (·.1) = false) : PE X (.Call (.Name c p) (e :: es) [] pos) (lift (cn X) W (wE T (.mk c ia))) := by
  cases q : T.cl c with
  | none => exact ⟨fun pins s a H Q I ⟨b, G0, H0, G, n, r, Qd, Ex, h, t, x, k⟩ => by
      rw [wE, q] at t
      exact t.elim⟩
  | some fs =>
    obtain ⟨C, f, fd, ps, j, h1, h2, h3, h4, h5⟩ := (hf fs q).ex
    refine pe_imp (pe_make h2 h5 (hr.mono h4) hg h1 h3 .nil passes_no ha hdb he hpl) fun s H Q ⟨b, G0, H0, G, n, r, Qd, Ex, h, t, x, k⟩ => ?_
    rw [wE, q, ofO_some] at t
    refine liftA_bind h x t fun v G1 H1 n1 d h1 x1 s1 r1 q1 => fun o dx no ndx ne => ?_
    exact ⟨o, dx, v, H1, b, G1, n1, d, Qd, by rw [List.append_nil], no, ndx, ne, rfl, h1.ok, r1, q1, fun G' H' n' dd st rr qq => ⟨rfl, k _ G' H' n' dd (s1.trans st) rr qq⟩⟩
/-! ### calls by keywords alone -/
structure KwD (X : Cx) (k : Nat) (f : Str) (ks : List Str) (fs : FS) : Prop where
  ex : ∃ (a : Addr) (fd : FuncData) (ps : List Str) (g : List Value → List Value → List Value) (gV : List V → List V → List V) (sp : Sp), X.mg f = some (.ref a) ∧ PySem.W.keepIn X.K (.ref a) = true ∧ KBn X.K fd ps 0 ks g gV ∧ FnOk X.prog X.w X.K X.mg X.base (L2.CX X.prog X.w) k a fd ps sp ∧
    ∀ zs H Q E, spOf (cn X) fs zs H Q E → zs.length = ks.length ∧ sp (gV [] zs) H Q E
def tCallKS (m : Nat) (sp : Sp) (gV : List V → List V → List V) (E : L2.St → XK) (t : TA) : TE := fun a0 H Q => t a0 H fun zs H2 => zs.length = m ∧ sp (gV [] zs) H2 Q (E a0)
theorem pe_callk {f : Addr} {fd : FuncData} {ps ks : List Str} {sp : Sp} {k : Nat} {x : Str} {p pos : Pos} {kws : List Keyword} {t : TA} {g : List Value → List Value → List Value} {gV : List V → List V → List V} (tk : Takes X W) (F : FnOk X.prog X.w X.K X.mg X.base (L2.CX X.prog X.w) k f fd ps sp) (hr : Room k X.A) (hg : Gl X x) (hm : X.mg x = some (.ref f)) (hk : PySem.W.keepIn X.K (.ref f) = true) (hb : KBn X.K fd ps 0 ks g gV) (hkw : PK X kws t)
    (hall : (backToKw pos (keywordEach kws X.env)).all (·.1.isSome) = true) (hks : (backToKw pos (keywordEach kws X.env)).filterMap (·.1) = ks) (hdb : (x == ("__debug__" : Str)) = false) (hpl : ((backTo pos (starEach [] X.env)).any (·.1) || (backToKw pos (keywordEach kws X.env)).any (·.1.isNone)) = false) :
    PE X (.Call (.Name x p) [] kws pos) (tCallKS ks.length sp gV (WE W) t) := by
  refine ⟨fun pins s a0 H Q I h => ?_⟩
  refine wpAny_Call_Name_kw (ld_glob I hg hm ?_ hdb)
  refine PySem.W.callWith_KW0 (h₀ := X.base) I.ok.mod.kin hk hall (thn (hkw.run pos pins _ a0 H _ I h) fun ws s2 ⟨zs, H2, I2, rz, l2, q2⟩ => ⟨I2.kIn, ?_⟩) hpl
  rw [hks]
  have r2 := hb.rel (vs := []) (us := []) .nil rz
  refine wpAny_call (codeAny_mono (F.run X.A X.stack s2 H2 ⟨[], ks.zip ws⟩ (g [] ws) (gV [] zs) Q (WE W a0) hr I2.env0 (hb.to s2 [] ws I2.kIn rfl (rz.length.symm.trans l2)) r2 q2) fun u s' hq => ?_)
  cases u with
  | error e => exact passAt tk a0 pins H2 s2 e s' I2 hq
  | ok fl =>
    cases fl with
    | ret u => exact I2.after hq
    | next => exact False.elim hq
    | brk => exact False.elim hq
    | cont => exact False.elim hq
theorem de_callk {k : Nat} {f : Str} {ks : List Str} {kws : List Keyword} {ia : IAs} {p pos : Pos} (tk : Takes X W) (hf : ∀ fs, T.kw f ks = some fs → KwD X k f ks fs) (hr : Room k X.A) (hg : Gl X f) (hdb : (f == ("__debug__" : Str)) = false) (hkw : PK X kws (liftA (cn X) W (wA T ia)))
    (hall : (backToKw pos (keywordEach kws X.env)).all (·.1.isSome) = true) (hks : (backToKw pos (keywordEach kws X.env)).filterMap (·.1) = ks) (hpl : ((backTo pos (starEach [] X.env)).any (·.1) || (backToKw pos (keywordEach kws X.env)).any (·.1.isNone)) = false) :
    PE X (.Call (.Name f p) [] kws pos) (lift (cn X) W (wE T (.callk f ks ia))) := by
  cases q : T.kw f ks with
  | none => exact ⟨fun pins s a H Q I ⟨b, G0, H0, G, n, r, Qd, Ex, h, t, x, k⟩ => by
      rw [wE, q] at t
      exact t.elim⟩
  | some fs =>
    obtain ⟨a, fd, ps, g, gV, sp, h1, h2, h3, h4, h5⟩ := (hf fs q).ex
    refine pe_imp (pe_callk tk h4 hr hg h1 h2 h3 hkw hall hks hdb hpl) fun s H Q ⟨b, G0, H0, G, n, r, Qd, Ex, h, t, x, k⟩ => ?_
    rw [wE, q, ofO_some] at t
    refine liftA_bind h x t fun v G1 H1 n1 d h1 x1 s1 r1 q1 => ?_
    exact h5 v H1 Q (WE W s) ⟨b, G1, n1, d, Qd, Ex, h1.ok, r1, q1, fun cls d G' H' n' xx st rx ex => x1 cls d G' H' n' xx st rx ex, fun v G' H' n' d st rr qq => k v G' H' n' d (s1.trans st) rr qq⟩
/-! ### max, min -/
theorem ints_rps {K : PySem.W.Frag} {b : Option Addr} {G : Hp} : ∀ {xs : List V} {ds : List D} {is : List Int}, Rps K b G xs ds → intsD ds = some is → xs = is.map V.int
  | [], ds, is, g, e => by
    cases g
    cases e
    rfl
  | x :: xs, ds, is, g, e => by
    cases g with
    | @cons _ _ d ds' h g =>
      cases d with
      | int i =>
        rw [intsD] at e
        cases q : intsD ds' with
        | none => rw [q] at e; cases e
        | some js =>
          rw [q] at e
          cases e
          rw [ints_rps g q, rp_int_inv h]
          rfl
      | _ => cases e
theorem maxL_mem : ∀ {is : List Int}, is ≠ [] → maxL is ∈ is ∧ ∀ y ∈ is, y ≤ maxL is
  | [], h => absurd rfl h
  | [i], _ => ⟨List.mem_singleton.mpr rfl, fun y hy => by rw [List.mem_singleton.mp hy]; exact Int.le_refl _⟩
  | i :: j :: r, _ => by
    obtain ⟨h1, h2⟩ := maxL_mem (is := j :: r) (by simp)
    have e : maxL (i :: j :: r) = max i (maxL (j :: r)) := rfl
    rw [e]
    refine ⟨?_, fun y hy => ?_⟩
    · by_cases c : i ≤ maxL (j :: r)
      · rw [Int.max_eq_right c]
        exact List.mem_cons_of_mem _ h1
      · rw [Int.max_eq_left (by omega)]
        exact List.mem_cons_self ..
    · rcases List.mem_cons.mp hy with z | z
      · rw [z]; exact Int.le_max_left ..
      · exact Int.le_trans (h2 y z) (Int.le_max_right ..)
theorem minL_mem : ∀ {is : List Int}, is ≠ [] → minL is ∈ is ∧ ∀ y ∈ is, minL is ≤ y
  | [], h => absurd rfl h
  | [i], _ => ⟨List.mem_singleton.mpr rfl, fun y hy => by rw [List.mem_singleton.mp hy]; exact Int.le_refl _⟩
  | i :: j :: r, _ => by
    obtain ⟨h1, h2⟩ := minL_mem (is := j :: r) (by simp)
    have e : minL (i :: j :: r) = min i (minL (j :: r)) := rfl
    rw [e]
    refine ⟨?_, fun y hy => ?_⟩
    · by_cases c : i ≤ minL (j :: r)
      · rw [Int.min_eq_left c]
        exact List.mem_cons_self ..
      · rw [Int.min_eq_right (by omega)]
        exact List.mem_cons_of_mem _ h1
    · rcases List.mem_cons.mp hy with z | z
      · rw [z]; exact Int.min_le_left ..
      · exact Int.le_trans (Int.min_le_right ..) (h2 y z)
theorem max_eq (i j : Int) : (if j > i then j else i) = max i j := by
  split <;> omega
theorem min_eq (i j : Int) : (if j < i then j else i) = min i j := by
  split <;> omega
theorem de_max2 {a c : Expr} {ia ic : IE} {p pos : Pos} (hc : X.calm = true) (hg : Gl X "max") (hm : X.mg "max" = none) (ha : PE X a (lift (cn X) W (wE T ia))) (hcc : PE X c (lift (cn X) W (wE T ic))) (hs : starEach [a, c] X.env = (false, eval a X.env) :: starEach [c] X.env) (hs2 : starEach [c] X.env = [(false, eval c X.env)]) :
    PE X (.Call (.Name "max" p) [a, c] [] pos) (lift (cn X) W (wE T (.mm true ia ic))) :=
  pe_imp (pe_callB (call_max2 hc) hg hm (by decide +kernel) (pa_cons ha (pa_cons hcc pa_nil hs2) hs) (by decide +kernel) (by decide +kernel) hs (by rw [hs2]; rfl)) fun s H Q ⟨b, G0, H0, G, n, r, Qd, Ex, h, t, x, k⟩ => by
    rw [wE] at t
    refine lift_bind h x t fun v G1 H1 n1 d h1 x1 s1 r1 q1 => lift_bind h1 x1 q1 fun w G2 H2 n2 e h2 x2 s2 r2 q2 => ?_
    cases d with
    | int i =>
      cases e with
      | int j =>
        cases rp_int_inv r1
        cases rp_int_inv r2
        refine ⟨i, j, rfl, ?_⟩
        rw [max_eq]
        exact k _ G2 H2 n2 _ (s1.trans s2) (.int _) q2
      | _ => exact q2.elim
    | _ => cases e <;> exact q2.elim
theorem de_min2 {a c : Expr} {ia ic : IE} {p pos : Pos} (hc : X.calm = true) (hg : Gl X "min") (hm : X.mg "min" = none) (ha : PE X a (lift (cn X) W (wE T ia))) (hcc : PE X c (lift (cn X) W (wE T ic))) (hs : starEach [a, c] X.env = (false, eval a X.env) :: starEach [c] X.env) (hs2 : starEach [c] X.env = [(false, eval c X.env)]) :
    PE X (.Call (.Name "min" p) [a, c] [] pos) (lift (cn X) W (wE T (.mm false ia ic))) :=
  pe_imp (pe_callB (call_min2 hc) hg hm (by decide +kernel) (pa_cons ha (pa_cons hcc pa_nil hs2) hs) (by decide +kernel) (by decide +kernel) hs (by rw [hs2]; rfl)) fun s H Q ⟨b, G0, H0, G, n, r, Qd, Ex, h, t, x, k⟩ => by
    rw [wE] at t
    refine lift_bind h x t fun v G1 H1 n1 d h1 x1 s1 r1 q1 => lift_bind h1 x1 q1 fun w G2 H2 n2 e h2 x2 s2 r2 q2 => ?_
    cases d with
    | int i =>
      cases e with
      | int j =>
        cases rp_int_inv r1
        cases rp_int_inv r2
        refine ⟨i, j, rfl, ?_⟩
        rw [min_eq]
        exact k _ G2 H2 n2 _ (s1.trans s2) (.int _) q2
      | _ => exact q2.elim
    | _ => cases e <;> exact q2.elim
theorem de_maxL {a : Expr} {ia : IE} {p pos : Pos} (hc : X.calm = true) (hg : Gl X "max") (hm : X.mg "max" = none) (ha : PE X a (lift (cn X) W (wE T ia))) (hs : starEach [a] X.env = [(false, eval a X.env)]) :
    PE X (.Call (.Name "max" p) [a] [] pos) (lift (cn X) W (wE T (.mmL true ia))) :=
  pe_imp (pe_callB (cr_max hc) hg hm (by decide +kernel) (pa_cons ha pa_nil hs) (by decide +kernel) (by decide +kernel) hs) fun s H Q ⟨b, G0, H0, G, n, r, Qd, Ex, h, t, x, k⟩ => by
    rw [wE] at t
    refine lift_bind h x t fun v G1 H1 n1 d h1 x1 s1 r1 q1 => ?_
    cases d with
    | list ds =>
      obtain ⟨is, ei, ne, q⟩ := ofO_iff q1
      obtain ⟨l, vs, rfl, hl, z1, g1⟩ := rp_list_inv r1
      cases ints_rps g1 ei
      refine ⟨l, is, rfl, SqL.of (h1.ok.sub _ _ hl), List.length_pos_iff.mpr ne, fun m hm1 hm2 => ?_⟩
      obtain ⟨e1, e2⟩ := maxL_mem ne
      have em : m = maxL is := Int.le_antisymm (e2 m hm1) (hm2 _ e1)
      rw [em]
      exact k _ G1 H1 n1 _ s1 (.int _) q
    | _ => exact q1.elim
theorem de_minL {a : Expr} {ia : IE} {p pos : Pos} (hc : X.calm = true) (hg : Gl X "min") (hm : X.mg "min" = none) (ha : PE X a (lift (cn X) W (wE T ia))) (hs : starEach [a] X.env = [(false, eval a X.env)]) :
    PE X (.Call (.Name "min" p) [a] [] pos) (lift (cn X) W (wE T (.mmL false ia))) :=
  pe_imp (pe_callB (cr_min hc) hg hm (by decide +kernel) (pa_cons ha pa_nil hs) (by decide +kernel) (by decide +kernel) hs) fun s H Q ⟨b, G0, H0, G, n, r, Qd, Ex, h, t, x, k⟩ => by
    rw [wE] at t
    refine lift_bind h x t fun v G1 H1 n1 d h1 x1 s1 r1 q1 => ?_
    cases d with
    | list ds =>
      obtain ⟨is, ei, ne, q⟩ := ofO_iff q1
      obtain ⟨l, vs, rfl, hl, z1, g1⟩ := rp_list_inv r1
      cases ints_rps g1 ei
      refine ⟨l, is, rfl, SqL.of (h1.ok.sub _ _ hl), List.length_pos_iff.mpr ne, fun m hm1 hm2 => ?_⟩
      obtain ⟨e1, e2⟩ := minL_mem ne
      have em : m = minL is := Int.le_antisymm (hm2 _ e1) (e2 m hm1)
      rw [em]
      exact k _ G1 H1 n1 _ s1 (.int _) q
    | _ => exact q1.elim
end
end Dl

set_option Elab.async false
set_option linter.all false
set_option maxRecDepth 100000
set_option maxHeartbeats 4000000
/-! Own objects changed; x += e. -/
namespace Dl
open PySem PySem.Spec PyProof.Rows L2
/-- what an own thing is, at its place -/
def OwnIs (K : PySem.W.Frag) (b : Option Addr) (G : Hp) (o : HO) (d : D) : Prop :=
  (∃ xs ds, d = .list ds ∧ o = .lst xs ∧ xs.length ≤ sizeLine ∧ Rps K b G xs ds) ∨ (∃ xs ds, d = .dict ds ∧ o = .dK xs ∧ xs.length ≤ sizeLine ∧ Rkv K b G xs ds) ∨
    (∃ C dx c xs ds, d = .obj c ds ∧ PySem.W.nsIn K mainGlobals c = some (some (.ref C)) ∧ o = .ins C dx xs ∧ xs.length ≤ 900 ∧ Rfs K b G xs ds)
theorem OwnIs.at {K : PySem.W.Frag} {b : Option Addr} {G H : Hp} {o : HO} {d : D} {p : Addr} (h : OwnIs K b G o d) (e : H p = some o) : (∃ xs ds, d = .list ds ∧ H p = some (.lst xs) ∧ xs.length ≤ sizeLine ∧ Rps K b G xs ds) ∨ (∃ xs ds, d = .dict ds ∧ H p = some (.dK xs) ∧ xs.length ≤ sizeLine ∧ Rkv K b G xs ds) ∨
    (∃ C dx c xs ds, d = .obj c ds ∧ PySem.W.nsIn K mainGlobals c = some (some (.ref C)) ∧ H p = some (.ins C dx xs) ∧ xs.length ≤ 900 ∧ Rfs K b G xs ds) := by
  rcases h with ⟨xs, ds, h1, rfl, h3⟩ | ⟨xs, ds, h1, rfl, h3⟩ | ⟨C, dx, c, xs, ds, h1, h0, rfl, h3⟩
  · exact .inl ⟨xs, ds, h1, e, h3⟩
  · exact .inr (.inl ⟨xs, ds, h1, e, h3⟩)
  · exact .inr (.inr ⟨C, dx, c, xs, ds, h1, h0, e, h3⟩)
/-- an own thing is changed -/
theorem Rho.writeG {K : PySem.W.Frag} {b : Option Addr} {G0 H0 G H : Hp} {n : Nat} {s : L2.St} {r : List Ent} (h : Rho K b G0 H0 G H n s r) {i : Nat} {p : Addr} {d d' : D} {o : HO} (e : r[i]? = some (.ow d)) (es' : s[i]? = some (some (.ref p))) (g : OwnIs K b G o d') :
    Rho K b G0 H0 G (upd H p o) n s (r.set i (.ow d')) := by
  obtain ⟨p', e1, e2, e3, e4, e5⟩ := h.ent i _ e
  rw [es'] at e1
  have ep : p' = p := by cases e1; rfl
  subst ep
  have sub : Same G (upd H p' o) := fun a u q => by
    rw [upd_ne (ne_of_none q e2)]
    exact h.ok.sub a u q
  have bx : ∀ q, b = some q → BoxAt (upd H p' o) q n := fun q eq => by
    obtain ⟨x, y, z, f1, f2⟩ := (h.ok.box q eq).2
    have nq : q ≠ p' := fun z => e4 (by rw [← z]; exact eq.symm)
    exact ⟨x, y, z, by rw [upd_ne nq]; exact f1, f2⟩
  refine ⟨⟨sub, fun q eq => ⟨(h.ok.box q eq).1, bx q eq⟩⟩, ⟨h.st.gg, sub, fun a u nb q => ?_, h.st.nw, bx⟩, by rw [List.length_set]; exact h.len, fun j x q => ?_, fun j k q d1 d2 q1 q2 q3 q4 => ?_⟩
  · rw [upd_ne (ne_of_none q e3)]
    exact h.st.kp a u nb q
  · by_cases hj : i = j
    · subst hj
      have hl : i < r.length := by
        have := (List.getElem?_eq_some_iff.mp q).1
        simpa using this
      rw [List.getElem?_set_self hl] at q
      cases q
      exact ⟨p', es', e2, e3, e4, g.at upd_same⟩
    · rw [List.getElem?_set_ne hj] at q
      have en := h.ent j x q
      cases x with
      | no => trivial
      | sh d' => exact en
      | ow d' =>
        obtain ⟨p2, f1, f2, f3, f4, f5⟩ := en
        have np : p2 ≠ p' := fun z => by
          subst z
          exact hj (h.dj i j p2 _ d' e q es' f1)
        refine ⟨p2, f1, f2, f3, f4, ?_⟩
        rw [upd_ne np]
        exact f5
  · have key : ∀ (m : Nat) (dd : D), (r.set i (.ow d'))[m]? = some (.ow dd) → ∃ d', r[m]? = some (.ow d') := fun m dd q => by
      by_cases hm : i = m
      · subst hm
        exact ⟨_, e⟩
      · rw [List.getElem?_set_ne hm] at q
        exact ⟨dd, q⟩
    obtain ⟨d1', f1⟩ := key j d1 q1
    obtain ⟨d2', f2⟩ := key k d2 q2
    exact h.dj j k q d1' d2' f1 f2 q3 q4
theorem Rfs.put {K : PySem.W.Frag} {b : Option Addr} {G : Hp} {f : Str} {v : V} {d : D} (h : Rp K b G v d) : ∀ {vs : List (Str × V)} {ds : List (Str × D)}, Rfs K b G vs ds → Rfs K b G (putF f v vs) (putD f d ds)
  | [], ds, g => by
    cases g
    exact .cons h .nil
  | w :: ws, ds, g => by
    cases g with
    | @cons k v' vs' d' ds' h' g' =>
      rw [putF, putD]
      split
      · rename_i e
        subst e
        exact .cons h g'
      · exact .cons h' (Rfs.put h g')
theorem putF_len (f : Str) (v : V) : ∀ vs : List (Str × V), (putF f v vs).length ≤ vs.length + 1
  | [] => Nat.le_refl _
  | (g, x) :: r => by
    rw [putF]
    split
    · exact Nat.le_succ _
    · have := putF_len f v r
      rw [List.length_cons, List.length_cons]
      omega
theorem putD_len (f : Str) (v : D) : ∀ vs : List (Str × D), (putD f v vs).length ≤ vs.length + 1
  | [] => Nat.le_refl _
  | (g, x) :: r => by
    rw [putD]
    split
    · exact Nat.le_succ _
    · have := putD_len f v r
      rw [List.length_cons, List.length_cons]
      omega
section
variable {X : Cx} {W : WD} {T : Tab}
/-- e.f as a target -/
def gAtt (K : PySem.W.Frag) (to : TE) (f : Str) : TG := fun v a0 H Q => to a0 H fun x H1 => ∃ a C dx fs, x = .ref a ∧ H1 a = some (.ins C dx fs) ∧ Cls K C ∧ NoAttr K C f ∧ fs.length < 1000 ∧ Q a0 (upd H1 a (.ins C dx (putF f v fs)))
theorem pg_att {o : Expr} {to : TE} {f : Str} {pos : Pos} (ho : PE X o to) : PG X (.Attribute o f pos) (gAtt X.K to f) := by
  refine ⟨fun pins s a0 H v u Q I r h => ?_⟩
  rw [assign_Attribute]
  refine wpAny_bind (wpAny_holding (thn (ho.run pins s a0 H _ I h) fun ov s1 ⟨x, H1, I1, r1, a, C, dx, fs, ex, hp, cl, na, hl, q1⟩ => ?_))
  subst ex
  cases r1
  refine wpAny_bind (wpAny_standAt (wpAny_bind (wpAny_holding (setattr_ok I1 hp cl na hl r fun s2 I2 => ?_))))
  exact wpAny_release ⟨a0, _, I2, q1⟩
/-- the object's place, read -/
theorem ow_obj {K : PySem.W.Frag} {b : Option Addr} {G0 H0 G H : Hp} {n : Nat} {s : L2.St} {r : List Ent} (h : Rho K b G0 H0 G H n s r) {i : Nat} {o : Str × List (Str × D)} (e : owO r i = some o) :
    r[i]? = some (.ow (.obj o.1 o.2)) ∧ ∃ p C dx xs, s[i]? = some (some (.ref p)) ∧ PySem.W.nsIn K mainGlobals o.1 = some (some (.ref C)) ∧ H p = some (.ins C dx xs) ∧ xs.length ≤ 900 ∧ Rfs K b G xs o.2 := by
  unfold owO at e
  split at e
  · rename_i c ys e0
    cases e
    obtain ⟨p, e1, _, _, _, e5⟩ := h.ent i _ e0
    rcases e5 with ⟨xs, ds, ed, _⟩ | ⟨xs, ds, ed, _⟩ | ⟨C, dx, c, xs, ds, ed, e6, e7, e8, e9⟩
    · cases ed
    · cases ed
    · cases ed
      exact ⟨e0, p, C, dx, xs, e1, e6, e7, e8, e9⟩
  · cases e
theorem att_bind {i : Nat} {f : Str} {v : V} {d : D} {c : Str} {ds : List (Str × D)} {b : Option Addr} {G0 H0 G H : Hp} {n : Nat} {s : L2.St} {r : List Ent} {Q : L2.St → Hp → Prop} (hf : FlD X.K c f) (h : Rho X.K b G0 H0 G H n s r) (e : owO r i = some (c, ds)) (hl : ds.length + 1 ≤ 900) (hv : Rp X.K b G v d)
    (k : ∀ H', Rho X.K b G0 H0 G H' n s (r.set i (.ow (.obj c (putD f d ds)))) → Q s H') : gAtt X.K (tVar i) f v s H Q := by
  obtain ⟨C, n1, cl, na⟩ := hf.ex
  obtain ⟨e0, p, C', dx, xs, e1, e2, e3, e4, e5⟩ := ow_obj h e
  cases ns_inj n1 e2
  have hlen := e5.length
  have := putF_len f v xs
  refine ⟨_, e1, p, C, dx, xs, rfl, e3, cl, na, by omega, k _ (h.writeG e0 e1 (.inr (.inr ⟨C, dx, c, _, _, rfl, e2, rfl, ?_, Rfs.put hv e5⟩)))⟩
  dsimp only at hlen
  omega
theorem ow_set {r : List Ent} {i : Nat} {c : Str} {ds es : List (Str × D)} (e : owO r i = some (c, ds)) : owO (r.set i (.ow (.obj c es))) i = some (c, es) := by
  have hl : i < r.length := by
    unfold owO at e
    split at e
    · rename_i q
      exact (List.getElem?_eq_some_iff.mp q).1
    · cases e
  unfold owO
  rw [List.getElem?_set_self hl]
theorem ds_stf1 {i : Nat} {x f : Str} {e : Expr} {ie : IE} {px p2 pos : Pos} (hf : ∀ c f, T.fl c f = true → FlD X.K c f) (hN : X.N[i]? = some x) (hv : Vis X.env.scope x) (hd : (x == ("__debug__" : Str)) = false) (hcd : (x == ("__classdict__" : Str)) = false) (he : PE X e (lift (cn X) W (wE T ie)))
    (hs : swapsWith e (some (.Attribute (.Name x px) f p2)) pos.line X.env = pure false) : PS X (.Assign [.Attribute (.Name x px) f p2] e pos) (liftS (cn X) W (wS T (.stf i [f] (.cons ie .nil)))) :=
  ps_imp (ps_fld (pe_var hN hv hd hcd) he hs) fun N s H ⟨b, G0, H0, G, n, r, E, h, t, k⟩ => by
    rw [wS] at t
    obtain ⟨⟨c, ds⟩, eo, fl, hl, t⟩ := ofO_iff t
    rw [wA] at t
    refine lift_bind h (k.xok h) t fun v G1 H1 n1 d h1 x1 s1 r1 q1 => ?_
    rw [wA] at q1
    obtain ⟨o', eo', q⟩ := ofO_iff q1
    have eo' : putD f d ds = o' := by simpa [putsD] using eo'
    subst eo'
    exact att_bind (Q := N.nx) (hf c f (fl f (List.mem_singleton.mpr rfl))) h1 eo hl r1 fun H' h' => k.nx s G1 H' n1 _ h' q
theorem ds_stf2 {i : Nat} {x f1 f2 : Str} {es : List Expr} {ia : IAs} {px p2 py p3 pt pe pos : Pos} {kt ke : Nat} (hc : X.calm = true) (hf : ∀ c f, T.fl c f = true → FlD X.K c f) (hN : X.N[i]? = some x) (hv : Vis X.env.scope x) (hd : (x == ("__debug__" : Str)) = false) (hcd : (x == ("__classdict__" : Str)) = false) (ha : PA X es (liftA (cn X) W (wA T ia)))
    (hs : swapsWithSole [.Tuple [.Attribute (.Name x px) f1 p2, .Attribute (.Name x py) f2 p3] kt pt] (.Tuple es ke pe) pos.line X.env = pure false) (hw : swappedStores [.Tuple [.Attribute (.Name x px) f1 p2, .Attribute (.Name x py) f2 p3] kt pt] (.Tuple es ke pe) X.env = pure none) :
    PS X (.Assign [.Tuple [.Attribute (.Name x px) f1 p2, .Attribute (.Name x py) f2 p3] kt pt] (.Tuple es ke pe) pos) (liftS (cn X) W (wS T (.stf i [f1, f2] ia))) :=
  ps_imp (ps_asg (pe_tup ha) (pg_tup hc (pgs_cons (pg_att (pe_var hN hv hd hcd)) (pgs_cons (pg_att (pe_var hN hv hd hcd)) pgs_nil))) hs hw) fun N s H ⟨b, G0, H0, G, n, r, E, h, t, k⟩ => by
    rw [wS] at t
    obtain ⟨⟨c, ds⟩, eo, fl, hl, t⟩ := ofO_iff t
    refine liftA_bind h (k.xok h) t fun v G1 H1 n1 d h1 x1 s1 r1 q1 => ?_
    obtain ⟨o', eo', q⟩ := ofO_iff q1
    match d, r1, eo' with
    | [d1, d2], .cons (v := v1) g1 (.cons (v := v2) g2 .nil), eo' =>
      have eo' : putD f2 d2 (putD f1 d1 ds) = o' := by simpa [putsD] using eo'
      subst eo'
      refine ⟨(by show 2 ≤ sizeLine; rw [sizeLine_eq]; decide), fun p np => ?_⟩
      obtain ⟨s2, r2⟩ := rp_new_tup h1.ok np (.cons g1 (.cons g2 .nil)) (by show 2 ≤ sizeLine; rw [sizeLine_eq]; decide)
      have h2 := h1.step s2
      have hl1 := putD_len f1 d1 ds
      have hl : ds.length + 2 ≤ 900 := hl
      refine ⟨p, [v1, v2], rfl, SqT.of upd_same, rfl, v1, [v2], rfl, ?_⟩
      refine att_bind (hf c f1 (fl f1 (List.mem_cons_self ..))) h2 eo (by omega) (g1.mono s2.gg) fun H' h' => ⟨v2, [], rfl, ?_⟩
      refine att_bind (hf c f2 (fl f2 (List.mem_cons_of_mem _ (List.mem_singleton.mpr rfl)))) h' (ow_set eo) (by omega) (g2.mono s2.gg) fun H'' h'' => ⟨rfl, ?_⟩
      rw [List.set_set] at h''
      exact k.nx s _ H'' n1 _ h'' q
theorem ds_inc {i : Nat} {x : Str} {e : Expr} {ie : IE} {p pos : Pos} (hN : X.N.Nodup) (hi : X.N[i]? = some x) (hx : Loc X.env.scope x) (he : PE X e (lift (cn X) W (wE T ie))) (hf : X.fn x = true ∨ X.env.scope.names.lookup x = some .local) : PS X (.AugAssign (.Name x p) .Add e pos) (liftS (cn X) W (wS T (.inc i ie))) :=
  ps_imp (ps_aug hN hi hx he ip_add hf) fun N s H ⟨b, G0, H0, G, n, r, E, h, t, k⟩ => by
    rw [wS] at t
    split at t
    · rename_i x0 er
      obtain ⟨v, e1, e2⟩ := h.ent i _ er
      cases rp_int_inv e2
      refine ⟨_, e1, lift_bind h (k.xok h) t fun w G1 H1 n1 d h1 x1 s1 r1 q1 => ?_⟩
      cases d with
      | int y =>
        cases rp_int_inv r1
        exact ⟨x0, y, rfl, rfl, k.nx _ G1 H1 n1 _ (h1.setSh (.int _)) q1⟩
      | _ => exact q1.elim
    · exact t.elim
end
end Dl

set_option Elab.async false
set_option linter.all false
set_option maxRecDepth 100000
set_option maxHeartbeats 4000000
/-! a, b = x, [] : several stores at once, of which some are new lists of one's own. -/
namespace Dl
open PySem PySem.Spec PyProof.Rows L2
theorem OwnIs.mono {K : PySem.W.Frag} {b : Option Addr} {G G' : Hp} {o : HO} {d : D} (h : OwnIs K b G o d) (s : Same G G') : OwnIs K b G' o d := by
  rcases h with ⟨xs, ds, h1, h2, h3, h4⟩ | ⟨xs, ds, h1, h2, h3, h4⟩ | ⟨C, dx, c, xs, ds, h1, h0, h2, h3, h4⟩
  · exact .inl ⟨xs, ds, h1, h2, h3, h4.mono s⟩
  · exact .inr (.inl ⟨xs, ds, h1, h2, h3, h4.mono s⟩)
  · exact .inr (.inr ⟨C, dx, c, xs, ds, h1, h0, h2, h3, h4.mono s⟩)
/-- values of which some are one's own -/
def OwA (K : PySem.W.Frag) (b : Option Addr) (H G' H' : Hp) : List Bool → List Addr → List V → List D → Prop
  | [], [], [], [] => True
  | false :: fl, ps, v :: vs, d :: ds => Rp K b G' v d ∧ OwA K b H G' H' fl ps vs ds
  | true :: fl, p :: ps, v :: vs, d :: ds => v = .ref p ∧ H p = none ∧ G' p = none ∧ some p ≠ b ∧ p ∉ ps ∧ (∃ o, H' p = some o ∧ OwnIs K b G' o d) ∧ OwA K b H G' H' fl ps vs ds
  | _, _, _, _ => False
section
variable {K : PySem.W.Frag} {b : Option Addr} {H G1 H1 G2 H2 : Hp} {n2 : Nat}
theorem OwA.step (st : Stp b G1 H1 G2 H2 n2) : ∀ {fl : List Bool} {ps : List Addr} {vs : List V} {ds : List D}, OwA K b H G1 H1 fl ps vs ds → OwA K b H G2 H2 fl ps vs ds
  | [], [], [], [], h => h
  | false :: fl, ps, v :: vs, d :: ds, h => ⟨h.1.mono st.gg, OwA.step st h.2⟩
  | true :: fl, p :: ps, v :: vs, d :: ds, h => by
    obtain ⟨h1, h2, h3, h4, h5, ⟨o, h6, h7⟩, h8⟩ := h
    refine ⟨h1, h2, ?_, h4, h5, ⟨o, st.kp _ _ h4 h6, h7.mono st.gg⟩, OwA.step st h8⟩
    cases q : G2 p with
    | none => rfl
    | some u =>
      rcases st.nw p u q with z | z
      · rw [h3] at z; cases z
      · rw [h6] at z; cases z
theorem OwA.old {Ha : Hp} (ho : ∀ p, H p = none → Ha p = none) : ∀ {fl : List Bool} {ps : List Addr} {vs : List V} {ds : List D}, OwA K b H G1 H1 fl ps vs ds → OwA K b Ha G1 H1 fl ps vs ds
  | [], [], [], [], h => h
  | false :: fl, ps, v :: vs, d :: ds, h => ⟨h.1, OwA.old ho h.2⟩
  | true :: fl, p :: ps, v :: vs, d :: ds, h => by
    obtain ⟨h1, h2, h3, h4, h5, h6, h8⟩ := h
    exact ⟨h1, ho p h2, h3, h4, h5, h6, OwA.old ho h8⟩
theorem OwA.free : ∀ {fl : List Bool} {ps : List Addr} {vs : List V} {ds : List D}, OwA K b H G1 H1 fl ps vs ds → ∀ p ∈ ps, H p = none
  | [], [], [], [], _, p, hp => by cases hp
  | false :: fl, ps, v :: vs, d :: ds, h, p, hp => OwA.free h.2 p hp
  | true :: fl, q :: ps, v :: vs, d :: ds, h, p, hp => by
    rcases List.mem_cons.mp hp with z | z
    · rw [z]; exact h.2.1
    · exact OwA.free h.2.2.2.2.2.2 p z
theorem OwA.length : ∀ {fl : List Bool} {ps : List Addr} {vs : List V} {ds : List D}, OwA K b H G1 H1 fl ps vs ds → vs.length = ds.length
  | [], [], [], [], _ => rfl
  | false :: fl, ps, v :: vs, d :: ds, h => by rw [List.length_cons, List.length_cons, OwA.length h.2]
  | true :: fl, q :: ps, v :: vs, d :: ds, h => by rw [List.length_cons, List.length_cons, OwA.length h.2.2.2.2.2.2]
end
def liftAF (c : Cn) (W : WD) (fl : List Bool) (te : TDA) : TA := fun s H Q => ∃ b G0 H0 G n r Qd Ex, Rho c.K b G0 H0 G H n s r ∧ te r n Qd Ex ∧ XOk c W b G H s Ex ∧ ∀ vs ps G' H' n' ds, Stp b G H G' H' n' → OwA c.K b H G' H' fl ps vs ds → Qd ds n' → Q vs H'
section
variable {X : Cx} {W : WD} {T : Tab}
theorem daf_nil : PA X [] (liftAF (cn X) W [] (wA T .nil)) := pa_imp pa_nil fun s H Q ⟨b, G0, H0, G, n, r, Qd, Ex, h, t, x, k⟩ => by
  rw [wA] at t
  exact k [] [] G H n [] (Stp.refl h.ok) trivial t
theorem daf_consS {e : Expr} {es : List Expr} {ie : IE} {ir : IAs} {fl : List Bool} (he : PE X e (lift (cn X) W (wE T ie))) (hr : PA X es (liftAF (cn X) W fl (wA T ir))) (hs : starEach (e :: es) X.env = (false, eval e X.env) :: starEach es X.env) : PA X (e :: es) (liftAF (cn X) W (false :: fl) (wA T (.cons ie ir))) :=
  pa_imp (pa_cons he hr hs) fun s H Q ⟨b, G0, H0, G, n, r, Qd, Ex, h, t, x, k⟩ => by
    rw [wA] at t
    refine lift_bind h x t fun v G1 H1 n1 d h1 x1 s1 r1 q1 => ?_
    refine ⟨b, G0, H0, G1, n1, r, _, Ex, h1, q1, x1, fun vs ps G2 H2 n2 ds s2 o q2 => ?_⟩
    exact k (v :: vs) ps G2 H2 n2 (d :: ds) (s1.trans s2) ⟨r1.mono s2.gg, o.old fun p hp => old_none h.ok s1 hp⟩ q2
theorem daf_consF {e : Expr} {es : List Expr} {ie : IE} {ir : IAs} {fl : List Bool} (he : PE X e (liftF (cn X) W (wE T ie))) (hr : PA X es (liftAF (cn X) W fl (wA T ir))) (hs : starEach (e :: es) X.env = (false, eval e X.env) :: starEach es X.env) : PA X (e :: es) (liftAF (cn X) W (true :: fl) (wA T (.cons ie ir))) :=
  pa_imp (pa_cons he hr hs) fun s H Q ⟨b, G0, H0, G, n, r, Qd, Ex, h, t, x, k⟩ => by
    rw [wA] at t
    refine ⟨b, G0, H0, G, n, r, _, Ex, h, t, x, fun p xs es G1 H1 n1 s1 c1 c2 c3 c4 g q1 => ?_⟩
    have h1 := h.step s1
    refine ⟨b, G0, H0, G1, n1, r, _, Ex, h1, q1, x.step s1, fun vs ps G2 H2 n2 ds s2 o q2 => ?_⟩
    have hb : some p ≠ b := fun z => (h.ok.box p z.symm).2.some c1
    have a1 : OwA X.K b H G1 H1 [true] [p] [.ref p] [.list es] := ⟨rfl, c1, c2, hb, by simp, ⟨_, c3, .inl ⟨xs, es, rfl, rfl, c4, g⟩⟩, trivial⟩
    obtain ⟨e1, e2, e3, e4, _, e6, _⟩ := a1.step s2
    refine k (.ref p :: vs) (p :: ps) G2 H2 n2 (.list es :: ds) (s1.trans s2) ⟨rfl, e2, e3, e4, fun hp => ?_, e6, o.old fun p hp => old_none h.ok s1 hp⟩ q2
    rw [o.free p hp] at c3
    cases c3
/-! ### the stores -/
theorem Rho.setOwG {K : PySem.W.Frag} {b : Option Addr} {G0 H0 G H : Hp} {n : Nat} {s : L2.St} {r : List Ent} (h : Rho K b G0 H0 G H n s r) {i : Nat} {p : Addr} {o : HO} {d : D} (h1 : G p = none) (h2 : H0 p = none) (h3 : some p ≠ b) (h4 : H p = some o) (h6 : OwnIs K b G o d)
    (h7 : ∀ j d, j ≠ i → r[j]? = some (.ow d) → s[j]? ≠ some (some (.ref p))) : Rho K b G0 H0 G H n (s.set i (some (.ref p))) (r.set i (.ow d)) := by
  refine ⟨h.ok, h.st, by rw [List.length_set, List.length_set]; exact h.len, fun j x q => ?_, fun j k q d1 d2 q1 q2 q3 q4 => ?_⟩
  · by_cases hj : i = j
    · subst hj
      have hl : i < r.length := by
        have := (List.getElem?_eq_some_iff.mp q).1
        simpa using this
      rw [List.getElem?_set_self hl] at q
      cases q
      rw [List.getElem?_set_self (by rw [← h.len]; exact hl)]
      exact ⟨p, rfl, h1, h2, h3, h6.at h4⟩
    · rw [List.getElem?_set_ne hj] at q
      rw [List.getElem?_set_ne hj]
      exact h.ent j x q
  · by_cases e1 : i = j
    · by_cases e2 : i = k
      · rw [← e1, ← e2]
      · subst e1
        have hl : i < s.length := by
          have := (List.getElem?_eq_some_iff.mp q3).1
          simpa using this
        rw [List.getElem?_set_self hl] at q3
        rw [List.getElem?_set_ne e2] at q2 q4
        have eq : q = p := by cases q3; rfl
        subst eq
        exact absurd q4 (h7 k d2 (Ne.symm e2) q2)
    · by_cases e2 : i = k
      · subst e2
        have hl : i < s.length := by
          have := (List.getElem?_eq_some_iff.mp q4).1
          simpa using this
        rw [List.getElem?_set_self hl] at q4
        rw [List.getElem?_set_ne e1] at q1 q3
        have eq : q = p := by cases q4; rfl
        subst eq
        exact absurd q3 (h7 j d1 (Ne.symm e1) q1)
      · rw [List.getElem?_set_ne e1] at q1 q3
        rw [List.getElem?_set_ne e2] at q2 q4
        exact h.dj j k q d1 d2 q1 q2 q3 q4
/-- none of these places is held -/
def NoHold (s : L2.St) (r : List Ent) (ps : List Addr) : Prop := ∀ (j : Nat) (d : D) (q : Addr), r[j]? = some (.ow d) → s[j]? = some (some (.ref q)) → q ∉ ps
theorem many_F {K : PySem.W.Frag} {b : Option Addr} {G0 H0 Ha G H : Hp} {n : Nat} (h0 : ∀ p, Ha p = none → H0 p = none) : ∀ {l : List Nat} {fl : List Bool} {ps : List Addr} {vs : List V} {ds : List D} {s : L2.St} {r r' : List Ent}, Rho K b G0 H0 G H n s r → OwA K b Ha G H fl ps vs ds → NoHold s r ps → setManyF r l fl ds = some r' → Rho K b G0 H0 G H n (setL s l vs) r'
  | [], [], ps, vs, [], s, r, r', h, o, nh, e => by
    cases e
    exact h
  | i :: is, false :: fl, ps, v :: vs, d :: ds, s, r, r', h, o, nh, e => by
    rw [setManyF, if_neg (by decide)] at e
    refine many_F h0 (l := is) (h.setSh o.1) o.2 (fun j d' q q1 q2 => ?_) e
    by_cases hj : i = j
    · subst hj
      have hl : i < r.length := by
        have := (List.getElem?_eq_some_iff.mp q1).1
        simpa using this
      rw [List.getElem?_set_self hl] at q1
      cases q1
    · rw [List.getElem?_set_ne hj] at q1 q2
      exact nh j d' q q1 q2
  | i :: is, true :: fl, p :: ps, v :: vs, d :: ds, s, r, r', h, o, nh, e => by
    rw [setManyF, if_pos rfl] at e
    obtain ⟨rfl, o2, o3, o4, o5, ⟨ob, o6, o7⟩, o8⟩ := o
    refine many_F h0 (l := is) (h.setOwG o3 (h0 p o2) o4 o6 o7 fun j d' hj q1 q2 => nh j d' p q1 q2 (List.mem_cons_self ..)) o8 (fun j d' q q1 q2 => ?_) e
    by_cases hj : i = j
    · subst hj
      have hl : i < s.length := by
        have := (List.getElem?_eq_some_iff.mp q2).1
        simpa using this
      rw [List.getElem?_set_self hl] at q2
      cases q2
      exact o5
    · rw [List.getElem?_set_ne hj] at q1 q2
      exact fun z => nh j d' q q1 q2 (List.mem_cons_of_mem _ z)
  | [], [], _, _, _ :: _, _, _, _, _, _, _, e => by cases e
  | [], _ :: _, _, _, _, _, _, _, _, _, _, e => by simp [setManyF] at e
  | _ :: _, [], _, _, _, _, _, _, _, _, _, e => by simp [setManyF] at e
  | _ :: _, _ :: _, _, _, [], _, _, _, _, _, _, e => by simp [setManyF] at e
theorem setManyF_len : ∀ {l : List Nat} {fl : List Bool} {ds : List D} {r r' : List Ent}, setManyF r l fl ds = some r' → ds.length = l.length
  | [], [], [], r, r', e => rfl
  | [], [], _ :: _, r, r', e => by simp [setManyF] at e
  | [], _ :: _, _, r, r', e => by simp [setManyF] at e
  | _ :: _, [], _, r, r', e => by simp [setManyF] at e
  | _ :: _, _ :: _, [], r, r', e => by simp [setManyF] at e
  | i :: is, f :: fl, d :: ds, r, r', e => by
    rw [setManyF] at e
    rw [List.length_cons, List.length_cons, setManyF_len e]
/-- what stores at once ask -/
def RdPar (ta : TA) (l : List Nat) (is : IS) (X : Cx) (W : WD) (T : Tab) : Prop := ∀ N s H, liftS (cn X) W (wS T is) N s H → ∀ Q : List V → Hp → Prop, (∀ vs H1, vs.length = l.length → N.nx (setL s l vs) H1 → (∀ p o, H1 p = none → N.nx (setL s l vs) (upd H1 p o)) → Q vs H1) → ta s H Q
theorem rd_par {l : List Nat} {ia : IAs} : RdPar (liftA (cn X) W (wA T ia)) l (.par l ia) X W T := fun N s H ⟨b, G0, H0, G, n, r, E, h, t, k⟩ Q hQ => by
  rw [wS] at t
  refine liftA_bind h (k.xok h) t fun v G1 H1 n1 d h1 x1 s1 r1 q1 => ?_
  obtain ⟨r', er, q⟩ := ofO_iff q1
  refine hQ v H1 (by rw [r1.length, setMany_len er]) (k.nx _ G1 H1 n1 r' (many_later r1 er G1 H1 n1 (Same.refl _) h1) q) fun p o np => ?_
  exact k.nx _ G1 _ n1 r' (many_later r1 er G1 _ n1 (Same.refl _) (h1.step (Stp.own h1.ok np))) q
theorem rd_parF {l : List Nat} {fl : List Bool} {ia : IAs} : RdPar (liftAF (cn X) W fl (wA T ia)) l (.parF l fl ia) X W T := fun N s H ⟨b, G0, H0, G, n, r, E, h, t, k⟩ Q hQ => by
  rw [wS] at t
  refine ⟨b, G0, H0, G, n, r, _, _, h, t, k.xok h, fun vs ps G1 H1 n1 ds s1 o q1 => ?_⟩
  obtain ⟨r', er, q⟩ := ofO_iff q1
  have h1 := h.step s1
  have h0 : ∀ p, H p = none → H0 p = none := fun p hp => by
    cases qq : H0 p with
    | none => rfl
    | some u =>
      by_cases hb : some p = b
      · exact absurd hp (h.st.bx p hb.symm).some
      · rw [h.st.kp p u hb qq] at hp
        cases hp
  have nh : NoHold s r ps := fun j d q q1 q2 hq => absurd (o.free q hq) (ow_there h q1 q2)
  refine hQ vs H1 (by rw [o.length, setManyF_len er]) (k.nx _ G1 H1 n1 r' (many_F h0 h1 o nh er) q) fun p ob np => ?_
  have st := Stp.own (o := ob) h1.ok np
  exact k.nx _ G1 _ n1 r' (many_F h0 (h1.step st) (o.step st) nh er) q
theorem gMany_set {Q : L2.St → Hp → Prop} {H : Hp} : ∀ {l : List Nat} {vs : List V} {s : L2.St}, vs.length = l.length → Q (setL s l vs) H → gMany l vs s H Q
  | [], [], s, _, q => ⟨rfl, q⟩
  | [], _ :: _, s, e, _ => by cases e
  | _ :: _, [], s, e, _ => by cases e
  | i :: is, v :: vs, s, e, q => ⟨v, vs, rfl, gMany_set (l := is) (by simpa using e) q⟩
theorem dsr_parT {tg : Expr} {es : List Expr} {l : List Nat} {is : IS} {ta : TA} {kk : Nat} {p2 pos : Pos} (rd : RdPar ta l is X W T) (ha : PA X es ta) (hg : PG X tg (gOf X.K (.many l))) (hs : swapsWithSole [tg] (.Tuple es kk p2) pos.line X.env = pure false) (hw : swappedStores [tg] (.Tuple es kk p2) X.env = pure none) (h1 : (assignEach [tg] X.env).map (·.2) = [assign tg X.env]) (hl : l.length ≤ sizeLine) :
    PS X (.Assign [tg] (.Tuple es kk p2) pos) (liftS (cn X) W (wS T is)) := ps_imp (ps_asg (pe_tup ha) hg hs hw h1) fun N s H h => by
  exact rd N s H h _ fun vs H1 e1 _ e3 => ⟨by rw [e1]; exact hl, fun p np => .inl ⟨p, vs, rfl, SqT.of upd_same, e1, gMany_set e1 (e3 p _ np)⟩⟩
theorem dsr_par2 {i j : Nat} {x y : Str} {a c : Expr} {is : IS} {ta : TA} {px py pt pos : Pos} {kt k2 : Nat} {pt2 : Pos} (rd : RdPar ta [i, j] is X W T) (hc : X.calm = true) (hN : X.N.Nodup) (hi : X.N[i]? = some x) (hj : X.N[j]? = some y) (hij : i ≠ j)
    (hx : X.env.scope.names.lookup x = some .local) (hy : X.env.scope.names.lookup y = some .local) (ha : PA X [a, c] ta)
    (hw : swappedStores [.Tuple [.Name x px, .Name y py] kt pt] (.Tuple [a, c] k2 pt2) X.env = pure (some [x, y])) (hs : swapsWithSole [.Tuple [.Name x px, .Name y py] kt pt] (.Tuple [a, c] k2 pt2) pos.line X.env = pure false) :
    PS X (.Assign [.Tuple [.Name x px, .Name y py] kt pt] (.Tuple [a, c] k2 pt2) pos) (liftS (cn X) W (wS T is)) := ps_imp (ps_par hc hN hi hj hij hx hy ha hw hs) fun N s H h =>
  rd N s H h _ fun vs H1 e1 e2 _ => by
    match vs, e1, e2 with
    | [v, w], _, e2 => exact ⟨v, w, rfl, e2⟩
theorem dsr_par3 {i j l : Nat} {x y z : Str} {a c e : Expr} {is : IS} {ta : TA} {px py pz pt pos : Pos} {kt k2 : Nat} {pt2 : Pos} (rd : RdPar ta [i, j, l] is X W T) (hc : X.calm = true) (hN : X.N.Nodup) (hi : X.N[i]? = some x) (hj : X.N[j]? = some y) (hl : X.N[l]? = some z) (hij : i ≠ j) (hil : i ≠ l) (hjl : j ≠ l)
    (hx : X.env.scope.names.lookup x = some .local) (hy : X.env.scope.names.lookup y = some .local) (hz : X.env.scope.names.lookup z = some .local) (ha : PA X [a, c, e] ta)
    (hw : swappedStores [.Tuple [.Name x px, .Name y py, .Name z pz] kt pt] (.Tuple [a, c, e] k2 pt2) X.env = pure (some [x, y, z])) (hs : swapsWithSole [.Tuple [.Name x px, .Name y py, .Name z pz] kt pt] (.Tuple [a, c, e] k2 pt2) pos.line X.env = pure false) :
    PS X (.Assign [.Tuple [.Name x px, .Name y py, .Name z pz] kt pt] (.Tuple [a, c, e] k2 pt2) pos) (liftS (cn X) W (wS T is)) := ps_imp (ps_par3 hc hN hi hj hl hij hil hjl hx hy hz ha hw hs) fun N s H h =>
  rd N s H h _ fun vs H1 e1 e2 _ => by
    match vs, e1, e2 with
    | [v, w, u], _, e2 => exact ⟨v, w, u, rfl, e2⟩
end
end Dl

set_option Elab.async false
set_option linter.all false
set_option maxRecDepth 100000
set_option maxHeartbeats 4000000
/-! From the program's text into the small language. -/
namespace Dl
open PySem PySem.Spec PyProof.Rows L2
structure CC where
  N : List Str
  sc : Scope
  mu : List Str
  ob : List Str
def ixOf : List Str → Str → Option Nat
  | [], _ => none
  | y :: ys, x => if y = x then some 0 else (ixOf ys x).map (· + 1)
theorem ixOf_get : ∀ {l : List Str} {x : Str} {i : Nat}, ixOf l x = some i → l[i]? = some x
  | [], _, _, h => by cases h
  | y :: ys, x, i, h => by
    rw [ixOf] at h
    split at h
    · cases h
      simp_all
    · cases q : ixOf ys x with
      | none => rw [q] at h; cases h
      | some j =>
        rw [q] at h
        cases h
        simpa using ixOf_get q
def visB (sc : Scope) (x : Str) : Bool := match sc.names.lookup x with
  | some .local => true
  | some .cell => true
  | some .free => true
  | _ => false
def locB (sc : Scope) (x : Str) : Bool := match sc.names.lookup x with
  | some .local => true
  | some .cell => true
  | _ => false
def lclB (sc : Scope) (x : Str) : Bool := match sc.names.lookup x with
  | some .local => true
  | _ => false
def glB (sc : Scope) (x : Str) : Bool := match sc.names.lookup x with
  | some .globalImplicit => true
  | _ => false
theorem vis_of {sc : Scope} {x : Str} (h : visB sc x = true) : Vis sc x := by
  unfold visB at h
  split at h
  · exact .inl (by assumption)
  · exact .inr (.inl (by assumption))
  · exact .inr (.inr (by assumption))
  · cases h
theorem loc_of {sc : Scope} {x : Str} (h : locB sc x = true) : Loc sc x := by
  unfold locB at h
  split at h
  · exact .inl (by assumption)
  · exact .inr (by assumption)
  · cases h
theorem lcl_of {sc : Scope} {x : Str} (h : lclB sc x = true) : sc.names.lookup x = some .local := by
  unfold lclB at h
  split at h
  · assumption
  · cases h
theorem gl_of {sc : Scope} {x : Str} (h : glB sc x = true) : sc.names.lookup x = some .globalImplicit := by
  unfold glB at h
  split at h
  · assumption
  · cases h
def nmOk (x : Str) : Bool := !(x == ("__debug__" : Str)) && !(x == ("__classdict__" : Str)) && !(x == ("__name__" : Str))
theorem nm_of {x : Str} (h : nmOk x = true) : (x == ("__debug__" : Str)) = false ∧ (x == ("__classdict__" : Str)) = false ∧ x ≠ ("__name__" : Str) := by
  unfold nmOk at h
  rw [Bool.and_eq_true, Bool.and_eq_true] at h
  obtain ⟨⟨h1, h2⟩, h3⟩ := h
  refine ⟨by simpa using h1, by simpa using h2, fun e => ?_⟩
  rw [e] at h3
  simp at h3
def bltNames : List Str := ["len", "tuple", "list", "all", "any", "int", "abs", "isinstance", "bool", "str", "dict", "range", "enumerate", "zip", "set", "sum", "max", "min", "sorted"]
def isStar : Expr → Bool
  | .Starred .. => true
  | _ => false
def isSet : Expr → Bool
  | .Set .. => true
  | _ => false
theorem star1 {e : Expr} (h : isStar e = false) (es : List Expr) (env : Env) : starEach (e :: es) env = (false, eval e env) :: starEach es env := by
  cases e <;> first | rfl | cases h
theorem starAll {es : List Expr} (h : es.any isStar = false) (env : Env) (pos : Pos) : (backTo pos (starEach es env)).any (·.1) = false := by
  have key : ∀ es : List Expr, es.any isStar = false → (starEach es env).any (·.1) = false := by
    intro es
    induction es with
    | nil => intro _; rfl
    | cons e es ih =>
      intro h
      rw [List.any_cons, Bool.or_eq_false_iff] at h
      rw [star1 h.1, List.any_cons, ih h.2]
      rfl
  have e2 : ∀ l : List (Bool × Sem Value), (backTo pos l).any (·.1) = l.any (·.1) := by
    intro l
    unfold backTo
    simp [List.any_map]
    try rfl
  rw [e2]
  exact key es h
theorem noset_marks {op : CmpOp} {e : Expr} (h : isSet e = false) : behindInMarks op e = false := by
  cases e <;> first | rfl | cases h
theorem noset_fold {e : Expr} (h : isSet e = false) (env : Env) (x : Value) : foldedSetIterable e env x = pure x := by
  cases e <;> first | rfl | cases h
def okIx : Expr → Bool
  | .Slice .. => false
  | .Starred .. => false
  | .Tuple .. => false
  | _ => true
theorem plain_ix {e : Expr} (h : okIx e = true) : PlainIx e := by
  intro o i
  cases e <;> first | rfl | cases h
theorem sub_ix {e : Expr} (h : okIx e = true) (o : Addr) (i : Value) : subscripted e true (.ref o) i = runValue (.builtin "lifetime.subscript" ⟨[.ref o, i], []⟩) := by
  cases e <;> first | (with_unfolding_all rfl) | cases h
def okBase : Expr → Bool
  | .Name .. => true
  | .Attribute .. => true
  | .Subscript .. => true
  | _ => false
theorem base_of {e : Expr} (h : okBase e = true) (f : Str) (env : Env) : attributeBase e f env (eval e env) = eval e env := by
  cases e <;> first | rfl | cases h
def isComp : Expr → Bool
  | .ListComp .. => true
  | .SetComp .. => true
  | .DictComp .. => true
  | _ => false
theorem nocomp_sw {e : Expr} (h : isComp e = false) (t : Option Expr) (l : Nat) (env : Env) : swapsWith e t l env = pure false := by
  cases e <;> first | rfl | cases h
/-- what a body stands in -/
structure Gd (c : CC) (T : Tab) (k : Nat) (X : Cx) : Prop where
  N : X.N = c.N
  nd : c.N.Nodup
  sc : X.env.scope = c.sc
  calm : X.calm = true
  room : Room k X.A
  blt : ∀ x ∈ bltNames, X.mg x = none
  gv : ∀ x d, T.gv x = some d → ∃ v u, X.mg x = some u ∧ RelV v u ∧ ∀ b G, Rp X.K b G v d
  gd : ∀ x kv, T.gd x = some kv → GdD X x kv
  fs : ∀ f fs, T.fs f = some fs → FnD X k f fs
  sm : ∀ C m ps fs, T.sm C m = some (ps, fs) → SmD X k C m ps fs
  fl : ∀ c f, T.fl c f = true → FlD X.K c f
  me : ∀ c m fs, T.me c m = some fs → MeD X k c m fs
  cl : ∀ c fs, T.cl c = some fs → ClD X k c fs
  kw : ∀ f ks fs, T.kw f ks = some fs → KwD X k f ks fs
section
variable {c : CC} {T : Tab} {k : Nat} {X : Cx}
theorem Gd.gl (g : Gd c T k X) {x : Str} (h : glB c.sc x = true) : Gl X x := by
  show X.env.scope.names.lookup x = _
  rw [g.sc]
  exact gl_of h
theorem Gd.vis (g : Gd c T k X) {x : Str} (h : visB c.sc x = true) : Vis X.env.scope x := by
  rw [g.sc]
  exact vis_of h
theorem Gd.at (g : Gd c T k X) {x : Str} {i : Nat} (h : ixOf c.N x = some i) : X.N[i]? = some x := by
  rw [g.N]
  exact ixOf_get h
theorem Gd.u65 (g : Gd c T k X) : X.A.units + 65 < cLine := by
  have := g.room.un
  omega
theorem Gd.u64 (g : Gd c T k X) : X.A.units + 64 < cLine := by
  have := g.room.un
  omega
theorem Gd.blk (g : Gd c T k X) (s : Shared) (H : Hp) (C : Addr) (cl : List (Str × Addr)) (fp : List Addr) (scope : Scope) : Gd ⟨c.N, relS scope c.sc, c.mu, c.ob⟩ T k (X.blk s H scope (compEnvC scope cl C X.env) fp) :=
  ⟨g.N, g.nd, by rw [← g.sc]; rfl, g.calm, g.room, g.blt, g.gv, fun x kv h => ⟨(g.gd x kv h).ex⟩, fun f fs h => ⟨(g.fs f fs h).ex⟩, fun C m ps fs h => ⟨(g.sm C m ps fs h).ex⟩, g.fl, fun c m fs h => ⟨(g.me c m fs h).ex⟩, fun c fs h => ⟨(g.cl c fs h).ex⟩, fun f ks fs h => ⟨(g.kw f ks fs h).ex⟩⟩
end
/-! ### names -/
def cName (c : CC) (x : Str) : IE := if visB c.sc x && nmOk x then (match ixOf c.N x with
    | some i => .v i
    | none => .bad) else if glB c.sc x && nmOk x then .g x else .bad
def cConst : Const → IE
  | .none => .k .non
  | .bool b => .k (.bl b)
  | .int i => .k (.int i)
  | .str z => if decide (z.length ≤ 16777216) && PyData.strOk z then .k (.str z) else .bad
  | _ => .bad
def opOf : Operator → Option BOp
  | .Add => some .add
  | .Sub => some .sub
  | .Mult => some .mul
  | .Mod => some .mod
  | .FloorDiv => some .fdiv
  | .Pow => some .pow
  | _ => none
def copOf : CmpOp → COp
  | .Eq => .eq
  | .NotEq => .ne
  | .Lt => .lt
  | .LtE => .le
  | .Gt => .gt
  | .GtE => .ge
  | .Is => .is
  | .IsNot => .isnot
  | .In => .inn
  | .NotIn => .notin
/-- an object of an own class, by its name -/
def isOb (c : CC) : Expr → Bool
  | .Name x _ => decide (x ∈ c.ob)
  | .Attribute _ f _ => decide (f ∈ c.ob)
  | _ => false
/-- an own list that is read in its place -/
def cOwn (c : CC) (e : Expr) : Option Nat := match e with
  | .Name x _ => if decide (x ∈ c.mu) && visB c.sc x && nmOk x then ixOf c.N x else none
  | _ => none
section
variable {c : CC} {T : Tab} {k : Nat} {X : Cx} {W : WD}
theorem s_name (g : Gd c T k X) (x : Str) (p : Pos) : PE X (.Name x p) (lift (cn X) W (wE T (cName c x))) := by
  unfold cName
  split
  · rename_i h
    rw [Bool.and_eq_true] at h
    split
    · rename_i i hi
      obtain ⟨h1, h2, h3⟩ := nm_of h.2
      exact de_v (g.at hi) (g.vis h.1) h1 h2
    · exact de_bad
  · split
    · rename_i h
      rw [Bool.and_eq_true] at h
      obtain ⟨h1, h2, h3⟩ := nm_of h.2
      exact de_g (g.gl h.1) h1 (g.gv x)
    · exact de_bad
theorem s_const (v : Const) (j : Nat) (p : Pos) : PE X (.Constant v j p) (lift (cn X) W (wE T (cConst v))) := by
  cases v with
  | none => exact de_non
  | bool b => exact de_bl
  | int i => exact de_int
  | str z =>
    rw [cConst]
    split
    · rename_i h
      rw [Bool.and_eq_true, decide_eq_true_eq] at h
      exact de_str (by rw [sizeLine_eq]; exact h.1) h.2
    · exact de_bad
  | _ => exact de_bad
theorem s_op {op : Operator} {o : BOp} (h : opOf op = some o) : OpR X (binaryOp op) (lr2 X.K (binop o)) := by
  cases op <;> first | (cases h; done) | skip
  · cases h; exact dop_add
  · cases h; exact dop_sub
  · cases h; exact dop_mul
  · cases h; exact dop_mod
  · cases h; exact dop_pow
  · cases h; exact dop_fdiv
theorem s_cop (g : Gd c T k X) (op : CmpOp) : OpR X (compareOp op) (lc2 X.K (cmpop (copOf op))) := by
  cases op
  · exact dc_eq g.u64
  · exact dc_ne g.u64
  · exact dc_lt
  · exact dc_le
  · exact dc_gt
  · exact dc_ge
  · exact dc_is
  · exact dc_isnot
  · exact dc_in g.u65
  · exact dc_notin g.u65
theorem own_of (g : Gd c T k X) {e : Expr} {i : Nat} (h : cOwn c e = some i) : ∃ x p, e = .Name x p ∧ X.N[i]? = some x ∧ Vis X.env.scope x ∧ (x == ("__debug__" : Str)) = false ∧ (x == ("__classdict__" : Str)) = false := by
  unfold cOwn at h
  split at h
  · split at h
    · rename_i x p hc
      rw [Bool.and_eq_true, Bool.and_eq_true] at hc
      obtain ⟨h1, h2, h3⟩ := nm_of hc.2
      exact ⟨x, p, rfl, g.at h, g.vis hc.1.2, h1, h2⟩
    · cases h
  · cases h
end
end Dl

set_option Elab.async false
set_option linter.all false
set_option maxRecDepth 100000
set_option maxHeartbeats 4000000
/-! From the program's text into the small language: expressions. -/
namespace Dl
open PySem PySem.Spec PyProof.Rows L2
/-! ### targets -/
def cNames (c : CC) (fn : Str → Bool) : List Expr → Option (List Nat)
  | [] => some []
  | .Name x _ :: r => if locB c.sc x && (fn x || lclB c.sc x) then (match ixOf c.N x, cNames c fn r with
    | some i, some l => some (i :: l)
    | _, _ => none) else none
  | _ :: _ => none
def cTg (c : CC) (fn : Str → Bool) : Expr → Option Tg
  | .Name x _ => if locB c.sc x && (fn x || lclB c.sc x) then (ixOf c.N x).map .one else none
  | .Tuple es _ _ => (match cNames c fn es with
    | some l => some (.many l)
    | none => (match es with
      | [.Name x _, .Tuple fs _ _] => if locB c.sc x && (fn x || lclB c.sc x) then (match ixOf c.N x, cNames c fn fs with
        | some i, some l => some (.nest i l)
        | _, _ => none) else none
      | _ => none))
  | _ => none
def isTup : Expr → Bool
  | .Tuple .. => true
  | _ => false
def tgNames : Expr → List Str
  | .Name x _ => [x]
  | .Tuple es _ _ => es.filterMap fun
    | .Name x _ => some x
    | _ => none
  | _ => []
section
variable {c : CC} {T : Tab} {k : Nat} {X : Cx} {W : WD}
theorem s_pgn (g : Gd c T k X) {fn : Str → Bool} (hfn : ∀ x, fn x = true → X.fn x = true) {x : Str} {p : Pos} {i : Nat} (h : (locB c.sc x && (fn x || lclB c.sc x)) = true) (hi : ixOf c.N x = some i) : PG X (.Name x p) (gName i) := by
  rw [Bool.and_eq_true, Bool.or_eq_true] at h
  refine pg_name (by rw [g.N]; exact g.nd) (g.at hi) (by rw [g.sc]; exact loc_of h.1) ?_
  rcases h.2 with z | z
  · exact .inl (hfn x z)
  · exact .inr (by rw [g.sc]; exact lcl_of z)
theorem s_pgs (g : Gd c T k X) {fn : Str → Bool} (hfn : ∀ x, fn x = true → X.fn x = true) : ∀ {es : List Expr} {l : List Nat}, cNames c fn es = some l → PGs X es (gMany l) ∧ (assignEach es X.env).length = l.length ∧ (assignEach es X.env).any (·.1) = false
  | [], l, h => by
    cases h
    exact ⟨pgs_nil, rfl, rfl⟩
  | .Name x p :: r, l, h => by
    rw [cNames] at h
    split at h
    · rename_i hc
      split at h
      · rename_i i l' hi hl
        cases h
        obtain ⟨h1, h2, h3⟩ := s_pgs g hfn hl
        refine ⟨pgs_cons (s_pgn g hfn hc hi) h1, ?_, ?_⟩
        · show (assignEach r X.env).length + 1 = l'.length + 1
          rw [h2]
        · show (false || (assignEach r X.env).any (·.1)) = false
          rw [h3]
          rfl
      · cases h
    · cases h
theorem no_idx {α : Type} {l : List (Bool × α)} (h : l.any (·.1) = false) : l.findIdx? (·.1) = none := by
  rw [List.findIdx?_eq_none_iff]
  intro x hx
  rw [List.any_eq_false] at h
  simpa using h x hx
theorem s_tg (g : Gd c T k X) {fn : Str → Bool} (hfn : ∀ x, fn x = true → X.fn x = true) {tg : Expr} {t : Tg} (h : cTg c fn tg = some t) : PG X tg (gOf X.K t) := by
  unfold cTg at h
  split at h
  · split at h
    · rename_i x p hc
      cases q : ixOf c.N x with
      | none => rw [q] at h; cases h
      | some i =>
        rw [q] at h
        cases h
        exact s_pgn g hfn hc q
    · cases h
  · rename_i es kk p
    split at h
    · rename_i l q
      cases h
      obtain ⟨h1, h2, h3⟩ := s_pgs g hfn q
      have h4 := no_idx h3
      exact ⟨fun pins s a H v u Q I r hw => hw.elim ((pg_tup g.calm h1 h2 h4).run pins s a H v u Q I r) ((pg_unl g.calm h1 h2 h4).run pins s a H v u Q I r)⟩
    · split at h
      · split at h
        · rename_i hc
          split at h
          · rename_i i l q1 q2
            cases h
            obtain ⟨h1, h2, h3⟩ := s_pgs g hfn q2
            exact pg_tup g.calm (pgs_cons (s_pgn g hfn hc q1) (pgs_cons (pg_tup g.calm h1 h2 (no_idx h3)) pgs_nil))
          · cases h
        · cases h
      · cases h
  · cases h
end
def cCmp1 (c : CC) (op : CmpOp) (b : Expr) (ia ib : IE) : IE := match op, cOwn c b with
  | .In, some i => .inO false ia i
  | .NotIn, some i => .inO true ia i
  | _, _ => if isSet b then .bad else if isOb c b then (match op with
    | .In => .inm false ia ib
    | .NotIn => .inm true ia ib
    | _ => .cmp (copOf op) ia ib) else .cmp (copOf op) ia ib
/-- a call of a name with positional arguments -/
def biOf (f : Str) : Option Bi :=
  if f = "len" then some .len else if f = "tuple" then some .tuple else if f = "list" then some .list else if f = "all" then some .all else if f = "any" then some .any else if f = "int" then some .int else if f = "abs" then some .abs else none
def cCall (c : CC) (f : Str) (args : List Expr) (ia ib : IE) (ias : IAs) : IE :=
  if !(glB c.sc f && nmOk f) || args.any isStar then .bad else if decide (f ∈ c.ob) then (match args with
    | [] => .bad
    | _ => .mk f ias) else match args with
  | [] => .call f .nil
  | [a] => if decide (f = "max") then .mmL true ia else if decide (f = "min") then .mmL false ia else match biOf f with
    | some b => (match b, cOwn c a with
      | .len, some i => .lenO i
      | _, _ => .bi b ia)
    | none => .call f ias
  | [_, b] => if f = "isinstance" then (match b with
      | .Name x _ => (match tyOf x with
        | some t => if glB c.sc x then .isi ia [t] else .bad
        | none => .bad)
      | .Tuple es _ _ => (match tysE es with
        | some ts => if decide (ts.length ≤ 100) && (es.all fun
          | .Name x _ => glB c.sc x
          | _ => false) then .isi ia ts else .bad
        | none => .bad)
      | _ => .bad) else if decide (f = "max") then .mm true ia ib else if decide (f = "min") then .mm false ia ib else .call f ias
  | _ => .call f ias
def kwNames : List Keyword → Option (List Str)
  | [] => some []
  | ⟨some k, _, _⟩ :: r => (kwNames r).map (k :: ·)
  | _ :: _ => none
mutual
def cE : Nat → CC → Expr → IE
  | 0, _, _ => .bad
  | k + 1, c, e => match e with
    | .Name x _ => cName c x
    | .Constant v _ _ => cConst v
    | .BinOp a op b _ => (match opOf op with
      | some o => .bin o (cE k c a) (cE k c b)
      | none => .bad)
    | .UnaryOp .USub a _ => .neg (cE k c a)
    | .UnaryOp .Not a _ => .not (cE k c a)
    | .Compare a [op] [b] _ => cCmp1 c op b (cE k c a) (cE k c b)
    | .Compare a [op, op'] [b, d] _ => if isSet b || isSet d then .bad else .chain (copOf op) (copOf op') (cE k c a) (cE k c b) (cE k c d)
    | .BoolOp .And es _ => .and (cL k c es)
    | .BoolOp .Or es _ => .or (cL k c es)
    | .IfExp t a b _ => .ite (cT k c t) (cE k c a) (cE k c b)
    | .List es _ => .lst (cA k c es)
    | .Tuple es _ _ => .tup (cA k c es)
    | .Dict [] [] _ => .dis [] .nil
    | .Dict keys values _ => (match keysE keys with
      | some ks => if decide (values.length = ks.length) && decide (ks.length ≤ 15) && !keys.isEmpty then .dis ks (cL k c values) else .bad
      | none => .bad)
    | .Subscript a (.Slice none none (some (.UnaryOp .USub (.Constant (.int 1) _ _) _)) _) _ => .rev (cE k c a)
    | .Subscript a (.Slice lo hi none _) _ => .slc (cE k c a) lo.isSome hi.isSome (cO k c lo) (cO k c hi)
    | .Subscript a i _ => if okIx i then (if isOb c a then .ixm (cE k c a) (cE k c i) else .ix (cE k c a) (cE k c i)) else .bad
    | .Attribute a f _ => if okBase a then .attr (cE k c a) f else .bad
    | .Call (.Name f p1) [.Call (.Name g p2) [a] [] q] [] _ => if decide (f = "len") && decide (g = "set") && glB c.sc f && glB c.sc g && !isStar a then .lenset (cE k c a) else cCall c f [.Call (.Name g p2) [a] [] q] (cH k c [.Call (.Name g p2) [a] [] q]) (cH2 k c [.Call (.Name g p2) [a] [] q]) (cA k c [.Call (.Name g p2) [a] [] q])
    | .Call (.Name f _) args [] _ => cCall c f args (cH k c args) (cH2 k c args) (cA k c args)
    | .Call (.Attribute (.Constant (.str z) _ _) m ap) [a] [] p => if decide (m = "join") && decide (z.length ≤ 16777216) && PyData.strOk z && !isStar a && (ap.endLine == p.line) then .join z (cE k c a) else .bad
    | .Call (.Attribute (.Name x _) m ap) [a, b] [] p => if decide (m = "get") && glB c.sc x && nmOk x && !isStar a && !isStar b && (ap.endLine == p.line) then .gget x (cE k c a) (cE k c b)
      else if glB c.sc x && nmOk x && !isStar a && !isStar b && (ap.endLine == p.line) then .stat x m (cA k c [a, b]) else .bad
    | .Call (.Attribute (.Name x _) m ap) [] [⟨some k1, a, _⟩, ⟨some k2, b, _⟩] p => if glB c.sc x && nmOk x && (ap.endLine == p.line) then .statk x m [k1, k2] (.cons (cE k c a) (.cons (cE k c b) .nil)) else .bad
    | .ListComp elt [⟨tg, iter, ifs, z⟩] scope _ => (match cTg ⟨c.N, relS scope c.sc, c.mu, c.ob⟩ (fun x => scope.names.lookup x == some .cell) tg with
      | some t => if decide (z = 0) && blkC c.N c.sc scope ((tgNames tg).zip t.slots) && decide (((tgNames tg).zip t.slots).map (·.2) = t.slots) && decide t.slots.Nodup && !isSet iter && decide (ifs.length ≤ 1) then
          .comp (cI k c tg iter) t (cF k ⟨c.N, relS scope c.sc, c.mu, c.ob⟩ ifs) (cE k ⟨c.N, relS scope c.sc, c.mu, c.ob⟩ elt) else .bad
      | none => .bad)
    | .ListComp elt [⟨tg, iter, [], z⟩, ⟨tg1, iter1, ifs1, z1⟩] scope _ => (match cTg ⟨c.N, relS scope c.sc, c.mu, c.ob⟩ (fun x => scope.names.lookup x == some .cell) tg, cTg ⟨c.N, relS scope c.sc, c.mu, c.ob⟩ (fun x => scope.names.lookup x == some .cell) tg1 with
      | some t, some t1 => if decide (z = 0) && decide (z1 = 0) && blkC c.N c.sc scope ((tgNames tg ++ tgNames tg1).zip (t.slots ++ t1.slots)) && decide (((tgNames tg ++ tgNames tg1).zip (t.slots ++ t1.slots)).map (·.2) = t.slots ++ t1.slots) && !isSet iter && !isSet iter1 && decide (ifs1.length ≤ 1) then
          .comp2 (cI k c tg iter) t (cI k ⟨c.N, relS scope c.sc, c.mu, c.ob⟩ tg1 iter1) t1 (cF k ⟨c.N, relS scope c.sc, c.mu, c.ob⟩ ifs1) (cE k ⟨c.N, relS scope c.sc, c.mu, c.ob⟩ elt) else .bad
      | _, _ => .bad)
    | .Call (.Name f _) [] (kw :: kws) _ => (match kwNames (kw :: kws) with
      | some ks => if glB c.sc f && nmOk f then .callk f ks (cKw k c (kw :: kws)) else .bad
      | none => .bad)
    | _ => .bad
def cKw : Nat → CC → List Keyword → IAs
  | 0, _, _ => .cons .bad .nil
  | _ + 1, _, [] => .nil
  | k + 1, c, ⟨_, e, _⟩ :: r => .cons (cE k c e) (cKw k c r)
def cT : Nat → CC → Expr → IE
  | 0, _, _ => .bad
  | k + 1, c, e => match e with
    | .UnaryOp .Not a _ => .tnot (cT k c a)
    | .BoolOp .And es _ => .tand (cLT k c es)
    | .BoolOp .Or es _ => .tor (cLT k c es)
    | .Compare a [op] [b] _ => cCmp1 c op b (cE k c a) (cE k c b)
    | .Compare a [op, op'] [b, d] _ => if isSet b || isSet d then .bad else .chain (copOf op) (copOf op') (cE k c a) (cE k c b) (cE k c d)
    | .Compare .. => .bad
    | .IfExp .. => .bad
    | .Name x p => cE k c (.Name x p)
    | .Constant v j p => cE k c (.Constant v j p)
    | .Call f a w p => cE k c (.Call f a w p)
    | .Subscript a i p => cE k c (.Subscript a i p)
    | _ => .bad
def cA : Nat → CC → List Expr → IAs
  | 0, _, _ => .cons .bad .nil
  | _ + 1, _, [] => .nil
  | k + 1, c, .Starred e _ :: r => .star (cE k c e) (cA k c r)
  | k + 1, c, e :: r => .cons (cE k c e) (cA k c r)
def cL : Nat → CC → List Expr → IAs
  | 0, _, _ => .cons .bad .nil
  | _ + 1, _, [] => .nil
  | k + 1, c, e :: r => .cons (cE k c e) (cL k c r)
def cLT : Nat → CC → List Expr → IAs
  | 0, _, _ => .cons .bad .nil
  | _ + 1, _, [] => .nil
  | k + 1, c, e :: r => .cons (cT k c e) (cLT k c r)
def cO : Nat → CC → Option Expr → IE
  | 0, _, _ => .bad
  | _ + 1, _, none => .bad
  | k + 1, c, some e => cE k c e
/-- the first argument -/
def cH : Nat → CC → List Expr → IE
  | 0, _, _ => .bad
  | _ + 1, _, [] => .bad
  | k + 1, c, e :: _ => cE k c e
/-- the second argument -/
def cH2 : Nat → CC → List Expr → IE
  | 0, _, _ => .bad
  | k + 1, c, _ :: e :: _ => cE k c e
  | _ + 1, _, _ => .bad
/-- a comprehension's test -/
def cF : Nat → CC → List Expr → IE
  | 0, _, _ => .bad
  | _ + 1, _, [] => .k (.bl true)
  | k + 1, c, e :: _ => cT k c e
/-- what is walked -/
def cI : Nat → CC → Expr → Expr → ISr
  | 0, _, _, _ => .ex .bad
  | k + 1, c, tg, e => match e with
    | .Call (.Name f _) [a] [] _ =>
      if decide (f = "range") && glB c.sc f && !isStar a then .rng1 (cE k c a)
      else if decide (f = "enumerate") && glB c.sc f && !isStar a && isTup tg then .enum (cE k c a)
      else .ex (cE k c e)
    | .Call (.Name f _) [a, b] [] _ =>
      if decide (f = "range") && glB c.sc f && !isStar a && !isStar b then .rng2 (cE k c a) (cE k c b)
      else if decide (f = "zip") && glB c.sc f && !isStar a && !isStar b && isTup tg then .zip (cE k c a) (cE k c b)
      else .ex (cE k c e)
    | e => .ex (cE k c e)
end
end Dl

set_option Elab.async false
set_option linter.all false
set_option maxRecDepth 100000
set_option maxHeartbeats 4000000
/-! The small language tells what the program's text does: expressions. -/
namespace Dl
open PySem PySem.Spec PyProof.Rows L2
section
variable {c : CC} {T : Tab} {k : Nat} {X : Cx} {W : WD}
theorem s_cmp1 (g : Gd c T k X) (tk : Takes X W) {op : CmpOp} {a b : Expr} {ia ib : IE} {pos : Pos} (ha : PE X a (lift (cn X) W (wE T ia))) (hb : PE X b (lift (cn X) W (wE T ib))) : PE X (.Compare a [op] [b] pos) (lift (cn X) W (wE T (cCmp1 c op b ia ib))) := by
  unfold cCmp1
  split
  · rename_i i h
    obtain ⟨x, p, rfl, h1, h2, h3, h4⟩ := own_of g h
    exact de_in g.u65 ha h1 h2 h3 h4
  · rename_i i h
    obtain ⟨x, p, rfl, h1, h2, h3, h4⟩ := own_of g h
    exact de_notin g.u65 ha h1 h2 h3 h4
  · split
    · exact de_bad
    · rename_i h
      have hm : ∀ o, behindInMarks o b = false := fun o => noset_marks (by simpa using h)
      split
      · split
        · exact de_inm (neg := false) tk rfl g.me g.room ha hb (hm _)
        · exact de_inm (neg := true) tk rfl g.me g.room ha hb (hm _)
        · exact de_cmp (s_cop g _) ha hb (hm _)
      · exact de_cmp (s_cop g _) ha hb (hm _)
theorem st_cmp1 (g : Gd c T k X) (tk : Takes X W) {op : CmpOp} {a b : Expr} {ia ib : IE} {pos : Pos} (ha : PE X a (lift (cn X) W (wE T ia))) (hb : PE X b (lift (cn X) W (wE T ib))) : PT X (.Compare a [op] [b] pos) (lT X W (wE T (cCmp1 c op b ia ib))) := by
  unfold cCmp1
  split
  · rename_i i h
    obtain ⟨x, p, rfl, h1, h2, h3, h4⟩ := own_of g h
    exact dt_in g.u65 ha h1 h2 h3 h4
  · rename_i i h
    obtain ⟨x, p, rfl, h1, h2, h3, h4⟩ := own_of g h
    exact dt_notin g.u65 ha h1 h2 h3 h4
  · split
    · exact dt_bad
    · rename_i h
      have hm : ∀ o, behindInMarks o b = false := fun o => noset_marks (by simpa using h)
      split
      · split
        · exact dt_inm (neg := false) tk rfl g.me g.room ha hb (hm _)
        · exact dt_inm (neg := true) tk rfl g.me g.room ha hb (hm _)
        · exact dt_cmp (s_cop g _) ha hb (hm _)
      · exact dt_cmp (s_cop g _) ha hb (hm _)
theorem bi_blt {f : Str} {b : Bi} (h : biOf f = some b) : (b = .len ∧ f = "len") ∨ (b = .tuple ∧ f = "tuple") ∨ (b = .list ∧ f = "list") ∨ (b = .all ∧ f = "all") ∨ (b = .any ∧ f = "any") ∨ (b = .int ∧ f = "int") ∨ (b = .abs ∧ f = "abs") := by
  unfold biOf at h
  split at h
  · cases h; exact .inl ⟨rfl, by assumption⟩
  split at h
  · cases h; exact .inr (.inl ⟨rfl, by assumption⟩)
  split at h
  · cases h; exact .inr (.inr (.inl ⟨rfl, by assumption⟩))
  split at h
  · cases h; exact .inr (.inr (.inr (.inl ⟨rfl, by assumption⟩)))
  split at h
  · cases h; exact .inr (.inr (.inr (.inr (.inl ⟨rfl, by assumption⟩))))
  split at h
  · cases h; exact .inr (.inr (.inr (.inr (.inr (.inl ⟨rfl, by assumption⟩)))))
  split at h
  · cases h; exact .inr (.inr (.inr (.inr (.inr (.inr ⟨rfl, by assumption⟩)))))
  cases h
theorem s_bi (g : Gd c T k X) {f : Str} {b : Bi} {a : Expr} {ia : IE} {p pos : Pos} (h : biOf f = some b) (hg : Gl X f) (hs : isStar a = false) (ha : PE X a (lift (cn X) W (wE T ia))) : PE X (.Call (.Name f p) [a] [] pos) (lift (cn X) W (wE T (.bi b ia))) := by
  have hst : starEach [a] X.env = [(false, eval a X.env)] := star1 hs [] X.env
  rcases bi_blt h with ⟨rfl, rfl⟩ | ⟨rfl, rfl⟩ | ⟨rfl, rfl⟩ | ⟨rfl, rfl⟩ | ⟨rfl, rfl⟩ | ⟨rfl, rfl⟩ | ⟨rfl, rfl⟩
  · exact de_biB db_len hg (g.blt _ (by decide +kernel)) boot_len (by decide +kernel) (by decide +kernel) ha hst
  · exact de_biT db_tuple hg (g.blt _ (by decide +kernel)) boot_tuple (by decide +kernel) (by decide +kernel) ha hst
  · exact de_biT db_list hg (g.blt _ (by decide +kernel)) boot_list (by decide +kernel) (by decide +kernel) ha hst
  · exact de_biB (db_all g.calm) hg (g.blt _ (by decide +kernel)) boot_all (by decide +kernel) (by decide +kernel) ha hst
  · exact de_biB (db_any g.calm) hg (g.blt _ (by decide +kernel)) (by decide +kernel) (by decide +kernel) (by decide +kernel) ha hst
  · exact de_biT db_int hg (g.blt _ (by decide +kernel)) boot_int (by decide +kernel) (by decide +kernel) ha hst
  · exact de_biB db_abs hg (g.blt _ (by decide +kernel)) (by decide +kernel) (by decide +kernel) (by decide +kernel) ha hst
theorem tyOf_blt {x : Str} {t : Ty} (h : tyOf x = some t) : x ∈ bltNames := by
  have e := tyOf_eq h
  subst e
  cases t <;> (simp only [Ty.nm]; decide +kernel)
theorem tysE_mem : ∀ {es : List Expr} {ts : List Ty}, tysE es = some ts → ∀ x p, Expr.Name x p ∈ es → x ∈ bltNames
  | [], ts, _, x, p, h => by cases h
  | .Name y q :: r, ts, e, x, p, h => by
    rw [tysE] at e
    split at e
    · rename_i t ts' e1 e2
      rcases List.mem_cons.mp h with z | z
      · cases z
        exact tyOf_blt e1
      · exact tysE_mem e2 x p z
    · cases e
theorem s_call (g : Gd c T k X) (tk : Takes X W) {f : Str} {args : List Expr} {ia ib : IE} {ias : IAs} {p pos : Pos} (ha : ∀ a r, args = a :: r → PE X a (lift (cn X) W (wE T ia))) (ha2 : ∀ a b, args = [a, b] → PE X b (lift (cn X) W (wE T ib))) (has : PA X args (liftA (cn X) W (wA T ias))) : PE X (.Call (.Name f p) args [] pos) (lift (cn X) W (wE T (cCall c f args ia ib ias))) := by
  unfold cCall
  split
  · exact de_bad
  rename_i h
  rw [Bool.or_eq_true, not_or] at h
  obtain ⟨h1, h2⟩ := h
  replace h1 : (glB c.sc f && nmOk f) = true := by simpa using h1
  replace h2 : args.any isStar = false := by simpa using h2
  rw [Bool.and_eq_true] at h1
  obtain ⟨n1, n2, n3⟩ := nm_of h1.2
  have hg : Gl X f := g.gl h1.1
  have call : ∀ a r, args = a :: r → PE X (.Call (.Name f p) args [] pos) (lift (cn X) W (wE T (.call f ias))) := fun a r e => by
    subst e
    rw [List.any_cons, Bool.or_eq_false_iff] at h2
    exact de_call tk (g.fs f) g.room hg n1 has (star1 h2.1 _ _) (starAll h2.2 _ _)
  split
  · split
    · exact de_bad
    · rename_i hne
      cases args with
      | nil => exact absurd rfl hne
      | cons a r =>
        rw [List.any_cons, Bool.or_eq_false_iff] at h2
        exact de_mk (g.cl f) g.room hg n1 has (star1 h2.1 _ _) (starAll h2.2 _ _)
  split
  · exact de_call0 tk (g.fs f) g.room hg n1
  · rename_i a
    have hs : isStar a = false := by simpa using h2
    split
    · rename_i hf
      cases of_decide_eq_true hf
      exact de_maxL g.calm hg (g.blt _ (by decide +kernel)) (ha a [] rfl) (star1 hs [] _)
    split
    · rename_i hf
      cases of_decide_eq_true hf
      exact de_minL g.calm hg (g.blt _ (by decide +kernel)) (ha a [] rfl) (star1 hs [] _)
    split
    · rename_i b hb
      split
      · rename_i i hi
        obtain ⟨x, q, rfl, o1, o2, o3, o4⟩ := own_of g hi
        have hf : f = "len" := by
          rcases bi_blt hb with ⟨e, z⟩ | ⟨e, z⟩ | ⟨e, z⟩ | ⟨e, z⟩ | ⟨e, z⟩ | ⟨e, z⟩ | ⟨e, z⟩ <;> first | exact z | cases e
        subst hf
        exact de_lenO hg (g.blt _ (by decide +kernel)) o1 o2 o3 o4
      · exact s_bi g hb hg hs (ha a [] rfl)
    · exact call a [] rfl
  · rename_i a b
    have hs : isStar a = false := by
      rw [List.any_cons, Bool.or_eq_false_iff] at h2
      exact h2.1
    split
    · rename_i hf
      subst hf
      have hm : X.mg "isinstance" = none := g.blt _ (by decide +kernel)
      split
      · rename_i x q
        split
        · rename_i t ht
          split
          · rename_i hx
            exact de_isi1 hg hm ht (g.gl hx) (g.blt _ (tyOf_blt ht)) (ha a _ rfl) fun es => star1 hs es _
          · exact de_bad
        · exact de_bad
      · rename_i es kk q
        split
        · rename_i ts hts
          split
          · rename_i hx
            rw [Bool.and_eq_true, decide_eq_true_eq, List.all_eq_true] at hx
            refine de_isiN hg hm hts (fun x p hxp => ⟨g.gl (hx.2 _ hxp), g.blt _ (tysE_mem hts x p hxp)⟩) (by rw [sizeLine_eq]; omega) (ha a _ rfl) fun es => star1 hs es _
          · exact de_bad
        · exact de_bad
      · exact de_bad
    · have hs2 : isStar b = false := by
        rw [List.any_cons, Bool.or_eq_false_iff] at h2
        simpa using h2.2
      split
      · rename_i hf
        cases of_decide_eq_true hf
        exact de_max2 g.calm hg (g.blt _ (by decide +kernel)) (ha a _ rfl) (ha2 a b rfl) (star1 hs _ _) (star1 hs2 [] _)
      split
      · rename_i hf
        cases of_decide_eq_true hf
        exact de_min2 g.calm hg (g.blt _ (by decide +kernel)) (ha a _ rfl) (ha2 a b rfl) (star1 hs _ _) (star1 hs2 [] _)
      exact call a [b] rfl
  · rename_i x1 x2 x3
    cases args with
    | nil => exact absurd rfl x1
    | cons a r => exact call a r rfl
end
structure Snd (k : Nat) : Prop where
  e : ∀ (c : CC) (T : Tab) (lv : Nat) (X : Cx) (W : WD), Gd c T lv X → Takes X W → ∀ e, PE X e (lift (cn X) W (wE T (cE k c e)))
  t : ∀ (c : CC) (T : Tab) (lv : Nat) (X : Cx) (W : WD), Gd c T lv X → Takes X W → ∀ e, PT X e (lT X W (wE T (cT k c e)))
  a : ∀ (c : CC) (T : Tab) (lv : Nat) (X : Cx) (W : WD), Gd c T lv X → Takes X W → ∀ es, PA X es (liftA (cn X) W (wA T (cA k c es)))
  and : ∀ (c : CC) (T : Tab) (lv : Nat) (X : Cx) (W : WD), Gd c T lv X → Takes X W → ∀ es pos, PE X (.BoolOp .And es pos) (lift (cn X) W (wAnd T (cL k c es)))
  or : ∀ (c : CC) (T : Tab) (lv : Nat) (X : Cx) (W : WD), Gd c T lv X → Takes X W → ∀ es pos, PE X (.BoolOp .Or es pos) (lift (cn X) W (wOr T (cL k c es)))
  andT : ∀ (c : CC) (T : Tab) (lv : Nat) (X : Cx) (W : WD), Gd c T lv X → Takes X W → ∀ es pos, PW X (.BoolOp .And es pos) (lT X W (wAndT T (cLT k c es)))
  orT : ∀ (c : CC) (T : Tab) (lv : Nat) (X : Cx) (W : WD), Gd c T lv X → Takes X W → ∀ es pos, PW X (.BoolOp .Or es pos) (lT X W (wOrT T (cLT k c es)))
  o : ∀ (c : CC) (T : Tab) (lv : Nat) (X : Cx) (W : WD), Gd c T lv X → Takes X W → ∀ e, PO X e (liftO (cn X) W (IE.part T e.isSome (cO k c e)))
  h : ∀ (c : CC) (T : Tab) (lv : Nat) (X : Cx) (W : WD), Gd c T lv X → Takes X W → ∀ a r, PE X a (lift (cn X) W (wE T (cH k c (a :: r))))
  f : ∀ (c : CC) (T : Tab) (lv : Nat) (X : Cx) (W : WD), Gd c T lv X → Takes X W → ∀ ifs, ifs.length ≤ 1 → PTs X ifs (lT X W (wE T (cF k c ifs)))
  i : ∀ (c : CC) (T : Tab) (lv : Nat) (X : Cx) (W : WD), Gd c T lv X → Takes X W → ∀ tg e, PI X tg e (liftI (cn X) W (wI T (cI k c tg e)))
  kw : ∀ (c : CC) (T : Tab) (lv : Nat) (X : Cx) (W : WD), Gd c T lv X → Takes X W → ∀ kws, PK X kws (liftA (cn X) W (wA T (cKw k c kws)))
  a2 : ∀ (c : CC) (T : Tab) (lv : Nat) (X : Cx) (W : WD), Gd c T lv X → Takes X W → ∀ a b, PE X b (lift (cn X) W (wE T (cH2 k c [a, b])))
  d : ∀ (c : CC) (T : Tab) (lv : Nat) (X : Cx) (W : WD), Gd c T lv X → Takes X W → ∀ keys values ks, keysE keys = some ks → values.length = ks.length → Prs X W T keys values ks (cL k c values)
theorem relS_cell {scope sc : Scope} {x : Str} (h : scope.names.lookup x = some .cell) : True := trivial
theorem ptBad {X : Cx} {W : WD} {T : Tab} {e : Expr} : PT X e (lT X W (wE T .bad)) := dt_bad
theorem s_args0 {X : Cx} {W : WD} {T : Tab} {es : List Expr} : PA X es (liftA (cn X) W (wA T (.cons .bad .nil))) := ⟨fun pos pins s a H Q I ⟨b, G0, H0, G, n, r, Qd, Ex, h, t, x, k⟩ => by
  rw [wA, wE] at t
  exact t.elim⟩
theorem s_kws0 {X : Cx} {W : WD} {T : Tab} {kws : List Keyword} : PK X kws (liftA (cn X) W (wA T (.cons .bad .nil))) := ⟨fun pos pins s a H Q I ⟨b, G0, H0, G, n, r, Qd, Ex, h, t, x, k⟩ => by
  rw [wA, wE] at t
  exact t.elim⟩
theorem kw_all : ∀ {kws : List Keyword} {ks : List Str}, kwNames kws = some ks → ∀ (pos : Pos) (env : Env), (backToKw pos (keywordEach kws env)).all (·.1.isSome) = true ∧ (backToKw pos (keywordEach kws env)).filterMap (·.1) = ks ∧ (backToKw pos (keywordEach kws env)).any (·.1.isNone) = false
  | [], ks, h, pos, env => by
    cases h
    exact ⟨rfl, rfl, rfl⟩
  | ⟨some k, e, p⟩ :: r, ks, h, pos, env => by
    rw [kwNames] at h
    cases q : kwNames r with
    | none => rw [q] at h; cases h
    | some l =>
      rw [q] at h
      cases h
      obtain ⟨h1, h2, h3⟩ := kw_all q pos env
      refine ⟨?_, ?_, ?_⟩
      · show (true && (backToKw pos (keywordEach r env)).all (·.1.isSome)) = true
        rw [h1]
        rfl
      · show k :: (backToKw pos (keywordEach r env)).filterMap (·.1) = k :: l
        rw [h2]
      · show (false || (backToKw pos (keywordEach r env)).any (·.1.isNone)) = false
        rw [h3]
        rfl
  | ⟨none, e, p⟩ :: r, ks, h, pos, env => by cases h
theorem s_fold (iter : Expr) (h : isSet iter = false) (env : Env) : ∀ x, foldedSetIterable iter env x = pure x := fun x => noset_fold h env x
theorem s_comp {k : Nat} (ih : Snd k) (c : CC) (T : Tab) (lv : Nat) (X : Cx) (W : WD) (g : Gd c T lv X) (tk : Takes X W) {elt tg iter : Expr} {ifs : List Expr} {z : Int} {scope : Scope} {t : Tg}
    (ht : cTg ⟨c.N, relS scope c.sc, c.mu, c.ob⟩ (fun x => scope.names.lookup x == some .cell) tg = some t)
    (h : (decide (z = 0) && blkC c.N c.sc scope ((tgNames tg).zip t.slots) && decide (((tgNames tg).zip t.slots).map (·.2) = t.slots) && decide t.slots.Nodup && !isSet iter && decide (ifs.length ≤ 1)) = true) :
    z = 0 ∧ t.slots.Nodup ∧ PI X tg iter (liftI (cn X) W (wI T (cI k c tg iter))) ∧ BlkOk X.N X.env.scope scope ((tgNames tg).zip t.slots) ∧ ((tgNames tg).zip t.slots).map (·.2) = t.slots ∧
    (∀ (s : Shared) (H : Hp) (C : Addr) (cl : List (Str × Addr)) (fp : List Addr), PG (X.blk s H scope (compEnvC scope cl C X.env) fp) tg (gOf X.K t)) ∧
    (∀ (s : Shared) (H : Hp) (C : Addr) (cl : List (Str × Addr)) (fp : List Addr), PTs (X.blk s H scope (compEnvC scope cl C X.env) fp) ifs (lT X WF (wE T (cF k ⟨c.N, relS scope c.sc, c.mu, c.ob⟩ ifs)))) ∧
    (∀ (s : Shared) (H : Hp) (C : Addr) (cl : List (Str × Addr)) (fp : List Addr), PE (X.blk s H scope (compEnvC scope cl C X.env) fp) elt (lift (cn X) WF (wE T (cE k ⟨c.N, relS scope c.sc, c.mu, c.ob⟩ elt)))) ∧ isSet iter = false := by
  simp only [Bool.and_eq_true, decide_eq_true_eq] at h
  obtain ⟨⟨⟨⟨⟨h1, h2⟩, h3⟩, h4⟩, h5⟩, h6⟩ := h
  refine ⟨h1, h4, ih.i c T lv X W g tk tg iter, ?_, h3, fun s H C cl fp => ?_, fun s H C cl fp => ?_, fun s H C cl fp => ?_, by simpa using h5⟩
  · rw [g.N, g.sc]
    exact blkOk_by h2
  · exact s_tg (g.blk s H C cl fp scope) (fn := fun x => scope.names.lookup x == some .cell) (fun x hx => hx) ht
  · exact ih.f _ T lv _ WF (g.blk s H C cl fp scope) takes0 ifs h6
  · exact ih.e _ T lv _ WF (g.blk s H C cl fp scope) takes0 elt
theorem s_comp2 {k : Nat} (ih : Snd k) (c : CC) (T : Tab) (lv : Nat) (X : Cx) (W : WD) (g : Gd c T lv X) (tk : Takes X W) {elt tg iter tg1 iter1 : Expr} {ifs1 : List Expr} {z z1 : Int} {scope : Scope} {pos : Pos} {t t1 : Tg}
    (ht : cTg ⟨c.N, relS scope c.sc, c.mu, c.ob⟩ (fun x => scope.names.lookup x == some .cell) tg = some t) (ht1 : cTg ⟨c.N, relS scope c.sc, c.mu, c.ob⟩ (fun x => scope.names.lookup x == some .cell) tg1 = some t1)
    (h : (decide (z = 0) && decide (z1 = 0) && blkC c.N c.sc scope ((tgNames tg ++ tgNames tg1).zip (t.slots ++ t1.slots)) && decide (((tgNames tg ++ tgNames tg1).zip (t.slots ++ t1.slots)).map (·.2) = t.slots ++ t1.slots) && !isSet iter && !isSet iter1 && decide (ifs1.length ≤ 1)) = true) :
    PE X (.ListComp elt [⟨tg, iter, [], z⟩, ⟨tg1, iter1, ifs1, z1⟩] scope pos) (lift (cn X) W (wE T (.comp2 (cI k c tg iter) t (cI k ⟨c.N, relS scope c.sc, c.mu, c.ob⟩ tg1 iter1) t1 (cF k ⟨c.N, relS scope c.sc, c.mu, c.ob⟩ ifs1) (cE k ⟨c.N, relS scope c.sc, c.mu, c.ob⟩ elt)))) := by
  simp only [Bool.and_eq_true, decide_eq_true_eq] at h
  obtain ⟨⟨⟨⟨⟨⟨h1, h1'⟩, h2⟩, h3⟩, h5⟩, h5'⟩, h6⟩ := h
  subst h1 h1'
  have bk : ∀ (s : Shared) (H : Hp) (C : Addr) (cl : List (Str × Addr)) (fp : List Addr), Gd ⟨c.N, relS scope c.sc, c.mu, c.ob⟩ T lv (X.blk s H scope (compEnvC scope cl C X.env) fp) := fun s H C cl fp => g.blk s H C cl fp scope
  have q := pe_lc2 (X := X) (elt := elt) (tg := tg) (iter := iter) (tg1 := tg1) (iter1 := iter1) (ifs := []) (ifs1 := ifs1) (pos := pos) (own := (tgNames tg ++ tgNames tg1).zip (t.slots ++ t1.slots)) (vs1 := t1.slots) (g := gOf X.K t) (g1 := gOf X.K t1) (tt := tYes) (wi1 := liftI (cn X) WF (wI T (cI k ⟨c.N, relS scope c.sc, c.mu, c.ob⟩ tg1 iter1))) (tt1 := lT X WF (wE T (cF k ⟨c.N, relS scope c.sc, c.mu, c.ob⟩ ifs1))) (te := lift (cn X) WF (wE T (cE k ⟨c.N, relS scope c.sc, c.mu, c.ob⟩ elt))) g.calm (by rw [g.N]; exact g.nd) (ih.i c T lv X W g tk tg iter)
    (by rw [g.N, g.sc]; exact blkOk_by h2) (by rw [h3]; exact fun i hi => List.mem_append_right _ hi)
    (fun s H C cl fp => s_tg (bk s H C cl fp) (fn := fun x => scope.names.lookup x == some .cell) (fun x hx => hx) ht) (fun s H C cl fp => pts_nil)
    (fun s H C cl fp => ih.i _ T lv _ WF (bk s H C cl fp) takes0 tg1 iter1)
    (fun s H C cl fp => s_tg (bk s H C cl fp) (fn := fun x => scope.names.lookup x == some .cell) (fun x hx => hx) ht1)
    (fun s H C cl fp => ih.f _ T lv _ WF (bk s H C cl fp) takes0 ifs1 h6)
    (fun s H C cl fp => ih.e _ T lv _ WF (bk s H C cl fp) takes0 elt) (s_fold _ (by simpa using h5) _) (fun env => s_fold _ (by simpa using h5') env)
  rw [h3] at q
  exact de_of_F (pe_imp q fun s H Q hq => comp2_read hq)
theorem isNil_L {k : Nat} {c : CC} {e : Expr} {r : List Expr} : (cL k c (e :: r)).isNil = false := by
  cases k <;> rfl
theorem isNil_LT {k : Nat} {c : CC} {e : Expr} {r : List Expr} : (cLT k c (e :: r)).isNil = false := by
  cases k <;> rfl
theorem snd : ∀ k, Snd k
  | 0 => ⟨fun c T lv X W g tk e => by rw [cE]; exact de_bad, fun c T lv X W g tk e => by rw [cT]; exact dt_bad, fun c T lv X W g tk es => by rw [cA]; exact s_args0,
      fun c T lv X W g tk es pos => by
        rw [cL]
        exact ⟨fun pins s a H Q I ⟨b, G0, H0, G, n, r, Qd, Ex, h, t, x, k⟩ => by
          rw [wAnd, if_pos (show IAs.nil.isNil = true from rfl), wE] at t
          exact t.elim⟩,
      fun c T lv X W g tk es pos => by
        rw [cL]
        exact ⟨fun pins s a H Q I ⟨b, G0, H0, G, n, r, Qd, Ex, h, t, x, k⟩ => by
          rw [wOr, if_pos (show IAs.nil.isNil = true from rfl), wE] at t
          exact t.elim⟩,
      fun c T lv X W g tk es pos => by
        rw [cLT]
        exact ⟨fun wh pins s a H Q I ⟨b, G0, H0, G, n, r, Qd, Ex, h, t, x, k⟩ => by
          dsimp only at t
          rw [wAndT, wE] at t
          exact t.elim⟩,
      fun c T lv X W g tk es pos => by
        rw [cLT]
        exact ⟨fun wh pins s a H Q I ⟨b, G0, H0, G, n, r, Qd, Ex, h, t, x, k⟩ => by
          dsimp only at t
          rw [wOrT, wE] at t
          exact t.elim⟩,
      fun c T lv X W g tk e => by
        cases e with
        | none => exact dpo_none
        | some e => rw [cO]; exact dpo_some de_bad,
      fun c T lv X W g tk a r => by rw [cH]; exact de_bad,
      fun c T lv X W g tk ifs hl => by
        rw [cF]
        exact ⟨fun pins s a H Q I ⟨b, G0, H0, G, n, r, Qd, Ex, h, t, x, k⟩ => by
          dsimp only at t
          rw [wE] at t
          exact t.elim⟩,
      fun c T lv X W g tk tg e => by rw [cI]; exact di_ex de_bad,
      fun c T lv X W g tk kws => by rw [cKw]; exact s_kws0,
      fun c T lv X W g tk a b => by rw [cH2]; exact de_bad,
      fun c T lv X W g tk keys values ks h1 h2 => by rw [cL]; exact prs_bad h1 h2⟩
  | k + 1 => by
    have ih := snd k
    refine ⟨fun c T lv X W g tk e => ?_, fun c T lv X W g tk e => ?_, fun c T lv X W g tk es => ?_, fun c T lv X W g tk es pos => ?_, fun c T lv X W g tk es pos => ?_, fun c T lv X W g tk es pos => ?_, fun c T lv X W g tk es pos => ?_, fun c T lv X W g tk e => ?_, fun c T lv X W g tk a r => ?_, fun c T lv X W g tk ifs hl => ?_, fun c T lv X W g tk tg e => ?_, fun c T lv X W g tk kws => ?_, fun c T lv X W g tk a b => ?_, fun c T lv X W g tk keys values ks h1 h2 => ?_⟩
    · have hE := ih.e c T lv X W g tk
      rw [cE.eq_def]
      dsimp only
      split
      · exact s_name g _ _
      · exact s_const _ _ _
      · split
        · exact de_bin (s_op (by assumption)) (hE _) (hE _)
        · exact de_bad
      · exact de_neg (hE _)
      · exact de_not (hE _)
      · exact s_cmp1 g tk (hE _) (hE _)
      · split
        · exact de_bad
        · rename_i hs
          rw [Bool.or_eq_true, not_or] at hs
          refine de_chain (s_cop g _) (s_cop g _) (hE _) (hE _) (hE _) ?_
          exact noset_marks (by simpa using hs.2)
      · exact ⟨fun pins s a H Q I h => (ih.and c T lv X W g tk _ _).run pins s a H Q I (by
          obtain ⟨b, G0, H0, G, n, r, Qd, Ex, h, t, x, k⟩ := h
          rw [wE] at t
          exact ⟨b, G0, H0, G, n, r, Qd, Ex, h, t, x, k⟩)⟩
      · exact ⟨fun pins s a H Q I h => (ih.or c T lv X W g tk _ _).run pins s a H Q I (by
          obtain ⟨b, G0, H0, G, n, r, Qd, Ex, h, t, x, k⟩ := h
          rw [wE] at t
          exact ⟨b, G0, H0, G, n, r, Qd, Ex, h, t, x, k⟩)⟩
      · exact de_ite (ih.t c T lv X W g tk _) (hE _) (hE _)
      · exact de_lst (ih.a c T lv X W g tk _)
      · exact de_tup (ih.a c T lv X W g tk _)
      · exact de_dis0
      · split
        · rename_i ks hks
          split
          · rename_i h
            simp only [Bool.and_eq_true, decide_eq_true_eq] at h
            obtain ⟨⟨h1, h2⟩, h3⟩ := h
            exact de_dis hks h1 h2 (fun e => by rw [e] at h3; cases h3) (ih.d c T lv X W g tk _ _ _ hks h1)
          · exact de_bad
        · exact de_bad
      · exact de_rev (hE _)
      · exact de_slc (hE _) (ih.o c T lv X W g tk _) (ih.o c T lv X W g tk _)
      · split
        · rename_i hi
          split
          · exact de_ixm tk g.me g.room (hE _) (hE _) (sub_ix hi)
          · exact de_ix (hE _) (hE _) (plain_ix hi)
        · exact de_bad
      · split
        · exact de_attr g.fl (hE _) (base_of (by assumption) _ _)
        · exact de_bad
      · split
        · rename_i h
          simp only [Bool.and_eq_true, decide_eq_true_eq] at h
          obtain ⟨⟨⟨⟨h1, h2⟩, h3⟩, h4⟩, h5⟩ := h
          subst h1 h2
          exact de_lenset g.calm (g.gl h3) (g.blt _ (by decide +kernel)) (g.gl h4) (g.blt _ (by decide +kernel)) (hE _) (star1 (by simpa using h5) [] _)
        · exact s_call g tk (fun a r e => by cases e; exact ih.h c T lv X W g tk _ _) (fun a b e => by cases e) (ih.a c T lv X W g tk _)
      · exact s_call g tk (fun a r e => by subst e; exact ih.h c T lv X W g tk a r) (fun a b e => by subst e; exact ih.a2 c T lv X W g tk a b) (ih.a c T lv X W g tk _)
      · split
        · rename_i h
          simp only [Bool.and_eq_true, decide_eq_true_eq] at h
          obtain ⟨⟨⟨⟨h1, h2⟩, h3⟩, h4⟩, h5⟩ := h
          subst h1
          exact de_join (by rw [sizeLine_eq]; exact h2) h3 (hE _) (star1 (by simpa using h4) [] _) h5
        · exact de_bad
      · split
        · rename_i h
          simp only [Bool.and_eq_true, decide_eq_true_eq] at h
          obtain ⟨⟨⟨⟨⟨h1, h2⟩, h3⟩, h4⟩, h5⟩, h6⟩ := h
          subst h1
          obtain ⟨n1, n2, n3⟩ := nm_of h3
          have e1 := star1 (show isStar _ = false by simpa using h4)
          have e2 := star1 (show isStar _ = false by simpa using h5) [] X.env
          refine de_gget (g.gd _) (g.gl h2) n1 (hE _) (hE _) ⟨rfl, ?_, h6, ?_⟩
          · rw [e1, e2]
            rfl
          · rw [e1, e2]
            rfl
        · split
          · rename_i h
            simp only [Bool.and_eq_true, decide_eq_true_eq] at h
            obtain ⟨⟨⟨⟨h2, h3⟩, h4⟩, h5⟩, h6⟩ := h
            obtain ⟨n1, n2, n3⟩ := nm_of h3
            have e1 := star1 (show isStar _ = false by simpa using h4)
            have e2 := star1 (show isStar _ = false by simpa using h5) [] X.env
            refine de_stat (g.sm _ _) g.room (g.gl h2) n1 (ih.a c T lv X W g tk _) (e1 _ _) ?_ ?_ h6
            · rw [e2]
              rfl
            · rw [e1, e2]
              rfl
          · exact de_bad
      · split
        · rename_i h
          simp only [Bool.and_eq_true, decide_eq_true_eq] at h
          obtain ⟨⟨h2, h3⟩, h6⟩ := h
          obtain ⟨n1, n2, n3⟩ := nm_of h3
          exact de_statk (g.sm _ _) g.room (g.gl h2) n1 (dk_cons (hE _) (dk_cons (hE _) dk_nil)) h6
        · exact de_bad
      · split
        · rename_i t ht
          split
          · rename_i hh
            obtain ⟨rfl, a2, a3, a4, a5, a6, a7, a8, a9⟩ := s_comp ih c T lv X W g tk ht hh
            exact de_of_F (df_comp g.calm (by rw [g.N]; exact g.nd) a2 a3 a4 a5 a6 a7 a8 (s_fold _ a9 _))
          · exact de_bad
        · exact de_bad
      · split
        · rename_i t t1 ht ht1
          split
          · rename_i hh
            exact s_comp2 ih c T lv X W g tk ht ht1 hh
          · exact de_bad
        · exact de_bad
      · split
        · rename_i ks hks
          split
          · rename_i hc
            rw [Bool.and_eq_true] at hc
            obtain ⟨n1, n2, n3⟩ := nm_of hc.2
            have e3 := fun p => kw_all hks p X.env
            exact de_callk tk (g.kw _ _) g.room (g.gl hc.1) n1 (ih.kw c T lv X W g tk _) (e3 _).1 (e3 _).2.1 (by rw [(e3 _).2.2]; rfl)
          · exact de_bad
        · exact de_bad
      · exact de_bad
    · have hE := ih.e c T lv X W g tk
      rw [cT.eq_def]
      dsimp only
      split
      · exact dt_not (ih.t c T lv X W g tk _)
      · exact (pw_imp (ih.andT c T lv X W g tk _ _) fun s H Q ⟨b, G0, H0, G, n, r, Qd, Ex, h, t, x, k⟩ => by
          dsimp only at t
          rw [wE] at t
          exact ⟨b, G0, H0, G, n, r, Qd, Ex, h, t, x, k⟩).pt
      · exact (pw_imp (ih.orT c T lv X W g tk _ _) fun s H Q ⟨b, G0, H0, G, n, r, Qd, Ex, h, t, x, k⟩ => by
          dsimp only at t
          rw [wE] at t
          exact ⟨b, G0, H0, G, n, r, Qd, Ex, h, t, x, k⟩).pt
      · exact st_cmp1 g tk (hE _) (hE _)
      · split
        · exact dt_bad
        · rename_i hs
          rw [Bool.or_eq_true, not_or] at hs
          refine dt_chain (s_cop g _) (s_cop g _) (hE _) (hE _) (hE _) ?_
          exact noset_marks (by simpa using hs.2)
      · exact dt_bad
      · exact dt_bad
      · exact dt_val (hE _) fun _ => rfl
      · exact dt_val (hE _) fun _ => rfl
      · exact dt_val (hE _) fun _ => rfl
      · exact dt_val (hE _) fun _ => rfl
      · exact dt_bad
    · cases es with
      | nil => exact da_nil
      | cons e r =>
        cases e with
        | Starred e p => exact da_star (ih.e c T lv X W g tk _) (ih.a c T lv X W g tk _)
        | _ => exact da_cons (ih.e c T lv X W g tk _) (ih.a c T lv X W g tk _) (star1 rfl _ _)
    · cases es with
      | nil =>
        rw [cL]
        exact ⟨fun pins s a H Q I ⟨b, G0, H0, G, n, r, Qd, Ex, h, t, x, k⟩ => by
          rw [wAnd] at t
          exact t.elim⟩
      | cons e r =>
        rw [cL]
        cases r with
        | nil =>
          cases k with
          | zero => exact ⟨fun pins s a H Q I ⟨b, G0, H0, G, n, r, Qd, Ex, h, t, x, k⟩ => by
              rw [wAnd, if_neg (by show ¬ (false = true); decide), cE, wE] at t
              exact t.elim⟩
          | succ k =>
            rw [cL]
            exact de_and1 (ih.e c T lv X W g tk _)
        | cons e2 r => exact de_andC isNil_L (ih.e c T lv X W g tk _) (ih.and c T lv X W g tk _ _)
    · cases es with
      | nil =>
        rw [cL]
        exact ⟨fun pins s a H Q I ⟨b, G0, H0, G, n, r, Qd, Ex, h, t, x, k⟩ => by
          rw [wOr] at t
          exact t.elim⟩
      | cons e r =>
        rw [cL]
        cases r with
        | nil =>
          cases k with
          | zero => exact ⟨fun pins s a H Q I ⟨b, G0, H0, G, n, r, Qd, Ex, h, t, x, k⟩ => by
              rw [wOr, if_neg (by show ¬ (false = true); decide), cE, wE] at t
              exact t.elim⟩
          | succ k =>
            rw [cL]
            exact de_or1 (ih.e c T lv X W g tk _)
        | cons e2 r => exact de_orC isNil_L (ih.e c T lv X W g tk _) (ih.or c T lv X W g tk _ _)
    · cases es with
      | nil =>
        rw [cLT]
        exact ⟨fun wh pins s a H Q I ⟨b, G0, H0, G, n, r, Qd, Ex, h, t, x, k⟩ => by
          dsimp only at t
          rw [wAndT] at t
          exact t.elim⟩
      | cons e r =>
        rw [cLT]
        cases r with
        | nil =>
          cases k with
          | zero => exact ⟨fun wh pins s a H Q I ⟨b, G0, H0, G, n, r, Qd, Ex, h, t, x, k⟩ => by
              dsimp only at t
              rw [wAndT, cT, wE] at t
              exact t.elim⟩
          | succ k =>
            rw [cLT]
            exact dw_and1 (ih.t c T lv X W g tk _)
        | cons e2 r => exact dw_andC isNil_LT (ih.t c T lv X W g tk _) (ih.andT c T lv X W g tk _ _)
    · cases es with
      | nil =>
        rw [cLT]
        exact ⟨fun wh pins s a H Q I ⟨b, G0, H0, G, n, r, Qd, Ex, h, t, x, k⟩ => by
          dsimp only at t
          rw [wOrT] at t
          exact t.elim⟩
      | cons e r =>
        rw [cLT]
        cases r with
        | nil =>
          cases k with
          | zero => exact ⟨fun wh pins s a H Q I ⟨b, G0, H0, G, n, r, Qd, Ex, h, t, x, k⟩ => by
              dsimp only at t
              rw [wOrT, cT, wE] at t
              exact t.elim⟩
          | succ k =>
            rw [cLT]
            exact dw_or1 (ih.t c T lv X W g tk _)
        | cons e2 r => exact dw_orC isNil_LT (ih.t c T lv X W g tk _) (ih.orT c T lv X W g tk _ _)
    · cases e with
      | none => exact dpo_none
      | some e =>
        rw [cO]
        exact dpo_some (ih.e c T lv X W g tk e)
    · rw [cH]
      exact ih.e c T lv X W g tk a
    · cases ifs with
      | nil =>
        rw [cF]
        exact dts_nil
      | cons e r =>
        cases r with
        | nil =>
          rw [cF]
          have q := pts_one (ih.t c T lv X W g tk e)
          exact q
        | cons _ _ => simp at hl
    · have hE := ih.e c T lv X W g tk
      rw [cI.eq_def]
      dsimp only
      split
      · split
        · rename_i h
          simp only [Bool.and_eq_true, decide_eq_true_eq] at h
          obtain ⟨⟨h1, h2⟩, h3⟩ := h
          subst h1
          exact di_rng1 (g.gl h2) (g.blt _ (by decide +kernel)) (hE _) (star1 (by simpa using h3) [] _)
        · split
          · rename_i h
            simp only [Bool.and_eq_true, decide_eq_true_eq] at h
            obtain ⟨⟨⟨h1, h2⟩, h3⟩, h4⟩ := h
            subst h1
            cases tg <;> first | (cases h4; done) | skip
            exact di_enum (g.gl h2) (g.blt _ (by decide +kernel)) (hE _) (star1 (by simpa using h3) [] _)
          · exact di_ex (hE _)
      · split
        · rename_i h
          simp only [Bool.and_eq_true, decide_eq_true_eq] at h
          obtain ⟨⟨⟨h1, h2⟩, h3⟩, h4⟩ := h
          subst h1
          have e1 := star1 (show isStar _ = false by simpa using h3)
          have e2 := star1 (show isStar _ = false by simpa using h4) [] X.env
          exact di_rng2 (g.gl h2) (g.blt _ (by decide +kernel)) (hE _) (hE _) (by rw [e1, e2]; rfl) e2
        · split
          · rename_i h
            simp only [Bool.and_eq_true, decide_eq_true_eq] at h
            obtain ⟨⟨⟨⟨h1, h2⟩, h3⟩, h4⟩, h5⟩ := h
            subst h1
            have e1 := star1 (show isStar _ = false by simpa using h3)
            have e2 := star1 (show isStar _ = false by simpa using h4) [] X.env
            cases tg <;> first | (cases h5; done) | skip
            exact di_zip (g.gl h2) (g.blt _ (by decide +kernel)) (hE _) (hE _) (e1 _ _) e2
          · exact di_ex (hE _)
      · exact di_ex (hE _)
    · cases kws with
      | nil => exact dk_nil
      | cons w r =>
        obtain ⟨nm, e, p⟩ := w
        rw [cKw]
        exact dk_cons (ih.e c T lv X W g tk e) (ih.kw c T lv X W g tk r)
    · rw [cH2]
      exact ih.e c T lv X W g tk b
    · cases values with
      | nil =>
        cases keys with
        | nil =>
          rw [cL]
          exact prs_nil h1
        | cons o r =>
          cases o with
          | none => cases h1
          | some e =>
            rw [keysE] at h1
            split at h1
            · cases h1
              cases h2
            · cases h1
      | cons v vs =>
        cases keys with
        | nil => cases h1; cases h2
        | cons o r =>
          cases o with
          | none => cases h1
          | some e =>
            rw [keysE] at h1
            split at h1
            · rename_i k0 ks' q1 q2
              cases h1
              rw [cL]
              exact prs_cons q1 (ih.e c T lv X W g tk _) (ih.d c T lv X W g tk _ _ _ q2 (by simpa using h2))
            · cases h1
end Dl

set_option Elab.async false
set_option linter.all false
set_option maxRecDepth 100000
set_option maxHeartbeats 4000000
namespace Dl
open PySem PySem.Spec PyProof.Rows L2
theorem swB_eq (elt : Expr) (gs : List Comprehension) (scope : Scope) (pos : Pos) (x : Str) (p : Pos) (l : Nat) (env : Env) : swapsWith (.ListComp elt gs scope pos) (some (.Name x p)) l env = pure (env.blockKind == .function && env.kindOf x == some .local && p.line == pos.line && !(scope.names.any fun (n, k) => n == x && (k == .local || k == .cell))) := rfl
def noStars (vs : List Expr) : Bool := !vs.any isStar
theorem star_any {vs : List Expr} (h : vs.any isStar = false) {g : Expr → Bool} (hg : ∀ e, g e = isStar e) : vs.any g = false := by
  have e : g = isStar := funext hg
  rw [e]
  exact h
/-- two or three names of the def's own, stored from the right -/
def sw2 (sc : Scope) (x : Str) (px : Pos) (y : Str) (py : Pos) : Bool := lclB sc x && lclB sc y && (py.line == px.line) && decide (x ≠ y)
def sw3 (sc : Scope) (x : Str) (px : Pos) (y : Str) (py : Pos) (z : Str) (pz : Pos) : Bool := lclB sc x && lclB sc y && lclB sc z && (py.line == px.line) && (pz.line == px.line) && decide (x ≠ y) && decide (x ≠ z) && decide (y ≠ z)
theorem kind_lcl {env : Env} {x : Str} : (env.kindOf x == some .local) = lclB env.scope x := by
  unfold lclB Env.kindOf
  cases h : env.scope.names.lookup x with
  | none => rfl
  | some k => cases k <;> rfl
theorem names2 {env : Env} {x y : Str} {px py : Pos} {g : Expr → Option Str} (hg : ∀ id pos, g (.Name id pos) = if (env.kindOf id == some .local && pos.line == px.line) = true then some id else none) (h : sw2 env.scope x px y py = true) : ([Expr.Name x px, .Name y py].filterMap g) = [x, y] := by
  unfold sw2 at h
  simp only [Bool.and_eq_true, decide_eq_true_eq, ← kind_lcl] at h
  obtain ⟨⟨⟨h1, h2⟩, h3⟩, h4⟩ := h
  simp [List.filterMap, hg, h1, h2, h3]
theorem dups2 {x y : Str} (h : x ≠ y) : [x, y].eraseDups.length = 2 := by
  rw [List.eraseDups_cons]
  have : (y == x) = false := by simpa using fun e => h e.symm
  simp [List.filter, this, List.eraseDups_cons]
theorem sw2_some {env : Env} {x y : Str} {px py pt p2 : Pos} {kt k2 : Nat} {a c : Expr} (hk : env.blockKind = .function) (hs : ([a, c].any isStar) = false) (h : sw2 env.scope x px y py = true) (h1 : [a, c].all (foldedForSure 8) = false) (h2 : [a, c].all (constantsAlone 8) = false) :
    swappedStores [.Tuple [.Name x px, .Name y py] kt pt] (.Tuple [a, c] k2 p2) env = pure (some [x, y]) := by
  have hx : x ≠ y := by
    unfold sw2 at h
    simp only [Bool.and_eq_true, decide_eq_true_eq] at h
    exact h.2
  unfold swappedStores
  dsimp only
  rw [star_any hs (fun e => by cases e <;> rfl), names2 (env := env) (px := px) (fun id pos => rfl) h, dups2 hx, hk, h1, h2]
  rfl
theorem sw2_fold {env : Env} {x y : Str} {px py pt p2 : Pos} {kt k2 : Nat} {a c : Expr} (hk : env.blockKind = .function) (hs : ([a, c].any isStar) = false) (h : sw2 env.scope x px y py = true) (h1 : [a, c].all (foldedForSure 8) = true) :
    swappedStores [.Tuple [.Name x px, .Name y py] kt pt] (.Tuple [a, c] k2 p2) env = pure none := by
  have hx : x ≠ y := by
    unfold sw2 at h
    simp only [Bool.and_eq_true, decide_eq_true_eq] at h
    exact h.2
  unfold swappedStores
  dsimp only
  rw [star_any hs (fun e => by cases e <;> rfl), names2 (env := env) (px := px) (fun id pos => rfl) h, dups2 hx, hk, h1]
  rfl
theorem dups2' {x : Str} : [x, x].eraseDups.length = 1 := by
  rw [List.eraseDups_cons]
  simp
theorem sw2_no {env : Env} {x y : Str} {px py pt p2 : Pos} {kt k2 : Nat} {a c : Expr} (hk : env.blockKind = .function) (hs : ([a, c].any isStar) = false) (h : sw2 env.scope x px y py = false) :
    swappedStores [.Tuple [.Name x px, .Name y py] kt pt] (.Tuple [a, c] k2 p2) env = pure none := by
  unfold sw2 at h
  rw [← kind_lcl, ← kind_lcl] at h
  unfold swappedStores
  dsimp only
  rw [star_any hs (fun e => by cases e <;> rfl), hk]
  cases c1 : (env.kindOf x == some .local) with
  | false => simp [c1, List.filterMap, Expr.pos]; try (split <;> simp)
  | true =>
    cases c2 : (env.kindOf y == some .local) with
    | false => simp [c1, c2, List.filterMap, Expr.pos]
    | true =>
      cases c3 : (py.line == px.line) with
      | false => simp [c1, c2, c3, List.filterMap, Expr.pos]
      | true =>
        rw [c1, c2, c3] at h
        have hx : x = y := by simpa using h
        subst hx
        simp [c1, c3, List.filterMap, Expr.pos, dups2']
theorem names3 {env : Env} {x y z : Str} {px py pz : Pos} {g : Expr → Option Str} (hg : ∀ id pos, g (.Name id pos) = if (env.kindOf id == some .local && pos.line == px.line) = true then some id else none) (h : sw3 env.scope x px y py z pz = true) : ([Expr.Name x px, .Name y py, .Name z pz].filterMap g) = [x, y, z] := by
  unfold sw3 at h
  simp only [Bool.and_eq_true, decide_eq_true_eq, ← kind_lcl] at h
  obtain ⟨⟨⟨⟨⟨⟨⟨h1, h2⟩, h3⟩, h4⟩, h5⟩, h6⟩, h7⟩, h8⟩ := h
  simp [List.filterMap, hg, h1, h2, h3, h4, h5]
theorem dups3 {x y z : Str} (h : x ≠ y) (h' : x ≠ z) (h'' : y ≠ z) : [x, y, z].eraseDups.length = 3 := by
  rw [List.eraseDups_cons]
  have e1 : (y == x) = false := by simpa using fun e => h e.symm
  have e2 : (z == x) = false := by simpa using fun e => h' e.symm
  have e3 : (z == y) = false := by simpa using fun e => h'' e.symm
  simp [List.filter, e1, e2, e3, List.eraseDups_cons]
theorem ne3 {sc : Scope} {x y z : Str} {px py pz : Pos} (h : sw3 sc x px y py z pz = true) : x ≠ y ∧ x ≠ z ∧ y ≠ z := by
  unfold sw3 at h
  simp only [Bool.and_eq_true, decide_eq_true_eq] at h
  exact ⟨h.1.1.2, h.1.2, h.2⟩
theorem sw3_some {env : Env} {x y z : Str} {px py pz pt p2 : Pos} {kt k2 : Nat} {a c e : Expr} (hk : env.blockKind = .function) (hs : ([a, c, e].any isStar) = false) (h : sw3 env.scope x px y py z pz = true) (h1 : [a, c, e].all (foldedForSure 8) = false) (h2 : [a, c, e].all (constantsAlone 8) = false) :
    swappedStores [.Tuple [.Name x px, .Name y py, .Name z pz] kt pt] (.Tuple [a, c, e] k2 p2) env = pure (some [x, y, z]) := by
  obtain ⟨n1, n2, n3⟩ := ne3 h
  unfold swappedStores
  dsimp only
  rw [star_any hs (fun e => by cases e <;> rfl), names3 (env := env) (px := px) (fun id pos => rfl) h, dups3 n1 n2 n3, hk, h1, h2]
  rfl
theorem sw3_fold {env : Env} {x y z : Str} {px py pz pt p2 : Pos} {kt k2 : Nat} {a c e : Expr} (hk : env.blockKind = .function) (hs : ([a, c, e].any isStar) = false) (h : sw3 env.scope x px y py z pz = true) (h1 : [a, c, e].all (foldedForSure 8) = true) :
    swappedStores [.Tuple [.Name x px, .Name y py, .Name z pz] kt pt] (.Tuple [a, c, e] k2 p2) env = pure none := by
  obtain ⟨n1, n2, n3⟩ := ne3 h
  unfold swappedStores
  dsimp only
  rw [star_any hs (fun e => by cases e <;> rfl), names3 (env := env) (px := px) (fun id pos => rfl) h, dups3 n1 n2 n3, hk, h1]
  rfl
theorem dups_lt {l : List Str} (h : ¬ l.Nodup) : l.eraseDups.length ≠ l.length := fun e => h (by
  have key : ∀ (n : Nat) (l : List Str), l.length ≤ n → (l.eraseDups.length ≤ l.length ∧ (l.eraseDups.length = l.length → l.Nodup)) := by
    intro n
    induction n with
    | zero =>
      intro l hl
      have : l = [] := List.length_eq_zero_iff.mp (by omega)
      subst this
      exact ⟨Nat.le_refl _, fun _ => List.nodup_nil⟩
    | succ n ih =>
      intro l hl
      cases l with
      | nil => exact ⟨Nat.le_refl _, fun _ => List.nodup_nil⟩
      | cons x xs =>
        rw [List.eraseDups_cons, List.length_cons, List.length_cons]
        have hf : (xs.filter fun b => !b == x).length ≤ xs.length := List.length_filter_le _ _
        rw [List.length_cons] at hl
        obtain ⟨i1, i2⟩ := ih (xs.filter fun b => !b == x) (by omega)
        refine ⟨by omega, fun e => ?_⟩
        have e2 : (xs.filter fun b => !b == x).length = xs.length := by omega
        have e3 : xs.filter (fun b => !b == x) = xs := List.filter_eq_self.mpr (List.length_filter_eq_length_iff.mp e2)
        rw [e3] at i2 e
        refine List.nodup_cons.mpr ⟨fun m => ?_, i2 (by omega)⟩
        have := List.length_filter_eq_length_iff.mp e2 x m
        simp at this
  exact (key l.length l (Nat.le_refl _)).2 e)
theorem sw3_no {env : Env} {x y z : Str} {px py pz pt p2 : Pos} {kt k2 : Nat} {a c e : Expr} (hk : env.blockKind = .function) (hs : ([a, c, e].any isStar) = false) (h : sw3 env.scope x px y py z pz = false) :
    swappedStores [.Tuple [.Name x px, .Name y py, .Name z pz] kt pt] (.Tuple [a, c, e] k2 p2) env = pure none := by
  unfold sw3 at h
  rw [← kind_lcl, ← kind_lcl, ← kind_lcl] at h
  unfold swappedStores
  dsimp only
  rw [star_any hs (fun e => by cases e <;> rfl), hk]
  cases c1 : (env.kindOf x == some .local) with
  | false =>
    simp only [List.filterMap, Expr.pos, List.head?_cons, Option.map_some, Option.getD_some, c1, Bool.false_and]
    repeat' split
    all_goals first | rfl | simp_all
  | true =>
    cases c2 : (env.kindOf y == some .local) with
    | false =>
      simp only [List.filterMap, Expr.pos, List.head?_cons, Option.map_some, Option.getD_some, c1, c2, Bool.false_and]
      repeat' split
      all_goals first | rfl | simp_all
    | true =>
      cases c3 : (env.kindOf z == some .local) with
      | false =>
        simp only [List.filterMap, Expr.pos, List.head?_cons, Option.map_some, Option.getD_some, c1, c2, c3, Bool.false_and]
        repeat' split
        all_goals first | rfl | simp_all
      | true =>
        cases c4 : (py.line == px.line) with
        | false =>
          simp only [List.filterMap, Expr.pos, List.head?_cons, Option.map_some, Option.getD_some, c1, c2, c3, c4, Bool.true_and]
          repeat' split
          all_goals first | rfl | simp_all
        | true =>
          cases c5 : (pz.line == px.line) with
          | false =>
            simp only [List.filterMap, Expr.pos, List.head?_cons, Option.map_some, Option.getD_some, c1, c2, c3, c4, c5, Bool.true_and]
            repeat' split
            all_goals first | rfl | simp_all
          | true =>
            have nd : ¬ [x, y, z].Nodup := fun nd => by
              rw [c1, c2, c3, c4, c5] at h
              simp only [List.nodup_cons, List.mem_cons, not_or, List.not_mem_nil] at nd
              simp_all
            have nl := dups_lt nd
            simp only [List.filterMap, Expr.pos, List.head?_cons, Option.map_some, Option.getD_some, c1, c2, c3, c4, c5, Bool.true_and, beq_self_eq_true, if_true]
            have e2 : ([x, y, z].eraseDups.length != [x, y, z].length) = true := by simpa using nl
            rw [e2]
            rfl
end Dl

set_option Elab.async false
set_option linter.all false
set_option maxRecDepth 100000
set_option maxHeartbeats 4000000
/-! From the program's text into the small language: statements. -/
namespace Dl
open PySem PySem.Spec PyProof.Rows L2
mutual
/-- the slots that are read as values -/
def IE.reads : IE → List Nat
  | .bad => []
  | .v i => [i]
  | .k _ => []
  | .g _ => []
  | .bin _ a c => a.reads ++ c.reads
  | .neg a => a.reads
  | .cmp _ a c => a.reads ++ c.reads
  | .chain _ _ a c e => a.reads ++ (c.reads ++ e.reads)
  | .and a => a.reads
  | .or a => a.reads
  | .not a => a.reads
  | .tand a => a.reads
  | .tor a => a.reads
  | .tnot a => a.reads
  | .ite c a e => c.reads ++ (a.reads ++ e.reads)
  | .lst a => a.reads
  | .tup a => a.reads
  | .ix a i => a.reads ++ i.reads
  | .slc a _ _ l h => a.reads ++ (l.reads ++ h.reads)
  | .rev a => a.reads
  | .call _ a => a.reads
  | .stat _ _ a => a.reads
  | .statk _ _ _ a => a.reads
  | .bi _ a => a.reads
  | .lenset a => a.reads
  | .isi a _ => a.reads
  | .comp s _ c e => s.reads ++ (c.reads ++ e.reads)
  | .join _ a => a.reads
  | .gget _ a e => a.reads ++ e.reads
  | .dis _ a => a.reads
  | .inO _ a _ => a.reads
  | .lenO _ => []
  | .cat a c => a.reads ++ c.reads
  | .attr a _ => a.reads
  | .ixm a i => a.reads ++ i.reads
  | .inm _ a c => a.reads ++ c.reads
  | .mk _ a => a.reads
  | .callk _ _ a => a.reads
  | .mm _ a c => a.reads ++ c.reads
  | .mmL _ a => a.reads
  | .comp2 s _ s2 _ c e => s.reads ++ (s2.reads ++ (c.reads ++ e.reads))
def IAs.reads : IAs → List Nat
  | .nil => []
  | .cons e r => e.reads ++ r.reads
  | .star e r => e.reads ++ r.reads
def ISr.reads : ISr → List Nat
  | .ex e => e.reads
  | .rng1 a => a.reads
  | .rng2 a c => a.reads ++ c.reads
  | .enum a => a.reads
  | .zip a c => a.reads ++ c.reads
end
def IS.rd : IS → List Nat
  | .ret e => e.reads
  | .ex e => e.reads
  | .set _ e => e.reads
  | .setF _ e => e.reads
  | .unp _ e => e.reads
  | .par _ a => a.reads
  | .ife c _ _ => c.reads
  | .forr s _ _ => s.reads
  | .whl c _ => c.reads
  | .app _ e => e.reads
  | .inc _ e => e.reads
  | .parF _ _ a => a.reads
  | .stf _ _ a => a.reads
  | _ => []
def muS (c : CC) (i : Nat) : Bool := match c.N[i]? with
  | some x => decide (x ∈ c.mu)
  | none => false
def pre (c : CC) (s : IS) (rest : ISs) : ISs := match s.rd.filter (muS c) with
  | [] => .cons s rest
  | l => .cons (.frz l) (.cons s rest)
/-- a new list? (for a name that is changed later) -/
def cFresh (k : Nat) (c : CC) : Expr → Option IE
  | .List es _ => some (.lst (cA k c es))
  | .BinOp a .Add b _ => some (.cat (cE k c a) (cE k c b))
  | .Call (.Name f _) [a] [] _ => if decide (f = "list") && glB c.sc f && !isStar a then some (.bi .list (cE k c a)) else none
  | _ => none
def isLc : Expr → Bool
  | .ListComp _ [_] _ _ => true
  | _ => false
def cSet (k : Nat) (c : CC) (x : Str) (e : Expr) : IS :=
  if !locB c.sc x then .bad else match ixOf c.N x with
  | none => .bad
  | some i => if isLc e then (if decide (x ∈ c.mu) then .setF i (cE k c e) else .set i (cE k c e)) else if isComp e then .bad else
    if decide (x ∈ c.mu) then (match cFresh k c e with
      | some ie => .setF i ie
      | none => .set i (cE k c e)) else .set i (cE k c e)
/-- which of the targets get a new list of their own -/
def cFl (k : Nat) (c : CC) : List Expr → List Expr → List Bool
  | .Name x _ :: ts, v :: vs => (decide (x ∈ c.mu) && (cFresh k c v).isSome) :: cFl k c ts vs
  | _ :: ts, _ :: vs => false :: cFl k c ts vs
  | [], _ :: vs => false :: cFl k c [] vs
  | _, [] => []
def cAF (k : Nat) (c : CC) : List Bool → List Expr → IAs
  | true :: fl, v :: vs => .cons ((cFresh k c v).getD .bad) (cAF k c fl vs)
  | false :: fl, v :: vs => .cons (cE k c v) (cAF k c fl vs)
  | [], v :: vs => .cons .bad (cAF k c [] vs)
  | _, [] => .nil
/-- a, b = x, y -/
def cPar1 (c : CC) (ts vs : List Expr) (mkS : List Nat → IS) : IS := match cNames c (fun _ => true) ts with
  | none => .bad
  | some l => if vs.any isStar || decide (100 < l.length) then .bad else match ts, vs with
    | [.Name x px, .Name y py], [a, b] => if sw2 c.sc x px y py && !([a, b].all (foldedForSure 8)) && [a, b].all (constantsAlone 8) then .bad else mkS l
    | [.Name x px, .Name y py, .Name z pz], [a, b, d] => if sw3 c.sc x px y py z pz && !([a, b, d].all (foldedForSure 8)) && [a, b, d].all (constantsAlone 8) then .bad else mkS l
    | _, _ => if ts.length == vs.length && !(ts.length == 2 || ts.length == 3) then mkS l else .bad
def cPar (k : Nat) (c : CC) (ts vs : List Expr) : IS :=
  if (cFl k c ts vs).any id then cPar1 c ts vs fun l => .parF l (cFl k c ts vs) (cAF k c (cFl k c ts vs) vs) else cPar1 c ts vs fun l => .par l (cA k c vs)
mutual
def cS : Nat → CC → Stmt → IS
  | 0, _, _ => .bad
  | k + 1, c, st => match st with
    | .Return (some e) _ => .ret (cE k c e)
    | .Return none _ => .retN
    | .Pass _ => .pass
    | .Break _ => .brk
    | .Continue _ => .cont
    | .Expr (.Call (.Attribute (.Name x p) m ap) [e] [] cp) _ => (match cOwn c (.Name x p) with
      | some i => if decide (m = "append") && !isStar e && (ap.endLine == cp.line) then .app i (cE k c e) else .bad
      | none => .ex (cE k c (.Call (.Attribute (.Name x p) m ap) [e] [] cp)))
    | .Expr e _ => if isComp e then .bad else .ex (cE k c e)
    | .Assign [.Name x _] e _ => cSet k c x e
    | .Assign [.Attribute (.Name x _) f _] e _ => (match ixOf c.N x with
      | some i => if visB c.sc x && nmOk x && !isComp e then .stf i [f] (.cons (cE k c e) .nil) else .bad
      | none => .bad)
    | .Assign [.Tuple [.Attribute (.Name x _) f1 _, .Attribute (.Name y _) f2 _] _ _] (.Tuple vs _ _) _ => (match ixOf c.N x with
      | some i => if visB c.sc x && nmOk x && decide (y = x) && !vs.any isStar then .stf i [f1, f2] (cA k c vs) else .bad
      | none => .bad)
    | .AugAssign (.Name x _) .Add e _ => (match ixOf c.N x with
      | some i => if locB c.sc x then .inc i (cE k c e) else .bad
      | none => .bad)
    | .Assign [.Tuple ts _ _] (.Tuple vs _ _) _ => cPar k c ts vs
    | .Assign [.Tuple ts _ _] e _ => if isComp e then .bad else (match cNames c (fun _ => true) ts with
      | some l => .unp l (cE k c e)
      | none => .bad)
    | .If t a b _ => .ife (cT k c t) (cSs k c a) (cSs k c b)
    | .For tg iter body [] _ => if isSet iter then .bad else (match cTg c (fun _ => true) tg with
      | some t => .forr (cI k c tg iter) t (cSs k c body)
      | none => .bad)
    | .While t body [] _ => .whl (cT k c t) (cSs k c body)
    | _ => .bad
def cSs : Nat → CC → List Stmt → ISs
  | 0, _, _ => .cons .bad .nil
  | _ + 1, _, [] => .nil
  | k + 1, c, s :: r => pre c (cS k c s) (cSs k c r)
end
structure GdS (c : CC) (T : Tab) (k : Nat) (X : Cx) : Prop extends Gd c T k X where
  hp : PassesOwn (model X.prog X.w) X.A X.env X.xe
  fn : ∀ x, X.fn x = true
  kind : X.env.scope.kind = .function
section
variable {c : CC} {T : Tab} {k lv : Nat} {X : Cx} {W : WD}
theorem s_fresh (g : Gd c T lv X) (tk : Takes X W) {e : Expr} {ie : IE} (h : cFresh k c e = some ie) : PE X e (liftF (cn X) W (wE T ie)) := by
  unfold cFresh at h
  split at h
  · cases h
    exact df_lst ((snd k).a c T lv X W g tk _)
  · cases h
    exact df_cat ((snd k).e c T lv X W g tk _) ((snd k).e c T lv X W g tk _)
  · split at h
    · rename_i hc
      cases h
      simp only [Bool.and_eq_true, decide_eq_true_eq] at hc
      obtain ⟨⟨h1, h2⟩, h3⟩ := hc
      subst h1
      exact df_list (g.gl h2) (g.blt _ (by decide +kernel)) ((snd k).e c T lv X W g tk _) (star1 (by simpa using h3) [] _)
    · cases h
  · cases h
theorem bk_fn {env : Env} (h : env.scope.kind = .function) : env.blockKind = .function := by
  unfold Env.blockKind
  rw [h]
  rfl
theorem cE_lc {elt tg iter : Expr} {ifs : List Expr} {z : Int} {scope : Scope} {pos : Pos} : cE (k + 1) c (.ListComp elt [⟨tg, iter, ifs, z⟩] scope pos) = .bad ∨ ∃ t, cTg ⟨c.N, relS scope c.sc, c.mu, c.ob⟩ (fun x => scope.names.lookup x == some .cell) tg = some t ∧
    (decide (z = 0) && blkC c.N c.sc scope ((tgNames tg).zip t.slots) && decide (((tgNames tg).zip t.slots).map (·.2) = t.slots) && decide t.slots.Nodup && !isSet iter && decide (ifs.length ≤ 1)) = true ∧
    cE (k + 1) c (.ListComp elt [⟨tg, iter, ifs, z⟩] scope pos) = .comp (cI k c tg iter) t (cF k ⟨c.N, relS scope c.sc, c.mu, c.ob⟩ ifs) (cE k ⟨c.N, relS scope c.sc, c.mu, c.ob⟩ elt) := by
  rw [cE]
  split
  · rename_i t ht
    split
    · rename_i hh
      exact .inr ⟨t, ht, hh, rfl⟩
    · exact .inl rfl
  · exact .inl rfl
theorem ds_setbad {st : Stmt} {i : Nat} {fr : Bool} : PS X st (liftS (cn X) W (wS T (if fr then .setF i .bad else .set i .bad))) := ⟨fun pins s a H D I ⟨b, G0, H0, G, n, r, E, h, t, k⟩ => by
  cases fr with
  | true =>
    rw [if_pos rfl, wS, wE] at t
    exact t.elim
  | false =>
    rw [if_neg (by decide), wS, wE] at t
    exact t.elim⟩
theorem s_setLc (g : GdS c T lv X) (tk : Takes X W) {x : Str} {p cpos pos : Pos} {i : Nat} (hloc : Loc X.env.scope x) (hat : X.N[i]? = some x) (fr : Bool) {elt tg iter : Expr} {ifs : List Expr} {z : Int} {scope : Scope} {t : Tg}
    (ht : cTg ⟨c.N, relS scope c.sc, c.mu, c.ob⟩ (fun x => scope.names.lookup x == some .cell) tg = some t)
    (hh : (decide (z = 0) && blkC c.N c.sc scope ((tgNames tg).zip t.slots) && decide (((tgNames tg).zip t.slots).map (·.2) = t.slots) && decide t.slots.Nodup && !isSet iter && decide (ifs.length ≤ 1)) = true) :
    PS X (.Assign [.Name x p] (.ListComp elt [⟨tg, iter, ifs, z⟩] scope cpos) pos) (liftS (cn X) W (wS T (if fr then .setF i (.comp (cI k c tg iter) t (cF k ⟨c.N, relS scope c.sc, c.mu, c.ob⟩ ifs) (cE k ⟨c.N, relS scope c.sc, c.mu, c.ob⟩ elt)) else .set i (.comp (cI k c tg iter) t (cF k ⟨c.N, relS scope c.sc, c.mu, c.ob⟩ ifs) (cE k ⟨c.N, relS scope c.sc, c.mu, c.ob⟩ elt))))) := by
  have hN : X.N.Nodup := by rw [g.N]; exact g.nd
  obtain ⟨rfl, a2, a3, a4, a5, a6, a7, a8, a9⟩ := s_comp (elt := elt) (snd k) c T lv X W g.toGd tk ht hh
  have hsw := swB_eq elt [⟨tg, iter, ifs, 0⟩] scope cpos x p pos.line X.env
  cases q : (X.env.blockKind == .function && X.env.kindOf x == some .local && p.line == cpos.line && !(scope.names.any fun (n, k) => n == x && (k == .local || k == .cell))) with
  | true =>
    rw [q] at hsw
    rw [Bool.and_eq_true, Bool.and_eq_true, Bool.and_eq_true] at q
    have hl : X.env.scope.names.lookup x = some .local := by
      have := q.1.1.2
      rw [kind_lcl] at this
      exact lcl_of this
    exact ds_setLc fr g.calm hN a2 hat hl hsw a3 a4 a5 a6 a7 a8 (s_fold _ a9 _)
  | false =>
    rw [q] at hsw
    have hF := df_comp (W := W) (pos := cpos) g.calm hN a2 a3 a4 a5 a6 a7 a8 (s_fold _ a9 _)
    cases fr with
    | true => exact ds_setF hN hat hloc hF hsw (.inl (g.fn x))
    | false => exact ds_set hN hat hloc (de_of_F hF) hsw (.inl (g.fn x))
theorem s_set (g : GdS c T lv X) (tk : Takes X W) (x : Str) (p : Pos) (e : Expr) (pos : Pos) : PS X (.Assign [.Name x p] e pos) (liftS (cn X) W (wS T (cSet k c x e))) := by
  unfold cSet
  split
  · exact ds_bad
  rename_i hl
  have hloc : Loc X.env.scope x := by
    rw [g.sc]
    exact loc_of (by simpa using hl)
  have hN : X.N.Nodup := by rw [g.N]; exact g.nd
  split
  · exact ds_bad
  rename_i i hi
  have hat := g.toGd.at hi
  split
  · -- a comprehension
    rename_i hlc
    cases e with
    | ListComp elt gens scope cpos =>
      cases k with
      | zero => exact ds_setbad
      | succ k =>
        cases gens with
        | nil => cases hlc
        | cons g1 rest =>
          obtain ⟨tg, iter, ifs, z⟩ := g1
          cases rest with
          | cons g2 g3 => cases hlc
          | nil =>
            rcases cE_lc (k := k) (c := c) (elt := elt) (tg := tg) (iter := iter) (ifs := ifs) (z := z) (scope := scope) (pos := cpos) with e | ⟨t, ht, hh, e⟩
            · rw [e]
              exact ds_setbad
            · rw [e]
              exact s_setLc g tk hloc hat _ ht hh
    | _ => cases hlc
  · split
    · exact ds_bad
    rename_i h1 h2
    have hsw : ∀ t l, swapsWith e t l X.env = pure false := fun t l => nocomp_sw (by simpa using h2) t l _
    split
    · split
      · exact ds_setF hN hat hloc (s_fresh g.toGd tk (by assumption)) (hsw _ _) (.inl (g.fn x))
      · exact ds_set hN hat hloc ((snd k).e c T lv X W g.toGd tk e) (hsw _ _) (.inl (g.fn x))
    · exact ds_set hN hat hloc ((snd k).e c T lv X W g.toGd tk e) (hsw _ _) (.inl (g.fn x))
theorem s_tgN (g : GdS c T lv X) {ts : List Expr} {l : List Nat} (h : cNames c (fun _ => true) ts = some l) (kk : Nat) (p : Pos) : PG X (.Tuple ts kk p) (gOf X.K (.many l)) := s_tg g.toGd (fn := fun _ => true) (fun x _ => g.fn x) (tg := .Tuple ts kk p) (by simp only [cTg, h])
theorem sws_no {tg e : Expr} {l : Nat} {env : Env} (h : isTup tg = true) : swapsWithSole [tg] e l env = pure false := by
  cases tg <;> first | (cases h; done) | (cases e <;> rfl)
theorem sst_no {ts : List Expr} {kk : Nat} {p : Pos} {e : Expr} {env : Env} (h : isTup e = false) : swappedStores [.Tuple ts kk p] e env = pure none := by
  cases e <;> first | rfl | cases h
theorem not_tup {e : Expr} (h : ∀ es k p, e = .Tuple es k p → False) : isTup e = false := by
  cases e <;> first | rfl | exact absurd rfl (h _ _ _)
theorem sst_att {o1 o2 : Expr} {f1 f2 : Str} {p1 p2 pt pe : Pos} {kt ke : Nat} {es : List Expr} {env : Env} (h : es.any isStar = false) : swappedStores [.Tuple [.Attribute o1 f1 p1, .Attribute o2 f2 p2] kt pt] (.Tuple es ke pe) env = pure none := by
  unfold swappedStores
  dsimp only
  simp [List.filterMap]
theorem s_par1 (g : GdS c T lv X) (tk : Takes X W) (ts vs : List Expr) (kt : Nat) (pt : Pos) (k2 : Nat) (p2 pos : Pos) {ta : TA} {mkS : List Nat → IS} (hA : vs.any isStar = false → PA X vs ta) (rd : ∀ l, RdPar ta l (mkS l) X W T) : PS X (.Assign [.Tuple ts kt pt] (.Tuple vs k2 p2) pos) (liftS (cn X) W (wS T (cPar1 c ts vs mkS))) := by
  have hN : X.N.Nodup := by rw [g.N]; exact g.nd
  have bk := bk_fn g.kind
  unfold cPar1
  split
  · exact ds_bad
  rename_i l hl
  split
  · exact ds_bad
  rename_i hst
  rw [Bool.or_eq_true, not_or] at hst
  obtain ⟨h1, h2⟩ := hst
  replace h1 : vs.any isStar = false := by simpa using h1
  have hlen : l.length ≤ sizeLine := by
    rw [sizeLine_eq]
    simp at h2
    omega
  have plain : swappedStores [.Tuple ts kt pt] (.Tuple vs k2 p2) X.env = pure none → PS X (.Assign [.Tuple ts kt pt] (.Tuple vs k2 p2) pos) (liftS (cn X) W (wS T (mkS l))) := fun hw =>
    dsr_parT (rd l) (hA h1) (s_tgN g hl kt pt) (sws_no rfl) hw rfl hlen
  split
  · rename_i x px y py a d
    split
    · exact ds_bad
    rename_i hc
    cases q : sw2 c.sc x px y py with
    | false => exact plain (sw2_no bk h1 (by rw [g.sc]; exact q))
    | true =>
      cases q2 : [a, d].all (foldedForSure 8) with
      | true => exact plain (sw2_fold bk h1 (by rw [g.sc]; exact q) q2)
      | false =>
        rw [q, q2] at hc
        have q3 : [a, d].all (constantsAlone 8) = false := by simpa using hc
        have hw := sw2_some (kt := kt) (pt := pt) (k2 := k2) (p2 := p2) bk h1 (by rw [g.sc]; exact q) q2 q3
        rw [cNames, cNames, cNames] at hl
        have q' := q
        unfold sw2 at q'
        simp only [Bool.and_eq_true, decide_eq_true_eq] at q'
        obtain ⟨⟨⟨l1, l2⟩, l3⟩, l4⟩ := q'
        split at hl
        · split at hl
          · rename_i i l' hi hl'
            cases hl
            split at hl'
            · split at hl'
              · rename_i j l'' hj hl''
                cases hl'
                cases hl''
                refine dsr_par2 (rd _) g.calm hN (g.toGd.at hi) (g.toGd.at hj) (fun e => ?_) (by rw [g.sc]; exact lcl_of l1) (by rw [g.sc]; exact lcl_of l2) (hA h1) hw (sws_no rfl)
                subst e
                exact l4 (Option.some.inj ((ixOf_get hi).symm.trans (ixOf_get hj)))
              · cases hl'
            · cases hl'
          · cases hl
        · cases hl
  · rename_i x px y py z pz a d e
    split
    · exact ds_bad
    rename_i hc
    cases q : sw3 c.sc x px y py z pz with
    | false => exact plain (sw3_no bk h1 (by rw [g.sc]; exact q))
    | true =>
      cases q2 : [a, d, e].all (foldedForSure 8) with
      | true => exact plain (sw3_fold bk h1 (by rw [g.sc]; exact q) q2)
      | false =>
        rw [q, q2] at hc
        have q3 : [a, d, e].all (constantsAlone 8) = false := by simpa using hc
        have hw := sw3_some (kt := kt) (pt := pt) (k2 := k2) (p2 := p2) bk h1 (by rw [g.sc]; exact q) q2 q3
        rw [cNames, cNames, cNames, cNames] at hl
        have q' := q
        unfold sw3 at q'
        simp only [Bool.and_eq_true, decide_eq_true_eq] at q'
        obtain ⟨⟨⟨⟨⟨⟨⟨l1, l2⟩, l3⟩, _⟩, _⟩, n1⟩, n2⟩, n3⟩ := q'
        split at hl
        · split at hl
          · rename_i i l' hi hl'
            cases hl
            split at hl'
            · split at hl'
              · rename_i j l'' hj hl''
                cases hl'
                split at hl''
                · split at hl''
                  · rename_i m l3' hm hl3
                    cases hl''
                    cases hl3
                    refine dsr_par3 (rd _) g.calm hN (g.toGd.at hi) (g.toGd.at hj) (g.toGd.at hm) (fun e => ?_) (fun e => ?_) (fun e => ?_) (by rw [g.sc]; exact lcl_of l1) (by rw [g.sc]; exact lcl_of l2) (by rw [g.sc]; exact lcl_of l3) (hA h1) hw (sws_no rfl)
                    · subst e
                      exact n1 (Option.some.inj ((ixOf_get hi).symm.trans (ixOf_get hj)))
                    · subst e
                      exact n2 (Option.some.inj ((ixOf_get hi).symm.trans (ixOf_get hm)))
                    · subst e
                      exact n3 (Option.some.inj ((ixOf_get hj).symm.trans (ixOf_get hm)))
                  · cases hl''
                · cases hl''
              · cases hl'
            · cases hl'
          · cases hl
        · cases hl
  · split
    · rename_i hc
      rw [Bool.and_eq_true] at hc
      refine plain ?_
      unfold swappedStores
      dsimp only
      have e1 : (ts.length == 2 || ts.length == 3) = false := by simpa using hc.2
      rw [e1]
      rfl
    · exact ds_bad
theorem s_AF (g : GdS c T lv X) (tk : Takes X W) : ∀ (fl : List Bool) (ts vs : List Expr), vs.any isStar = false → cFl k c ts vs = fl → PA X vs (liftAF (cn X) W fl (wA T (cAF k c fl vs)))
  | fl, ts, [], _, e => by
    have e0 : fl = [] := by
      rw [← e]
      cases ts with
      | nil => rfl
      | cons t ts => cases t <;> rfl
    subst e0
    exact daf_nil
  | [], ts, v :: vs, _, e => by
    exfalso
    cases ts with
    | nil => cases e
    | cons t ts => cases t <;> cases e
  | f :: fl, ts, v :: vs, h, e => by
    rw [List.any_cons, Bool.or_eq_false_iff] at h
    have key : ∃ ts', cFl k c ts' vs = fl ∧ (f = true → (cFresh k c v).isSome = true) := by
      cases ts with
      | nil =>
        have e : false :: cFl k c [] vs = f :: fl := e
        cases e
        exact ⟨[], rfl, fun z => by cases z⟩
      | cons t ts =>
        cases t with
        | Name x p =>
          have e : (decide (x ∈ c.mu) && (cFresh k c v).isSome) :: cFl k c ts vs = f :: fl := e
          injection e with e1 e2
          refine ⟨ts, e2, fun z => ?_⟩
          rw [z, Bool.and_eq_true] at e1
          exact e1.2
        | _ =>
          have e : false :: cFl k c ts vs = f :: fl := e
          injection e with e1 e2
          exact ⟨ts, e2, fun z => by rw [z] at e1; cases e1⟩
    obtain ⟨ts', e2, hf⟩ := key
    have ih := s_AF g tk fl ts' vs h.2 e2
    cases f with
    | false => exact daf_consS ((snd k).e c T lv X W g.toGd tk v) ih (star1 h.1 _ _)
    | true =>
      obtain ⟨ie, hie⟩ := Option.isSome_iff_exists.mp (hf rfl)
      have q := daf_consF (s_fresh g.toGd tk hie) ih (star1 h.1 _ _)
      rw [cAF, hie]
      exact q
theorem s_par (g : GdS c T lv X) (tk : Takes X W) (ts vs : List Expr) (kt : Nat) (pt : Pos) (k2 : Nat) (p2 pos : Pos) : PS X (.Assign [.Tuple ts kt pt] (.Tuple vs k2 p2) pos) (liftS (cn X) W (wS T (cPar k c ts vs))) := by
  unfold cPar
  split
  · exact s_par1 g tk ts vs kt pt k2 p2 pos (fun h => s_AF g tk _ ts vs h rfl) fun l => rd_parF
  · exact s_par1 g tk ts vs kt pt k2 p2 pos (fun _ => (snd k).a c T lv X W g.toGd tk vs) fun l => rd_par
structure SndS (k : Nat) : Prop where
  s : ∀ (c : CC) (T : Tab) (lv : Nat) (X : Cx) (W : WD), GdS c T lv X → Takes X W → ∀ st, PS X st (liftS (cn X) W (wS T (cS k c st)))
  b : ∀ (c : CC) (T : Tab) (lv : Nat) (X : Cx) (W : WD), GdS c T lv X → Takes X W → ∀ sts, PSs X sts (liftS (cn X) W (wB T (cSs k c sts)))
theorem sndS : ∀ k, SndS k
  | 0 => ⟨fun c T lv X W g tk st => by rw [cS]; exact ds_bad, fun c T lv X W g tk sts => ⟨fun pins s a H D I ⟨b, G0, H0, G, n, r, E, h, t, k⟩ => by
      rw [cSs, wB, wS] at t
      exact t.elim⟩⟩
  | k + 1 => by
    have ih := sndS k
    refine ⟨fun c T lv X W g tk st => ?_, fun c T lv X W g tk sts => ?_⟩
    · have hE := (snd k).e c T lv X W g.toGd tk
      rw [cS.eq_def]
      dsimp only
      split
      · exact ds_ret (hE _)
      · exact ds_retN
      · exact ds_pass
      · exact ds_brk
      · exact ds_cont
      · split
        · rename_i i hi
          split
          · rename_i hc
            simp only [Bool.and_eq_true, decide_eq_true_eq] at hc
            obtain ⟨⟨h1, h2⟩, h3⟩ := hc
            subst h1
            obtain ⟨y, q, e, o1, o2, o3, o4⟩ := own_of g.toGd hi
            cases e
            exact ds_app o1 o2 o3 o4 (hE _) rfl (star1 (by simpa using h2) [] _) h3
          · exact ds_bad
        · exact ds_ex (hE _) rfl
      · split
        · exact ds_bad
        · rename_i hc
          exact ds_ex (hE _) (nocomp_sw (by simpa using hc) _ _ _)
      · exact s_set g tk _ _ _ _
      · split
        · rename_i i hi
          split
          · rename_i hc
            simp only [Bool.and_eq_true] at hc
            obtain ⟨⟨h1, h2⟩, h3⟩ := hc
            obtain ⟨n1, n2, n3⟩ := nm_of h2
            exact ds_stf1 g.fl (g.toGd.at hi) (g.toGd.vis h1) n1 n2 (hE _) (nocomp_sw (by simpa using h3) _ _ _)
          · exact ds_bad
        · exact ds_bad
      · split
        · rename_i i hi
          split
          · rename_i hc
            simp only [Bool.and_eq_true, decide_eq_true_eq] at hc
            obtain ⟨⟨⟨h1, h2⟩, h3⟩, h4⟩ := hc
            obtain ⟨n1, n2, n3⟩ := nm_of h2
            subst h3
            exact ds_stf2 g.calm g.fl (g.toGd.at hi) (g.toGd.vis h1) n1 n2 ((snd k).a c T lv X W g.toGd tk _) (sws_no rfl) (sst_att (by simpa using h4))
          · exact ds_bad
        · exact ds_bad
      · split
        · rename_i i hi
          split
          · rename_i hc
            exact ds_inc (by rw [g.N]; exact g.nd) (g.toGd.at hi) (by rw [g.sc]; exact loc_of hc) (hE _) (.inl (g.fn _))
          · exact ds_bad
        · exact ds_bad
      · exact s_par g tk _ _ _ _ _ _ _
      · rename_i hne
        split
        · exact ds_bad
        · rename_i hc
          split
          · rename_i l hl
            refine ds_unp (hE _) (s_tgN g hl _ _) (sws_no rfl) (sst_no (not_tup hne)) rfl
          · exact ds_bad
      · exact ds_ife ((snd k).t c T lv X W g.toGd tk _) (ih.b c T lv X W g tk _) (ih.b c T lv X W g tk _)
      · split
        · exact ds_bad
        · rename_i hc
          split
          · rename_i t ht
            exact ds_for g.hp g.calm ((snd k).i c T lv X W g.toGd tk _ _) (s_tg g.toGd (fn := fun _ => true) (fun x _ => g.fn x) ht) (ih.b c T lv X W g tk _) (s_fold _ (by simpa using hc) _)
          · exact ds_bad
      · exact ds_whl g.hp ((snd k).t c T lv X W g.toGd tk _) (ih.b c T lv X W g tk _)
      · exact ds_bad
    · cases sts with
      | nil => exact dss_nil
      | cons s r =>
        rw [cSs]
        unfold pre
        split
        · exact dss_cons (ih.s c T lv X W g tk s) (ih.b c T lv X W g tk r)
        · exact dss_frz (dss_cons (ih.s c T lv X W g tk s) (ih.b c T lv X W g tk r))
end
end Dl

set_option Elab.async false
set_option linter.all false
set_option maxRecDepth 100000
set_option maxHeartbeats 4000000
/-! Defs. -/
namespace Dl
open PySem PySem.Spec PyProof.Rows L2
def ent0 (N : List Str) (ds : List D) : List Ent := ds.map .sh ++ List.replicate (N.length - ds.length) .no
/-- what is known of a def -/
structure FnQ (P : Program) (w : World) (K : PySem.W.Frag) (mg : Str → Option Value) (base : Heap) (k : Nat) (f : Str) (fs : FS) : Prop where
  ex : ∃ (a : Addr) (fd : FuncData) (ps : List Str), mg f = some (.ref a) ∧ PySem.W.keepIn K (.ref a) = true ∧ Binds K fd ps [] ∧ FnOk P w K mg base (L2.CX P w) k a fd ps (spOf ⟨K, mg⟩ fs)
theorem FnQ.mono {P : Program} {w : World} {K : PySem.W.Frag} {mg : Str → Option Value} {base : Heap} {j k : Nat} {f : Str} {fs : FS} (h : FnQ P w K mg base j f fs) (l : j ≤ k) : FnQ P w K mg base k f fs := by
  obtain ⟨a, fd, ps, h1, h2, h3, h4⟩ := h.ex
  exact ⟨a, fd, ps, h1, h2, h3, h4.mono l⟩
theorem FnQ.imp {P : Program} {w : World} {K : PySem.W.Frag} {mg : Str → Option Value} {base : Heap} {k : Nat} {f : Str} {fs fs' : FS} (h : FnQ P w K mg base k f fs) (l : ∀ ds n Q E, fs' ds n Q E → fs ds n Q E) : FnQ P w K mg base k f fs' := by
  obtain ⟨a, fd, ps, h1, h2, h3, h4⟩ := h.ex
  refine ⟨a, fd, ps, h1, h2, h3, h4.imp fun vs H Q E q => ?_⟩
  obtain ⟨b, G, n, ds, Qd, Ex, o, r, f, x, k⟩ := q
  exact ⟨b, G, n, ds, Qd, Ex, o, r, l _ _ _ _ f, x, k⟩
/-- what is known of a static method -/
structure SmQ (P : Program) (w : World) (K : PySem.W.Frag) (mg : Str → Option Value) (base : Heap) (k : Nat) (C m : Str) (ps : List Str) (fs : FS) : Prop where
  ex : ∃ (Ca f : Addr) (fd : FuncData), mg C = some (.ref Ca) ∧ Stat K Ca m f ∧ Binds K fd ps [] ∧ KBn K fd ps 0 ps (fun _ ws => ws) (fun _ zs => zs) ∧ FnOk P w K mg base (L2.CX P w) k f fd ps (spOf ⟨K, mg⟩ fs)
theorem SmQ.mono {P : Program} {w : World} {K : PySem.W.Frag} {mg : Str → Option Value} {base : Heap} {j k : Nat} {C m : Str} {ps : List Str} {fs : FS} (h : SmQ P w K mg base j C m ps fs) (l : j ≤ k) : SmQ P w K mg base k C m ps fs := by
  obtain ⟨Ca, f, fd, h1, h2, h3, h4, h5⟩ := h.ex
  exact ⟨Ca, f, fd, h1, h2, h3, h4, h5.mono l⟩
/-- what is known of a method -/
structure MeQ (P : Program) (w : World) (K : PySem.W.Frag) (mg : Str → Option Value) (base : Heap) (k : Nat) (c m : Str) (fs : FS) : Prop where
  ex : ∃ (C f : Addr) (fd : FuncData) (ps : List Str) (j : Nat), PySem.W.nsIn K mainGlobals c = some (some (.ref C)) ∧ PySem.W.findIn K (.ref C) m = some (some (.ref f)) ∧ PySem.W.fnIn K f = true ∧ PySem.W.isFn K (.ref f) = true ∧ Binds K fd ps [] ∧ j + 1 ≤ k ∧
    FnOk P w K mg base (L2.CX P w) j f fd ps (spOf ⟨K, mg⟩ fs)
theorem MeQ.mono {P : Program} {w : World} {K : PySem.W.Frag} {mg : Str → Option Value} {base : Heap} {j k : Nat} {c m : Str} {fs : FS} (h : MeQ P w K mg base j c m fs) (l : j ≤ k) : MeQ P w K mg base k c m fs := by
  obtain ⟨C, f, fd, ps, i, h1, h2, h3, h4, h5, h6, h7⟩ := h.ex
  exact ⟨C, f, fd, ps, i, h1, h2, h3, h4, h5, Nat.le_trans h6 l, h7⟩
/-- what is known of a class that is called -/
structure ClQ (P : Program) (w : World) (K : PySem.W.Frag) (mg : Str → Option Value) (base : Heap) (k : Nat) (c : Str) (fs : FS) : Prop where
  ex : ∃ (C f : Addr) (fd : FuncData) (ps : List Str) (j : Nat), mg c = some (.ref C) ∧ Mk K C f ∧ Binds K fd ps [] ∧ j + 1 ≤ k ∧ FnOk P w K mg base (L2.CX P w) j f fd ps (spMk ⟨K, mg⟩ C fs)
theorem ClQ.mono {P : Program} {w : World} {K : PySem.W.Frag} {mg : Str → Option Value} {base : Heap} {j k : Nat} {c : Str} {fs : FS} (h : ClQ P w K mg base j c fs) (l : j ≤ k) : ClQ P w K mg base k c fs := by
  obtain ⟨C, f, fd, ps, i, h1, h2, h3, h4, h5⟩ := h.ex
  exact ⟨C, f, fd, ps, i, h1, h2, h3, Nat.le_trans h4 l, h5⟩
/-- what is known of a def called by keywords -/
structure KwQ (P : Program) (w : World) (K : PySem.W.Frag) (mg : Str → Option Value) (base : Heap) (k : Nat) (f : Str) (ks : List Str) (fs : FS) : Prop where
  ex : ∃ (a : Addr) (fd : FuncData) (ps : List Str) (g : List Value → List Value → List Value) (gV : List V → List V → List V) (sp : Sp), mg f = some (.ref a) ∧ PySem.W.keepIn K (.ref a) = true ∧ KBn K fd ps 0 ks g gV ∧ FnOk P w K mg base (L2.CX P w) k a fd ps sp ∧
    ∀ zs H Q E, spOf ⟨K, mg⟩ fs zs H Q E → zs.length = ks.length ∧ sp (gV [] zs) H Q E
theorem KwQ.mono {P : Program} {w : World} {K : PySem.W.Frag} {mg : Str → Option Value} {base : Heap} {j k : Nat} {f : Str} {ks : List Str} {fs : FS} (h : KwQ P w K mg base j f ks fs) (l : j ≤ k) : KwQ P w K mg base k f ks fs := by
  obtain ⟨a, fd, ps, g, gV, sp, h1, h2, h3, h4, h5⟩ := h.ex
  exact ⟨a, fd, ps, g, gV, sp, h1, h2, h3, h4.mono l, h5⟩
/-- what is known of all that a text may call -/
structure TabQ (P : Program) (w : World) (K : PySem.W.Frag) (mg : Str → Option Value) (base : Heap) (k : Nat) (T : Tab) : Prop where
  fs : ∀ g gs, T.fs g = some gs → FnQ P w K mg base k g gs
  sm : ∀ C m ps gs, T.sm C m = some (ps, gs) → SmQ P w K mg base k C m ps gs
  fl : ∀ c f, T.fl c f = true → FlD K c f
  me : ∀ c m fs, T.me c m = some fs → MeQ P w K mg base k c m fs
  cl : ∀ c fs, T.cl c = some fs → ClQ P w K mg base k c fs
  kw : ∀ f ks fs, T.kw f ks = some fs → KwQ P w K mg base k f ks fs
/-- what is known of the module -/
structure Md (w : World) (K : PySem.W.Frag) (mg : Str → Option Value) (T : Tab) : Prop where
  blt : ∀ x ∈ bltNames, mg x = none
  gv : ∀ x d, T.gv x = some d → ∃ v u, mg x = some u ∧ RelV v u ∧ ∀ b G, Rp K b G v d
  gd : ∀ x kv, T.gd x = some kv → ∃ (d : Addr) (es : Array DictEntry) (n : Nat), mg x = some (.ref d) ∧ KDict K w d es n ∧ ∀ k, (∃ u v, PySem.W.nsIn K d k = some (some u) ∧ L2.RelV v u ∧ ∃ e, kv.lookup k = some e ∧ ∀ b G, Rp K b G v e) ∨ (PySem.W.nsIn K d k = some none ∧ kv.lookup k = none)
section
variable {P : Program} {w : World} {K : PySem.W.Frag} {mg : Str → Option Value} {base : Heap}
theorem ent_start {b : Option Addr} {H0 G H : Hp} : ∀ {vs : List V} {ds : List D} (m : Nat), Rps K b G vs ds → ∀ (i : Nat) (e : Ent), (ds.map Ent.sh ++ List.replicate m Ent.no)[i]? = some e → EntOk K b H0 G H e (vs.map some ++ List.replicate m none)[i]?
  | [], ds, m, h, i, e, q => by
    cases h
    simp only [List.map_nil, List.nil_append] at q ⊢
    have : e = .no := by
      have := List.mem_of_getElem? q
      exact List.eq_of_mem_replicate this
    subst this
    trivial
  | v :: vs, ds, m, h, i, e, q => by
    cases h with
    | cons h g =>
      cases i with
      | zero =>
        simp at q
        subst q
        exact ⟨v, rfl, h⟩
      | succ i =>
        simp only [List.map_cons, List.cons_append, List.getElem?_cons_succ] at q ⊢
        exact ent_start m g i e q
theorem no_ow {ds : List D} {m i : Nat} {d : D} (h : (ds.map Ent.sh ++ List.replicate m Ent.no)[i]? = some (.ow d)) : False := by
  have := List.mem_of_getElem? h
  rcases List.mem_append.mp this with z | z
  · obtain ⟨x, _, e⟩ := List.mem_map.mp z
    cases e
  · have := List.eq_of_mem_replicate z
    cases this
theorem rho_start {b : Option Addr} {G H : Hp} {n : Nat} {vs : List V} {ds : List D} {N : List Str} (ok : Ok b G H n) (g : Rps K b G vs ds) (hl : vs.length ≤ N.length) : Rho K b G H G H n (start N vs) (ent0 N ds) := by
  unfold L2.start ent0
  rw [g.length]
  refine ⟨ok, Stp.refl ok, ?_, ent_start _ g, fun i j p d e q => (no_ow q).elim⟩
  simp [g.length]
theorem gds_of {N : List Str} {ps : List Str} {st : Stmt} {mu ob : List Str} {T : Tab} {k : Nat} {qual : Str} {f : Addr} {cdv : Value} {A : Around} {outer : List Env} {s : Shared} {H : Hp} {E : XK} (S : FnScope N ps (defScope st)) (M : Md w K mg T) (Q : TabQ P w K mg base k T) (hr : Room k (A.deeper (envOfC qual (defScope st) s.heap.objs.size f cdv))) :
    GdS ⟨N, defScope st, mu, ob⟩ T k (cxOf (L2.CX P w) P w K mg base N qual (defScope st) f cdv A outer s H E) :=
  ⟨⟨rfl, S.nd, rfl, rfl, hr, M.blt, M.gv, fun x kv h => ⟨M.gd x kv h⟩, fun g gs h => ⟨(Q.fs g gs h).ex⟩, fun C m ps gs h => ⟨(Q.sm C m ps gs h).ex⟩, Q.fl, fun c m fs h => ⟨(Q.me c m fs h).ex⟩, fun c fs h => ⟨(Q.cl c fs h).ex⟩, fun f ks fs h => ⟨(Q.kw f ks fs h).ex⟩⟩, passes_of rfl, fun _ => rfl, S.kind⟩
/-- a def keeps what its text over data keeps -/
theorem fn_ok {x qual : Str} {st : Stmt} {f : Addr} {fd : FuncData} {N ps : List Str} {k : Nat} {fs : FS} (F : Fun K x qual st f fd) (S : FnScope N ps (defScope st)) (T : Tab) (fuel : Nat) (mu ob : List Str) (ir : ISs) (hir : cSs fuel ⟨N, defScope st, mu, ob⟩ (defBody st) = ir)
    (M : Md w K mg T) (TQ : TabQ P w K mg base k T) (hp : ps.length ≤ N.length)
    (hlen : ∀ ds n Q E, fs ds n Q E → ds.length = ps.length)
    (hbody : ∀ ds n Q E, fs ds n Q E → wB T ir (ent0 N ds) n ⟨fun _ n => Q .non n, Q, fun _ _ => False, fun _ _ => False, fun x _ n => E x n⟩) :
    FnOk P w K mg base (L2.CX P w) (k + 1) f fd ps (spOf ⟨K, mg⟩ fs) := by
  refine F.okX S (fun vs H Q E h => ?_) fun cdv A outer s H vs Q E hr h => ?_
  · obtain ⟨b, G, n, ds, Qd, Ex, ok, g, q, _⟩ := h
    rw [g.length, hlen ds n Qd Ex q]
  · obtain ⟨b, G, n, ds, Qd, Ex, ok, g, q, hx, hk⟩ := h
    have tk : Takes (cxOf (L2.CX P w) P w K mg base N qual (defScope st) f cdv A outer s H E) (fun cls d _ H => E cls d H) := takes_of rfl rfl rfl rfl
    refine ⟨_, (sndS fuel).b _ T k _ _ (gds_of (mu := mu) (ob := ob) S M TQ hr) tk (defBody st), ?_⟩
    rw [hir]
    have hl : vs.length ≤ N.length := by rw [g.length, hlen ds n Qd Ex q]; exact hp
    refine ⟨b, G, H, G, n, ent0 N ds, _, rho_start ok g hl, hbody ds n Qd Ex q, ⟨fun s' G' H' n' r' h' q' => hk .non G' H' n' .non h'.st .non q', fun v G' H' n' d st r q' => hk v G' H' n' d st r q', fun _ _ _ _ _ _ z => z.elim, fun _ _ _ _ _ _ z => z.elim, fun cls d s' G' H' n' r' x h' rx ex => hx cls d G' H' n' x h'.st rx ex⟩⟩
/-! ### a class that is made: its __init__ ends by storing two of its names -/
/-- some statements over data, then others -/
theorem pre_ok {X : Cx} {W : WD} {c : CC} {T : Tab} {lv : Nat} (g : GdS c T lv X) (tk : Takes X W) {post : List Stmt} {u : TS} (hp : PSs X post u) : ∀ (fuel : Nat) (sts : List Stmt), sts.length < fuel → PSs X (sts ++ post) (fun D s H => liftS (cn X) W (wB T (cSs fuel c sts)) { D with nx := u D } s H)
  | 0, sts, h => absurd h (by omega)
  | fuel + 1, [], _ => pss_imp hp fun D s H ⟨b, G0, H0, G, n, r, E, h, t, k⟩ => by
    rw [cSs, wB] at t
    exact k.nx s G H n r h t
  | fuel + 1, st :: r, hl => by
    have ih := pre_ok g tk hp fuel r (by rw [List.length_cons] at hl; omega)
    have step : PSs X (st :: (r ++ post)) (fun D s H => liftS (cn X) W (wB T (.cons (cS fuel c st) (cSs fuel c r))) { D with nx := u D } s H) :=
      pss_imp (pss_cons ((sndS fuel).s c T lv X W g tk st) ih) fun D s H ⟨b, G0, H0, G, n, r, E, h, t, k⟩ => by
        rw [wB] at t
        exact ⟨b, G0, H0, G, n, r, _, h, t, ⟨fun s G H n r h' q => ⟨b, G0, H0, G, n, r, E, h', q, ⟨k.nx, k.rt, k.bk, k.ct, k.ex⟩⟩, k.rt, k.bk, k.ct, k.ex⟩⟩
    show PSs X (st :: (r ++ post)) _
    rw [cSs]
    unfold pre
    split
    · exact step
    · exact pss_imp step fun D s H ⟨b, G0, H0, G, n, r, E, h, t, k⟩ => by
        rw [wB, wS] at t
        obtain ⟨G', h'⟩ := h.freeze
        exact ⟨b, G0, H0, G', n, _, E, h', t, k⟩
theorem stp_made {b : Option Addr} {G H1 G' H' Hf : Hp} {n n' : Nat} {x dx p : Addr} {C : Addr} {o : HO} {fs : List (Str × V)} (ok : Ok b G H1 n) (nx : H1 x = none) (ndx : H1 dx = none) (st : Stp b G (upd (upd H1 dx (.own x)) x (.ins C dx [])) G' H' n') (np : H' p = none)
    (hf : ∀ a, Hf a = if a = x then some (.ins C dx fs) else if a = p then some o else H' a) : G' x = none ∧ Stp b G H1 (upd G' x (.ins C dx fs)) Hf n' := by
  have hxn : ∀ a u, H1 a = some u → a ≠ x ∧ a ≠ dx ∧ (upd (upd H1 dx (.own x)) x (.ins C dx [])) a = some u := fun a u e => by
    have n1 : a ≠ x := ne_of_none e nx
    have n2 : a ≠ dx := ne_of_none e ndx
    exact ⟨n1, n2, by rw [upd_ne n1, upd_ne n2]; exact e⟩
  have bne : ∀ q, b = some q → q ≠ x ∧ q ≠ dx := fun q e => by
    obtain ⟨y1, y2, y3, e1, _⟩ := (ok.box q e).2
    exact ⟨(hxn _ _ e1).1, (hxn _ _ e1).2.1⟩
  have gx : G' x = none := by
    cases q : G' x with
    | none => rfl
    | some u =>
      rcases st.nw x u q with z | z
      · exact absurd (ok.sub _ _ z) (by rw [nx]; intro w; cases w)
      · rw [upd_same] at z
        cases z
  refine ⟨gx, st.gg.trans (same_upd gx), fun a u e => ?_, fun a u nb e => ?_, fun a u e => ?_, fun q e => ?_⟩
  · by_cases z : a = x
    · subst z
      rw [upd_same] at e
      rw [hf, if_pos rfl]
      exact e
    · rw [upd_ne z] at e
      have e2 := st.gh a u e
      rw [hf, if_neg z, if_neg (ne_of_none e2 np)]
      exact e2
  · obtain ⟨n1, n2, e1⟩ := hxn a u e
    have e2 := st.kp a u nb e1
    rw [hf, if_neg n1, if_neg (ne_of_none e2 np)]
    exact e2
  · by_cases z : a = x
    · subst z
      exact .inr nx
    · rw [upd_ne z] at e
      rcases st.nw a u e with y | y
      · exact .inl y
      · right
        cases q : H1 a with
        | none => rfl
        | some u' =>
          rw [(hxn a u' q).2.2] at y
          cases y
  · obtain ⟨y1, y2, y3, e1, e2⟩ := st.bx q e
    refine ⟨y1, y2, y3, ?_, e2⟩
    rw [hf, if_neg (bne q e).1, if_neg (ne_of_none e1 np)]
    exact e1
theorem mk_ok {x qual : Str} {st : Stmt} {f C : Addr} {fd : FuncData} {N ps : List Str} {k : Nat} {fs : FS} {c f1 f2 slf x1 x2 : Str} {i1 i2 : Nat} {sts : List Stmt} {p1 p2 p3 p4 p5 p6 pt pe pos : Pos} {kt ke : Nat} (F : Fun K x qual st f fd) (S : FnScope N ps (defScope st)) (T : Tab) (fuel : Nat) (mu ob : List Str) (ir : ISs)
    (hb : defBody st = sts ++ [.Assign [.Tuple [.Attribute (.Name slf p1) f1 p2, .Attribute (.Name slf p3) f2 p4] kt pt] (.Tuple [.Name x1 p5, .Name x2 p6] ke pe) pos]) (hir : cSs fuel ⟨N, defScope st, mu, ob⟩ sts = ir) (hfu : sts.length < fuel)
    (M : Md w K mg T) (TQ : TabQ P w K mg base k T) (hp : ps.length ≤ N.length) (hC : PySem.W.nsIn K mainGlobals c = some (some (.ref C))) (h1 : FlD K c f1) (h2 : FlD K c f2) (h12 : f1 ≠ f2)
    (hs : N[0]? = some slf) (hx1 : N[i1]? = some x1) (hx2 : N[i2]? = some x2) (vs : visB (defScope st) slf = true) (v1 : visB (defScope st) x1 = true) (v2 : visB (defScope st) x2 = true) (ns : nmOk slf = true) (n1 : nmOk x1 = true) (n2 : nmOk x2 = true)
    (hlen : ∀ ds n Q E, fs ds n Q E → ds.length + 1 = ps.length)
    (hbody : ∀ ds n Q o, fs ds n Q noX → wB T ir (ent0 N (.pin o :: ds)) n ⟨fun r n => ∃ d1 d2, r[0]? = some (.sh (.pin o)) ∧ r[i1]? = some (.sh d1) ∧ r[i2]? = some (.sh d2) ∧ Q (.obj c [(f1, d1), (f2, d2)]) n, fun _ _ => False, fun _ _ => False, fun _ _ => False, fun x _ n => False⟩) :
    FnOk P w K mg base (L2.CX P w) (k + 1) f fd ps (spMk ⟨K, mg⟩ C fs) := by
  refine F.okX S (fun vs H Q E h => ?_) fun cdv A outer s H vs Q E hr h => ?_
  · obtain ⟨o, dx, us, H1, b, G, n, ds, Qd, rfl, _, _, _, _, _, g, q, _⟩ := h
    rw [List.length_cons, g.length]
    exact hlen ds n Qd _ q
  · obtain ⟨o, dx, us, H1, b, G, n, ds, Qd, rfl, nx, ndx, ne, rfl, ok, g, q, hk⟩ := h
    have tk : Takes (cxOf (L2.CX P w) P w K mg base N qual (defScope st) f cdv A outer s (upd (upd H1 dx (.own o)) o (.ins C dx [])) E) (fun cls d _ H => E cls d H) := takes_of rfl rfl rfl rfl
    have GD := gds_of (mu := mu) (ob := ob) (s := s) (H := upd (upd H1 dx (.own o)) o (.ins C dx [])) (E := E) (outer := outer) S M TQ hr
    obtain ⟨ms1, ms2, _⟩ := nm_of ns
    obtain ⟨m11, m12, _⟩ := nm_of n1
    obtain ⟨m21, m22, _⟩ := nm_of n2
    rw [hb]
    refine ⟨_, pre_ok GD tk (pss_one (ps_asg (pe_tup (pa_cons (pe_var hx1 (GD.toGd.vis v1) m11 m12) (pa_cons (pe_var hx2 (GD.toGd.vis v2) m21 m22) pa_nil)))
      (pg_tup rfl (pgs_cons (pg_att (pe_var hs (GD.toGd.vis vs) ms1 ms2)) (pgs_cons (pg_att (pe_var hs (GD.toGd.vis vs) ms1 ms2)) pgs_nil))) (sws_no rfl) (sst_att rfl))) fuel sts hfu, ?_⟩
    rw [hir]
    have nx2 : (upd H1 dx (.own o)) o = none := by rw [upd_ne (Ne.symm ne)]; exact nx
    have ok2 : Ok b G (upd (upd H1 dx (.own o)) o (.ins C dx [])) n := (ok.step (Stp.own ok ndx)).step (Stp.own (ok.step (Stp.own ok ndx)) nx2)
    have hl : (V.ref o :: us).length ≤ N.length := by rw [List.length_cons, g.length, hlen ds n Qd _ q]; exact hp
    refine ⟨b, G, _, G, n, ent0 N (.pin o :: ds), _, rho_start ok2 (.cons (.pin o) g) hl, hbody ds n Qd o q, ⟨fun s' G' H' n' r' h' q' => ?_, fun v G' H' n' d st r q' => q'.elim, fun _ _ _ _ _ _ z => z.elim, fun _ _ _ _ _ _ z => z.elim, fun cls d s' G' H' n' r' x h' rx ex => ex.elim⟩⟩
    obtain ⟨d1, d2, e0, e1, e2, qd⟩ := q'
    obtain ⟨w0, s0, r0⟩ := h'.ent 0 _ e0
    obtain ⟨w1, s1, r1⟩ := h'.ent i1 _ e1
    obtain ⟨w2, s2, r2⟩ := h'.ent i2 _ e2
    have ew : w0 = .ref o := by cases r0; rfl
    subst ew
    have ob : some o ≠ b := fun e => by
      obtain ⟨y1, y2, y3, e1, _⟩ := (ok.box o e.symm).2
      rw [nx] at e1
      cases e1
    have ho : H' o = some (.ins C dx []) := h'.st.kp o _ ob upd_same
    obtain ⟨C1, c1, cl, na1⟩ := h1.ex
    obtain ⟨C2, c2, _, na2⟩ := h2.ex
    cases ns_inj hC c1
    cases ns_inj hC c2
    refine ⟨w1, s1, w2, s2, (by show 2 ≤ sizeLine; rw [sizeLine_eq]; decide), fun p np => ?_⟩
    have op : o ≠ p := ne_of_none ho np
    refine ⟨p, [w1, w2], rfl, SqT.of upd_same, rfl, w1, [w2], rfl, _, s0, o, C, dx, [], rfl, by rw [upd_ne op]; exact ho, cl, na1, by decide, w2, [], rfl, _, s0, o, C, dx, [(f1, w1)], rfl, upd_same, cl, na2, Nat.lt_of_sub_pos (by show 0 < 999; decide), rfl, ?_⟩
    have ep : putF f2 w2 [(f1, w1)] = [(f1, w1), (f2, w2)] := by
      rw [putF, if_neg h12]
      rfl
    rw [ep]
    obtain ⟨gx, stf⟩ := stp_made (Hf := upd (upd (upd H' p (.tup [w1, w2])) o (.ins C dx [(f1, w1)])) o (.ins C dx [(f1, w1), (f2, w2)])) (o := .tup [w1, w2]) (fs := [(f1, w1), (f2, w2)]) ok nx ndx h'.st np fun a => by
      by_cases z : a = o
      · subst z
        rw [upd_same, if_pos rfl]
      · rw [upd_ne z, upd_ne z, if_neg z]
        by_cases y : a = p
        · subst y
          rw [upd_same, if_pos rfl]
        · rw [upd_ne y, if_neg y]
    exact hk _ _ n' _ stf (.obj hC upd_same (.cons (r1.mono (same_upd gx)) (.cons (r2.mono (same_upd gx)) .nil))) qd
end
end Dl

set_option Elab.async false
set_option linter.all false
set_option maxRecDepth 100000
set_option maxHeartbeats 4000000
/-! Plain facts for the laws over data. -/
namespace Dl
open PySem PySem.Spec PyProof.Rows L2
def eQ (Q : D → Nat → Prop) (E : QX) : EndD := ⟨fun _ n => Q .non n, Q, fun _ _ => False, fun _ _ => False, fun x _ n => E x n⟩
theorem exAt_eq (nx : List Ent → Nat → Prop) (rt : D → Nat → Prop) (bk ct : List Ent → Nat → Prop) (ex : Exn → List Ent → Nat → Prop) (r : List Ent) : EndD.exAt ⟨nx, rt, bk, ct, ex⟩ r = fun x n => ex x r n := rfl
theorem bi_len_tup (xs : List D) : biD .len [.tup xs] = some (.int xs.length) := rfl
theorem bi_len_list (xs : List D) : biD .len [.list xs] = some (.int xs.length) := rfl
theorem bi_len_str (z : Str) : biD .len [.str z] = some (.int z.length) := rfl
theorem bi_tuple_list (xs : List D) : biD .tuple [.list xs] = some (.tup xs) := rfl
theorem bi_tuple_tup (xs : List D) : biD .tuple [.tup xs] = some (.tup xs) := rfl
theorem bi_list_list (xs : List D) : biD .list [.list xs] = some (.list xs) := rfl
theorem bi_list_tup (xs : List D) : biD .list [.tup xs] = some (.list xs) := rfl
theorem bi_int_int (i : Int) : biD .int [.int i] = some (.int i) := rfl
theorem compL_map {F : D → Nat → (Option D → Nat → Prop) → Prop} {g : D → D} : ∀ {ds : List D} {acc : List D} {n : Nat} {Q : List D → Nat → Prop}, (∀ d ∈ ds, ∀ n k, k (some (g d)) n → F d n k) → Q (acc ++ ds.map g) n → compL F ds acc n Q
  | [], acc, n, Q, _, q => by
    rw [List.map_nil, List.append_nil] at q
    exact q
  | d :: ds, acc, n, Q, h, q => by
    refine h d (List.mem_cons_self ..) n _ (compL_map (fun d hd => h d (List.mem_cons_of_mem _ hd)) ?_)
    rw [List.map_cons] at q
    simpa using q
theorem bools_map (f : D → Bool) : ∀ ds : List D, bools (ds.map fun d => .bl (f d)) = some (ds.map f)
  | [] => rfl
  | d :: ds => by
    rw [List.map_cons, bools, bools_map f ds]
    rfl
theorem all_comp {F : D → Nat → (Option D → Nat → Prop) → Prop} {f : D → Bool} {ds : List D} {n : Nat} {Q : D → Nat → Prop} (h : ∀ d ∈ ds, ∀ n k, k (some (.bl (f d))) n → F d n k) (q : Q (.bl (ds.all f)) n) : compL F ds [] n (fun xs n2 => ofO (biD .all [.list xs]) fun z => Q z n2) := by
  refine compL_map (g := fun d => .bl (f d)) h ?_
  rw [List.nil_append, biD, bools_map, Option.map_some, ofO_some]
  have e : (ds.map f).all id = ds.all f := by rw [List.all_map]; rfl
  rw [e]
  exact q
/-! ### how deep; no box in it -/
mutual
def D.dp : Nat → D → Bool
  | _, .non => true
  | _, .bl _ => true
  | _, .int _ => true
  | _, .str _ => true
  | 0, .list _ => false
  | 0, .tup _ => false
  | k + 1, .list xs => D.dps k xs
  | k + 1, .tup xs => D.dps k xs
  | _, .dict _ => true
  | _, .obj _ _ => false
  | _, .pin _ => false
  | _, .box => false
def D.dps : Nat → List D → Bool
  | _, [] => true
  | k, x :: xs => D.dp k x && D.dps k xs
end
theorem dps_mem {k : Nat} : ∀ {xs : List D}, D.dps k xs = true → ∀ x ∈ xs, x.dp k = true
  | [], _, x, h => by cases h
  | y :: ys, q, x, h => by
    rw [D.dps, Bool.and_eq_true] at q
    rcases List.mem_cons.mp h with z | z
    · rw [z]; exact q.1
    · exact dps_mem q.2 x z
theorem dps_of {k : Nat} : ∀ {xs : List D}, (∀ x ∈ xs, x.dp k = true) → D.dps k xs = true
  | [], _ => by rw [D.dps]
  | y :: ys, h => by
    rw [D.dps, Bool.and_eq_true]
    exact ⟨h y (List.mem_cons_self ..), dps_of fun x hx => h x (List.mem_cons_of_mem _ hx)⟩
theorem dp_tup {k : Nat} {xs : List D} (h : (D.tup xs).dp k = true) : ∃ j, k = j + 1 ∧ ∀ x ∈ xs, x.dp j = true := by
  cases k with
  | zero => rw [D.dp] at h; cases h
  | succ j => rw [D.dp] at h; exact ⟨j, rfl, dps_mem h⟩
theorem dp_list {k : Nat} {xs : List D} (h : (D.list xs).dp k = true) : ∃ j, k = j + 1 ∧ ∀ x ∈ xs, x.dp j = true := by
  cases k with
  | zero => rw [D.dp] at h; cases h
  | succ j => rw [D.dp] at h; exact ⟨j, rfl, dps_mem h⟩
theorem dp_nb {k : Nat} {d : D} (h : d.dp k = true) : d.isBox = false := by
  cases d <;> first | rfl | (rw [D.dp] at h; cases h)
mutual
theorem dp_mono {j k : Nat} (l : j ≤ k) : ∀ d : D, d.dp j = true → d.dp k = true
  | .non, _ => by rw [D.dp]
  | .bl _, _ => by rw [D.dp]
  | .int _, _ => by rw [D.dp]
  | .str _, _ => by rw [D.dp]
  | .dict _, _ => by rw [D.dp]
  | .obj _ _, h => by rw [D.dp] at h; cases h
  | .pin _, h => by rw [D.dp] at h; cases h
  | .box, h => by rw [D.dp] at h; cases h
  | .list xs, h => by
    cases j with
    | zero => rw [D.dp] at h; cases h
    | succ j =>
      obtain ⟨k, rfl⟩ : ∃ k', k = k' + 1 := ⟨k - 1, by omega⟩
      rw [D.dp] at h ⊢
      exact dps_mono (by omega) xs h
  | .tup xs, h => by
    cases j with
    | zero => rw [D.dp] at h; cases h
    | succ j =>
      obtain ⟨k, rfl⟩ : ∃ k', k = k' + 1 := ⟨k - 1, by omega⟩
      rw [D.dp] at h ⊢
      exact dps_mono (by omega) xs h
theorem dps_mono {j k : Nat} (l : j ≤ k) : ∀ xs : List D, D.dps j xs = true → D.dps k xs = true
  | [], _ => by rw [D.dps]
  | x :: xs, h => by
    rw [D.dps, Bool.and_eq_true] at h ⊢
    exact ⟨dp_mono l x h.1, dps_mono l xs h.2⟩
end
/-! ### == and in, against texts -/
theorem eqb_str (x : D) (z : Str) : x.eqb (.str z) = (match x with
  | .str y => y == z
  | _ => false) := by
  unfold D.eqb
  cases x <;> simp [D.py, PyData.eqv]
theorem str_eqb (x : D) (z : Str) : (D.str z).eqb x = (match x with
  | .str y => z == y
  | _ => false) := by
  unfold D.eqb
  cases x <;> simp [D.py, PyData.eqv]
theorem eqOk_str {x : D} (h : x.isBox = false) (z : Str) : eqOk x (.str z) = true := by
  unfold eqOk
  simp [D.isStr, h]
theorem neOk_str {x : D} (h : x.isBox = false) (z : Str) : neOk x (.str z) = true := by
  unfold neOk
  simp [D.isStr, h]
def hasS (ns : List Str) : D → Bool
  | .str z => ns.contains z
  | _ => false
theorem inOk_strs {x : D} (h : x.isBox = false) (ns : List Str) : inOk x (ns.map .str) = true := by
  unfold inOk
  have : (ns.map D.str).all D.isStr = true := by
    rw [List.all_map]
    exact List.all_eq_true.mpr fun _ _ => rfl
  simp [this, h]
theorem any_strs (x : D) (ns : List Str) : ((ns.map D.str).any fun z => z.eqb x) = hasS ns x := by
  rw [List.any_map]
  induction ns with
  | nil => cases x <;> rfl
  | cons y ys ih =>
    rw [List.any_cons, ih]
    have e : (((fun z => z.eqb x) ∘ D.str) y || hasS ys x) = ((D.str y).eqb x || hasS ys x) := rfl
    rw [e, str_eqb]
    cases x with
    | str z =>
      show (y == z || ys.contains z) = (y :: ys).contains z
      rw [List.contains_cons]
      have e2 : (y == z) = (z == y) := by rw [Bool.eq_iff_iff, beq_iff_eq, beq_iff_eq]; exact ⟨Eq.symm, Eq.symm⟩
      rw [e2]
    | _ => rfl
theorem c_inT (x : D) (ys : List D) : cmpop .inn x (.tup ys) = if inOk x ys then some (ys.any fun z => z.eqb x) else none := by cases x <;> rfl
theorem c_inL (x : D) (ys : List D) : cmpop .inn x (.list ys) = if inOk x ys then some (ys.any fun z => z.eqb x) else none := by cases x <;> rfl
theorem c_ninT (x : D) (ys : List D) : cmpop .notin x (.tup ys) = if inOk x ys then some (!ys.any fun z => z.eqb x) else none := by cases x <;> rfl
theorem c_ninL (x : D) (ys : List D) : cmpop .notin x (.list ys) = if inOk x ys then some (!ys.any fun z => z.eqb x) else none := by cases x <;> rfl
theorem c_eq (x y : D) : cmpop .eq x y = if eqOk x y then some (x.eqb y) else none := by cases x <;> cases y <;> rfl
theorem c_ne (x y : D) : cmpop .ne x y = if neOk x y then some (!x.eqb y) else none := by cases x <;> cases y <;> rfl
theorem in_strs_tup {x : D} (h : x.isBox = false) (ns : List Str) : cmpop .inn x (.tup (ns.map .str)) = some (hasS ns x) := by
  rw [c_inT, if_pos (inOk_strs h ns), any_strs]
theorem in_strs_list {x : D} (h : x.isBox = false) (ns : List Str) : cmpop .inn x (.list (ns.map .str)) = some (hasS ns x) := by
  rw [c_inL, if_pos (inOk_strs h ns), any_strs]
theorem nin_strs_tup {x : D} (h : x.isBox = false) (ns : List Str) : cmpop .notin x (.tup (ns.map .str)) = some (!hasS ns x) := by
  rw [c_ninT, if_pos (inOk_strs h ns), any_strs]
theorem nin_strs_list {x : D} (h : x.isBox = false) (ns : List Str) : cmpop .notin x (.list (ns.map .str)) = some (!hasS ns x) := by
  rw [c_ninL, if_pos (inOk_strs h ns), any_strs]
theorem eq_str {x : D} (h : x.isBox = false) (z : Str) : cmpop .eq x (.str z) = some (x.eqb (.str z)) := by
  rw [c_eq, if_pos (eqOk_str h z)]
theorem ne_str {x : D} (h : x.isBox = false) (z : Str) : cmpop .ne x (.str z) = some (!x.eqb (.str z)) := by
  rw [c_ne, if_pos (neOk_str h z)]
theorem eq_int (i j : Int) : cmpop .eq (.int i) (.int j) = some (i == j) := by
  have : eqOk (.int i) (.int j) = true := by simp [eqOk, D.flat]
  rw [c_eq, if_pos this]
  rfl
theorem ne_int (i j : Int) : cmpop .ne (.int i) (.int j) = some (!(i == j)) := by
  have : neOk (.int i) (.int j) = true := by simp [neOk, D.flat]
  rw [c_ne, if_pos this]
  rfl
theorem lt_int (i j : Int) : cmpop .lt (.int i) (.int j) = some (decide (i < j)) := rfl
theorem le_int (i j : Int) : cmpop .le (.int i) (.int j) = some (decide (i ≤ j)) := rfl
theorem gt_int (i j : Int) : cmpop .gt (.int i) (.int j) = some (decide (j < i)) := rfl
theorem ge_int (i j : Int) : cmpop .ge (.int i) (.int j) = some (decide (j ≤ i)) := rfl
/-- numbers and texts -/
def D.atom : D → Bool
  | .int _ => true
  | .str _ => true
  | _ => false
def hasA (th : List D) (x : D) : Bool := th.any fun z => z.eqb x
theorem inOk_atoms {x : D} {th : List D} (h : x.atom = true) (g : th.all D.atom = true) : inOk x th = true := by
  unfold inOk
  have e1 : x.flat 63 = true := by cases x <;> first | rfl | cases h
  have e2 : D.flats 63 th = true := by
    induction th with
    | nil => rfl
    | cons y ys ih =>
      rw [List.all_cons, Bool.and_eq_true] at g
      rw [D.flats, ih g.2]
      have := g.1
      cases y <;> first | rfl | cases this
  simp [e1, e2]
theorem in_atoms_tup {x : D} {th : List D} (h : x.atom = true) (g : th.all D.atom = true) : cmpop .inn x (.tup th) = some (hasA th x) := by
  rw [c_inT, if_pos (inOk_atoms h g)]
  rfl
theorem nin_atoms_tup {x : D} {th : List D} (h : x.atom = true) (g : th.all D.atom = true) : cmpop .notin x (.tup th) = some (!hasA th x) := by
  rw [c_ninT, if_pos (inOk_atoms h g)]
  rfl
theorem in_atoms_list {x : D} {th : List D} (h : x.atom = true) (g : th.all D.atom = true) : cmpop .inn x (.list th) = some (hasA th x) := by
  rw [c_inL, if_pos (inOk_atoms h g)]
  rfl
theorem nin_atoms_list {x : D} {th : List D} (h : x.atom = true) (g : th.all D.atom = true) : cmpop .notin x (.list th) = some (!hasA th x) := by
  rw [c_ninL, if_pos (inOk_atoms h g)]
  rfl
theorem ix_at {xs : List D} {i : Int} {d : D} (h0 : 0 ≤ i) (h : xs[i.toNat]? = some d) : getI (.tup xs) (.int i) = some d := by
  have hl := (List.getElem?_eq_some_iff.mp h).1
  show L2.atI xs i = some d
  unfold L2.atI L2.ixN
  rw [if_pos h0, if_pos (by omega)]
  exact h
theorem ix0 (a : D) (r : List D) : getI (.tup (a :: r)) (.int 0) = some a := ix_at (by decide) rfl
theorem ix1 (a b : D) (r : List D) : getI (.tup (a :: b :: r)) (.int 1) = some b := ix_at (by decide) rfl
theorem ix2 (a b c : D) (r : List D) : getI (.tup (a :: b :: c :: r)) (.int 2) = some c := ix_at (by decide) rfl
theorem ix3 (a b c d : D) (r : List D) : getI (.tup (a :: b :: c :: d :: r)) (.int 3) = some d := ix_at (by decide) rfl
theorem ix4 (a b c d e : D) (r : List D) : getI (.tup (a :: b :: c :: d :: e :: r)) (.int 4) = some e := ix_at (by decide) rfl
def isW (w : Str) (d : D) : Bool := d.eqb (.str w)
theorem isW_of {w : Str} {d : D} (h : isW w d = true) : d = .str w := by
  unfold isW at h
  rw [eqb_str] at h
  cases d with
  | str y =>
    have h : (y == w) = true := h
    rw [beq_iff_eq] at h
    rw [h]
  | _ => cases h
theorem isW_str (w y : Str) : isW w (.str y) = (y == w) := by
  unfold isW
  rw [eqb_str]
theorem eq_w {x : D} (h : x.isBox = false) (z : Str) : cmpop .eq x (.str z) = some (isW z x) := eq_str h z
theorem ne_w {x : D} (h : x.isBox = false) (z : Str) : cmpop .ne x (.str z) = some (!isW z x) := ne_str h z
theorem int_len (a b : Nat) : ((a : Int) == (b : Int)) = (a == b) := by
  rw [Bool.eq_iff_iff, beq_iff_eq, beq_iff_eq]
  omega
end Dl

set_option Elab.async false
set_option linter.all false
set_option maxRecDepth 100000
set_option maxHeartbeats 4000000
/-! The texts in the small language (printed). -/
namespace Dl
open PySem PySem.Spec PyProof.Rows L2
def ir_tupled : ISs := (.cons (.ret (.ite (.isi (.v 0) [.list, .tuple]) (.bi .tuple (.comp (.ex (.v 0)) (.one 1) (.k (.bl true)) (.call "tupled" (.cons (.v 1) .nil)))) (.v 0)))
  .nil)
def ir_is_number : ISs := (.cons (.ret (.and (.cons (.isi (.v 0) [.int]) (.cons (.not (.isi (.v 0) [.bool])) .nil))))
  .nil)
def ir_is_name : ISs := (.cons (.ret (.and (.cons (.isi (.v 0) [.str]) (.cons (.chain .lt .le (.k (.int 0)) (.bi .len (.v 0)) (.g "LONGEST")) (.cons (.bi .all (.comp (.ex (.v 0)) (.one 1) (.k (.bl true)) (.cmp .inn (.v 1) (.g "LETTERS")))) .nil)))))
  .nil)
def ir_are_names : ISs := (.cons (.ife (.tor (.cons (.tnot (.isi (.v 0) [.tuple])) (.cons (.tnot (.chain .le .le (.v 1) (.bi .len (.v 0)) (.v 2))) (.cons (.tnot (.bi .all (.comp (.ex (.v 0)) (.one 3) (.k (.bl true)) (.call "is_name" (.cons (.v 3) .nil))))) .nil))))
  (.cons (.ret (.k (.bl false)))
  .nil)
  .nil)
  (.cons (.ret (.cmp .eq (.lenset (.v 0)) (.bi .len (.v 0))))
  .nil))
def ir_is_call : ISs := (.cons (.ife (.tor (.cons (.tnot (.isi (.v 1) [.tuple])) (.cons (.cmp .eq (.bi .len (.v 1)) (.k (.int 0))) (.cons (.tnot (.isi (.ix (.v 1) (.k (.int 0))) [.str])) (.cons (.inm true (.ix (.v 1) (.k (.int 0))) (.v 0)) .nil)))))
  (.cons (.ret (.k (.bl false)))
  .nil)
  .nil)
  (.cons (.ret (.and (.cons (.cmp .eq (.bin .sub (.bi .len (.v 1)) (.k (.int 1))) (.bi .len (.ix (.ixm (.v 0) (.ix (.v 1) (.k (.int 0)))) (.k (.int 1))))) (.cons (.bi .all (.comp (.ex (.slc (.v 1) true false (.k (.int 1)) .bad)) (.one 2) (.k (.bl true)) (.call "is_number" (.cons (.v 2) .nil)))) .nil))))
  .nil))
def ir_called : ISs := (.cons (.set 2 (.call "tupled" (.cons (.v 1) .nil)))
  (.cons (.ife (.tnot (.call "is_call" (.cons (.v 0) (.cons (.v 2) .nil))))
  (.cons .bad
  .nil)
  .nil)
  (.cons (.ret (.v 2))
  .nil)))
def ir_lined : ISs := (.cons (.ret (.bi .tuple (.comp (.ex (.v 1)) (.many [2, 3]) (.k (.bl true)) (.tup (.cons (.call "called" (.cons (.v 0) (.cons (.v 2) .nil))) (.cons (.v 3) .nil))))))
  .nil)
def ir_is_term : ISs := (.cons (.ret (.or (.cons (.call "is_number" (.cons (.v 0) .nil)) (.cons (.and (.cons (.isi (.v 0) [.str]) (.cons (.cmp .inn (.v 0) (.v 1)) .nil))) .nil))))
  .nil)
def ir_is_change : ISs := (.cons (.ife (.tor (.cons (.tnot (.isi (.v 1) [.tuple])) (.cons (.cmp .lt (.bi .len (.v 1)) (.k (.int 2))) (.cons (.tnot (.call "is_term" (.cons (.ix (.v 1) (.k (.int 1))) (.cons (.v 2) .nil)))) .nil))))
  (.cons (.ret (.k (.bl false)))
  .nil)
  .nil)
  (.cons (.ife (.cmp .eq (.ix (.v 1) (.k (.int 0))) (.k (.str "drop")))
  (.cons (.ret (.cmp .eq (.bi .len (.v 1)) (.k (.int 2))))
  .nil)
  .nil)
  (.cons (.ife (.cmp .eq (.ix (.v 1) (.k (.int 0))) (.k (.str "set")))
  (.cons (.ret (.and (.cons (.cmp .eq (.bi .len (.v 1)) (.k (.int 4))) (.cons (.cmp .inn (.ix (.v 1) (.k (.int 2))) (.v 0)) (.cons (.call "is_term" (.cons (.ix (.v 1) (.k (.int 3))) (.cons (.v 2) .nil))) .nil)))))
  .nil)
  .nil)
  (.cons (.ife (.tor (.cons (.cmp .ne (.ix (.v 1) (.k (.int 0))) (.k (.str "make"))) (.cons (.cmp .ne (.bi .len (.v 1)) (.k (.int 3))) (.cons (.tnot (.isi (.ix (.v 1) (.k (.int 2))) [.tuple])) .nil))))
  (.cons (.ret (.k (.bl false)))
  .nil)
  .nil)
  (.cons (.ret (.and (.cons (.cmp .eq (.bi .len (.ix (.v 1) (.k (.int 2)))) (.bi .len (.v 0))) (.cons (.bi .all (.comp (.ex (.ix (.v 1) (.k (.int 2)))) (.one 3) (.k (.bl true)) (.call "is_term" (.cons (.v 3) (.cons (.v 2) .nil))))) .nil))))
  .nil)))))
def ir_is_body : ISs := (.cons (.ife (.tor (.cons (.tnot (.isi (.v 1) [.tuple])) (.cons (.cmp .eq (.bi .len (.v 1)) (.k (.int 0))) (.cons (.tnot (.isi (.ix (.v 1) (.k (.int 0))) [.str])) .nil))))
  (.cons (.ret (.k (.bl false)))
  .nil)
  .nil)
  (.cons (.set 4 (.ix (.v 1) (.k (.int 0))))
  (.cons (.ife (.cmp .ne (.gget "SIZES" (.v 4) (.k (.int 0))) (.bi .len (.v 1)))
  (.cons (.ret (.k (.bl false)))
  .nil)
  .nil)
  (.cons (.ife (.cmp .eq (.v 4) (.k (.str "say")))
  (.cons (.set 5 (.ix (.v 1) (.k (.int 1))))
  (.cons (.ife (.tor (.cons (.tnot (.call "is_name" (.cons (.ix (.v 1) (.k (.int 2))) .nil))) (.cons (.tnot (.isi (.v 5) [.tuple])) .nil)))
  (.cons (.ret (.k (.bl false)))
  .nil)
  .nil)
  (.cons (.ret (.bi .all (.comp (.ex (.v 5)) (.one 11) (.k (.bl true)) (.call "is_change" (.cons (.v 0) (.cons (.v 11) (.cons (.v 2) .nil)))))))
  .nil)))
  .nil)
  (.cons (.ife (.cmp .eq (.v 4) (.k (.str "has")))
  (.cons (.ife (.tor (.cons (.tnot (.call "is_term" (.cons (.ix (.v 1) (.k (.int 1))) (.cons (.v 2) .nil)))) (.cons (.tnot (.call "is_body" (.cons (.v 0) (.cons (.ix (.v 1) (.k (.int 2))) (.cons (.v 2) (.cons (.tup (.star (.v 3) (.cons (.ix (.v 1) (.k (.int 1))) .nil))) .nil)))))) .nil)))
  (.cons (.ret (.k (.bl false)))
  .nil)
  .nil)
  (.cons (.ret (.call "is_body" (.cons (.v 0) (.cons (.ix (.v 1) (.k (.int 3))) (.cons (.v 2) (.cons (.v 3) .nil))))))
  .nil))
  .nil)
  (.cons (.ife (.cmp .eq (.v 4) (.k (.str "is")))
  (.cons (.unp [6, 7, 8] (.slc (.v 1) true true (.k (.int 1)) (.k (.int 4))))
  (.cons (.ife (.tor (.cons (.tnot (.call "is_term" (.cons (.v 6) (.cons (.v 2) .nil)))) (.cons (.cmp .notin (.v 6) (.v 3)) (.cons (.cmp .notin (.v 7) (.v 0)) (.cons (.tnot (.call "is_term" (.cons (.v 8) (.cons (.v 2) .nil)))) .nil)))))
  (.cons (.ret (.k (.bl false)))
  .nil)
  .nil)
  (.cons (.ret (.bi .all (.comp (.ex (.slc (.v 1) true false (.k (.int 4)) .bad)) (.one 10) (.k (.bl true)) (.call "is_body" (.cons (.v 0) (.cons (.v 10) (.cons (.v 2) (.cons (.v 3) .nil))))))))
  .nil)))
  .nil)
  (.cons (.unp [9, 6, 7, 10] (.slc (.v 1) true false (.k (.int 1)) .bad))
  (.cons (.ife (.tor (.cons (.tnot (.call "is_name" (.cons (.v 9) .nil))) (.cons (.cmp .inn (.v 9) (.v 2)) (.cons (.tnot (.call "is_term" (.cons (.v 6) (.cons (.v 2) .nil)))) (.cons (.cmp .notin (.v 6) (.v 3)) (.cons (.cmp .notin (.v 7) (.v 0)) .nil))))))
  (.cons (.ret (.k (.bl false)))
  .nil)
  .nil)
  (.cons (.ret (.call "is_body" (.cons (.v 0) (.cons (.v 10) (.cons (.tup (.star (.v 2) (.cons (.v 9) .nil))) (.cons (.v 3) .nil))))))
  .nil)))))))))
def ir_is_kind_of : ISs := (.cons (.ife (.tor (.cons (.tnot (.isi (.v 1) [.tuple])) (.cons (.cmp .ne (.bi .len (.v 1)) (.k (.int 3))) .nil)))
  (.cons (.ret (.k (.bl false)))
  .nil)
  .nil)
  (.cons (.unp [2, 3, 4] (.v 1))
  (.cons (.ret (.and (.cons (.call "is_name" (.cons (.v 2) .nil)) (.cons (.call "are_names" (.cons (.v 3) (.cons (.k (.int 0)) (.cons (.g "MOST_PARAMETERS") .nil)))) (.cons (.call "is_body" (.cons (.v 0) (.cons (.v 4) (.cons (.v 3) (.cons (.tup .nil) .nil))))) .nil)))))
  .nil)))
def ir_branches_of : ISs := (.cons (.ife (.cmp .eq (.ix (.v 0) (.k (.int 0))) (.k (.str "say")))
  (.cons (.ret (.lst (.cons (.tup (.cons (.tup .nil) (.cons (.k (.int 0)) (.cons (.tup .nil) (.cons (.ix (.v 0) (.k (.int 1))) (.cons (.ix (.v 0) (.k (.int 2))) .nil)))))) .nil)))
  .nil)
  .nil)
  (.cons (.ife (.cmp .eq (.ix (.v 0) (.k (.int 0))) (.k (.str "let")))
  (.cons (.set 1 (.call "branches_of" (.cons (.ix (.v 0) (.k (.int 4))) .nil)))
  (.cons (.ret (.comp (.ex (.v 1)) (.many [5, 6, 7, 8, 9]) (.k (.bl true)) (.tup (.cons (.v 5) (.cons (.bin .add (.v 6) (.k (.int 1))) (.cons (.tup (.cons (.ix (.v 0) (.k (.int 1))) (.star (.v 7) .nil))) (.cons (.v 8) (.cons (.v 9) .nil))))))))
  .nil))
  .nil)
  (.cons (.setF 2 (.lst .nil))
  (.cons (.forr (.ex (.tup (.cons (.tup (.cons (.k (.bl true)) (.cons (.ix (.v 0) (.neg (.k (.int 2)))) .nil))) (.cons (.tup (.cons (.k (.bl false)) (.cons (.ix (.v 0) (.neg (.k (.int 1)))) .nil))) .nil)))) (.many [3, 4])
  (.cons (.forr (.ex (.call "branches_of" (.cons (.v 4) .nil))) (.many [5, 6, 7, 8, 9])
  (.cons (.app 2 (.tup (.cons (.tup (.cons (.v 3) (.star (.v 5) .nil))) (.cons (.bin .add (.v 6) (.k (.int 1))) (.cons (.v 7) (.cons (.v 8) (.cons (.v 9) .nil)))))))
  .nil))
  .nil))
  (.cons (.frz [2])
  (.cons (.ret (.v 2))
  .nil))))))
def ir_Book_init : ISs := (.cons (.par [3, 4] (.cons (.call "tupled" (.cons (.v 1) .nil)) (.cons (.call "tupled" (.cons (.v 2) .nil)) .nil)))
  (.cons (.ife (.tnot (.call "are_names" (.cons (.v 3) (.cons (.k (.int 1)) (.cons (.g "MOST_FIELDS") .nil)))))
  (.cons .bad
  .nil)
  .nil)
  (.cons (.forr (.enum (.v 4)) (.many [5, 6])
  (.cons (.ife (.tnot (.call "is_kind_of" (.cons (.v 3) (.cons (.v 6) .nil))))
  (.cons .bad
  .nil)
  .nil)
  .nil))
  (.cons (.set 7 (.comp (.ex (.v 4)) (.one 6) (.k (.bl true)) (.ix (.v 6) (.k (.int 0)))))
  (.cons (.forr (.enum (.v 7)) (.many [5, 8])
  (.cons (.ife (.cmp .inn (.v 8) (.slc (.v 7) false true .bad (.v 5)))
  (.cons .bad
  .nil)
  .nil)
  .nil))
  .nil)))))
def ir_Book_contains : ISs := (.cons (.ret (.cmp .inn (.v 1) (.comp (.ex (.attr (.v 0) "own_kinds")) (.one 2) (.k (.bl true)) (.ix (.v 2) (.k (.int 0))))))
  .nil)
def ir_Book_getitem : ISs := (.cons (.forr (.ex (.attr (.v 0) "own_kinds")) (.one 2)
  (.cons (.ife (.cmp .eq (.ix (.v 2) (.k (.int 0))) (.v 1))
  (.cons (.ret (.v 2))
  .nil)
  .nil)
  .nil))
  (.cons .bad
  .nil))
def ir_terms_of : ISs := (.cons (.ife (.cmp .eq (.ix (.v 0) (.k (.int 0))) (.k (.str "make")))
  (.cons (.ret (.lst (.cons (.ix (.v 0) (.k (.int 1))) (.star (.ix (.v 0) (.k (.int 2))) .nil))))
  .nil)
  .nil)
  (.cons (.ret (.ite (.cmp .eq (.ix (.v 0) (.k (.int 0))) (.k (.str "set"))) (.lst (.cons (.ix (.v 0) (.k (.int 1))) (.cons (.ix (.v 0) (.k (.int 3))) .nil))) (.lst (.cons (.ix (.v 0) (.k (.int 1))) .nil))))
  .nil))
def ir_has_read_name : ISs := (.cons (.ret (.bi .any (.comp2 (.ex (.v 1)) (.one 2) (.ex (.call "terms_of" (.cons (.v 2) .nil))) (.one 3) (.k (.bl true)) (.cmp .inn (.v 3) (.v 0)))))
  .nil)
def ir_hides : ISs := (.cons (.unp [2, 3, 4, 5, 6] (.v 0))
  (.cons (.unp [7, 8, 9, 10, 11] (.v 1))
  (.cons (.ife (.cmp .ne (.v 6) (.v 11))
  (.cons (.ret (.k (.bl false)))
  .nil)
  .nil)
  (.cons (.ret (.ite (.cmp .eq (.v 2) (.v 7)) (.call "has_read_name" (.cons (.v 4) (.cons (.v 5) .nil))) (.cmp .ne (.v 5) (.v 10))))
  .nil))))
def ir_hiding : ISs := (.cons (.set 2 (.call "branches_of" (.cons (.ix (.ixm (.v 0) (.v 1)) (.k (.int 2))) .nil)))
  (.cons (.forr (.ex (.v 2)) (.one 3)
  (.cons (.forr (.ex (.v 2)) (.one 4)
  (.cons (.ife (.call "hides" (.cons (.v 3) (.cons (.v 4) .nil)))
  (.cons (.ret (.tup (.cons (.ix (.v 3) (.k (.int 4))) (.cons (.ix (.v 3) (.k (.int 0))) (.cons (.ix (.v 4) (.k (.int 0))) .nil)))))
  .nil)
  .nil)
  .nil))
  .nil))
  (.cons (.ret (.k (.non)))
  .nil)))
def ir_is_telling : ISs := (.cons (.ret (.cmp .is (.call "hiding" (.cons (.v 0) (.cons (.v 1) .nil))) (.k (.non))))
  .nil)
def ir_length_of : ISs := (.cons (.ret (.mmL true (.comp (.ex (.call "branches_of" (.cons (.ix (.ixm (.v 0) (.v 1)) (.k (.int 2))) .nil))) (.many [2, 3, 4, 5, 6]) (.k (.bl true)) (.v 3))))
  .nil)
def ir_bound_of : ISs := (.cons (.par [2, 3] (.cons (.k (.int 0)) (.cons (.k (.int 0)) .nil)))
  (.cons (.forr (.enum (.v 1)) (.nest 4 [5, 6])
  (.cons (.set 7 (.call "length_of" (.cons (.v 0) (.cons (.ix (.v 5) (.k (.int 0))) .nil))))
  (.cons (.set 2 (.mm true (.v 2) (.mm false (.bin .add (.v 4) (.k (.int 1))) (.bin .add (.bin .add (.k (.int 1)) (.v 7)) (.v 3)))))
  (.cons (.inc 3 (.ite (.call "is_telling" (.cons (.v 0) (.cons (.ix (.v 5) (.k (.int 0))) .nil))) (.k (.int 0)) (.v 7)))
  .nil))))
  (.cons (.ret (.v 2))
  .nil)))
def ir_most_calls : ISs := (.cons (.ret (.call "bound_of" (.cons (.v 0) (.cons (.call "lined" (.cons (.v 0) (.cons (.v 1) .nil))) .nil))))
  .nil)
def ir_law_of : ISs := (.cons (.ret (.ix (.v 1) (.call "_law_take" (.cons (.v 0) (.cons (.bi .len (.v 1)) .nil)))))
  .nil)
def ir_law_mixed : ISs := (.cons (.ife (.tnot (.isi (.v 1) [.list, .tuple]))
  (.cons (.ret (.v 1))
  .nil)
  .nil)
  (.cons (.set 2 (.comp (.ex (.v 1)) (.one 3) (.k (.bl true)) (.call "_law_mixed" (.cons (.v 0) (.cons (.v 3) .nil)))))
  (.cons (.ret (.ite (.cmp .eq (.call "_law_take" (.cons (.v 0) (.cons (.k (.int 2)) .nil))) (.k (.int 0))) (.v 2) (.bi .tuple (.v 2))))
  .nil)))
def ir_law_same : ISs := (.cons (.ife (.isi (.v 1) [.dict])
  (.cons (.ife (.tor (.cons (.tnot (.isi (.v 0) [.dict])) (.cons (.cmp .ne (.bi .len (.v 0)) (.bi .len (.v 1))) .nil)))
  (.cons (.ret (.k (.bl false)))
  .nil)
  .nil)
  (.cons (.ret (.bi .all (.comp (.ex (.v 1)) (.one 2) (.k (.bl true)) (.and (.cons (.cmp .inn (.v 2) (.v 0)) (.cons (.call "_law_is_number" (.cons (.v 2) .nil)) (.cons (.call "_law_same" (.cons (.ix (.v 0) (.v 2)) (.cons (.ix (.v 1) (.v 2)) .nil))) .nil)))))))
  .nil))
  .nil)
  (.cons (.ife (.isi (.v 1) [.list, .tuple])
  (.cons (.ife (.tor (.cons (.cmp .ne (.isi (.v 0) [.list]) (.isi (.v 1) [.list])) (.cons (.cmp .ne (.isi (.v 0) [.tuple]) (.isi (.v 1) [.tuple])) .nil)))
  (.cons (.ret (.k (.bl false)))
  .nil)
  .nil)
  (.cons (.ret (.and (.cons (.cmp .eq (.bi .len (.v 0)) (.bi .len (.v 1))) (.cons (.bi .all (.comp (.zip (.v 0) (.v 1)) (.many [3, 4]) (.k (.bl true)) (.call "_law_same" (.cons (.v 3) (.cons (.v 4) .nil))))) .nil))))
  .nil))
  .nil)
  (.cons (.ife (.tor (.cons (.cmp .is (.v 1) (.k (.non))) (.cons (.isi (.v 1) [.bool, .str]) .nil)))
  (.cons (.ret (.and (.cons (.cmp .eq (.v 0) (.v 1)) (.cons (.cmp .eq (.isi (.v 0) [.bool]) (.isi (.v 1) [.bool])) (.cons (.cmp .eq (.cmp .is (.v 0) (.k (.non))) (.cmp .is (.v 1) (.k (.non)))) .nil)))))
  .nil)
  .nil)
  (.cons (.ret (.and (.cons (.call "_law_is_number" (.cons (.v 0) .nil)) (.cons (.cmp .eq (.v 0) (.v 1)) .nil))))
  .nil))))
def ir_law_is_number : ISs := (.cons (.ret (.and (.cons (.isi (.v 0) [.int]) (.cons (.not (.isi (.v 0) [.bool])) .nil))))
  .nil)
def ir_law_names : ISs := (.cons (.setF 2 (.lst .nil))
  (.cons (.forr (.rng1 (.v 1)) (.one 3)
  (.cons (.set 4 (.join "" (.comp (.rng1 (.bin .add (.k (.int 1)) (.call "_law_take" (.cons (.v 0) (.cons (.k (.int 4)) .nil))))) (.one 5) (.k (.bl true)) (.call "_law_of" (.cons (.v 0) (.cons (.k (.str "abcdefghijklmnopqrstuvwxyz")) .nil))))))
  (.cons (.ife (.inO false (.v 4) 2)
  (.cons (.set 4 (.bin .add (.slc (.bin .add (.v 4) (.k (.str "jjjj"))) false true .bad (.k (.int 4))) (.bin .mul (.ix (.k (.str "abcdefghijklmnopqrstuvwxyz")) (.v 3)) (.k (.int 2)))))
  .nil)
  .nil)
  (.cons (.app 2 (.v 4))
  .nil))))
  (.cons (.frz [2])
  (.cons (.ret (.v 2))
  .nil))))
def ir_law_pool : ISs := (.cons (.set 1 (.call "_law_take" (.cons (.v 0) (.cons (.k (.int 8)) .nil))))
  (.cons (.ret (.lst (.cons (.v 1) (.cons (.bin .add (.bin .add (.v 1) (.k (.int 1))) (.call "_law_take" (.cons (.v 0) (.cons (.k (.int 5)) .nil)))) (.cons (.bin .sub (.neg (.k (.int 1))) (.call "_law_take" (.cons (.v 0) (.cons (.k (.int 4)) .nil)))) (.cons (.bin .add (.bin .pow (.k (.int 10)) (.k (.int 25))) (.call "_law_take" (.cons (.v 0) (.cons (.k (.int 1000)) .nil)))) .nil))))))
  .nil))
def ir_law_say : ISs := (.cons (.setF 4 (.lst .nil))
  (.cons (.forr (.rng1 (.ite (.cmp .ne (.v 2) (.lst .nil)) (.call "_law_of" (.cons (.v 0) (.cons (.lst (.cons (.k (.int 0)) (.cons (.k (.int 1)) (.cons (.k (.int 1)) (.cons (.k (.int 2)) .nil))))) .nil))) (.k (.int 0)))) (.one 5)
  (.cons (.par [6, 7] (.cons (.call "_law_of" (.cons (.v 0) (.cons (.v 2) .nil))) (.cons (.call "_law_take" (.cons (.v 0) (.cons (.k (.int 4)) .nil))) .nil)))
  (.cons (.ife (.cmp .lt (.v 7) (.k (.int 2)))
  (.cons (.app 4 (.tup (.cons (.k (.str "make")) (.cons (.v 6) (.cons (.bi .tuple (.comp (.ex (.v 1)) (.one 8) (.k (.bl true)) (.call "_law_of" (.cons (.v 0) (.cons (.bin .add (.v 2) (.lst (.cons (.k (.int 0)) .nil))) .nil))))) .nil)))))
  .nil)
  (.cons (.ife (.cmp .eq (.v 7) (.k (.int 2)))
  (.cons (.app 4 (.tup (.cons (.k (.str "set")) (.cons (.v 6) (.cons (.call "_law_of" (.cons (.v 0) (.cons (.v 1) .nil))) (.cons (.call "_law_of" (.cons (.v 0) (.cons (.bin .add (.v 2) (.lst (.cons (.k (.int 0)) .nil))) .nil))) .nil))))))
  .nil)
  (.cons (.app 4 (.tup (.cons (.k (.str "drop")) (.cons (.v 6) .nil))))
  .nil))
  .nil))
  .nil)))
  (.cons (.frz [4])
  (.cons (.ret (.tup (.cons (.k (.str "say")) (.cons (.bi .tuple (.v 4)) (.cons (.call "_law_of" (.cons (.v 0) (.cons (.v 3) .nil))) .nil)))))
  .nil))))
def ir_law_body : ISs := (.cons (.ife (.tand (.cons (.cmp .ne (.v 3) (.lst .nil)) (.cons (.cmp .gt (.v 5) (.k (.int 0))) (.cons (.cmp .eq (.call "_law_take" (.cons (.v 0) (.cons (.k (.int 3)) .nil))) (.k (.int 0))) .nil))))
  (.cons (.set 7 (.ite (.cmp .notin (.k (.str "x")) (.v 2)) (.k (.str "x")) (.k (.str "xx"))))
  (.cons (.par [8, 9] (.cons (.call "_law_of" (.cons (.v 0) (.cons (.v 3) .nil))) (.cons (.call "_law_of" (.cons (.v 0) (.cons (.v 1) .nil))) .nil)))
  (.cons (.set 10 (.call "_law_body" (.cons (.v 0) (.cons (.v 1) (.cons (.bin .add (.v 2) (.lst (.cons (.v 7) .nil))) (.cons (.v 3) (.cons (.v 4) (.cons (.bin .sub (.v 5) (.k (.int 1))) (.cons (.v 6) .nil)))))))))
  (.cons (.ret (.tup (.cons (.k (.str "let")) (.cons (.v 7) (.cons (.v 8) (.cons (.v 9) (.cons (.v 10) .nil)))))))
  .nil))))
  .nil)
  (.cons (.ife (.tor (.cons (.cmp .eq (.v 4) (.k (.int 0))) (.cons (.cmp .eq (.v 2) (.lst .nil)) .nil)))
  (.cons (.ret (.call "_law_say" (.cons (.v 0) (.cons (.v 1) (.cons (.v 2) (.cons (.v 6) .nil))))))
  .nil)
  .nil)
  (.cons (.set 11 (.call "_law_take" (.cons (.v 0) (.cons (.v 4) .nil))))
  (.cons (.ife (.tand (.cons (.cmp .ne (.v 3) (.lst .nil)) (.cons (.cmp .eq (.call "_law_take" (.cons (.v 0) (.cons (.k (.int 2)) .nil))) (.k (.int 0))) .nil)))
  (.cons (.set 12 (.tup (.cons (.k (.str "is")) (.cons (.call "_law_of" (.cons (.v 0) (.cons (.v 3) .nil))) (.cons (.call "_law_of" (.cons (.v 0) (.cons (.v 1) .nil))) (.cons (.call "_law_of" (.cons (.v 0) (.cons (.bin .add (.v 2) (.lst (.cons (.k (.int 0)) .nil))) .nil))) .nil))))))
  (.cons (.set 13 (.call "_law_body" (.cons (.v 0) (.cons (.v 1) (.cons (.v 2) (.cons (.v 3) (.cons (.v 11) (.cons (.v 5) (.cons (.v 6) .nil)))))))))
  .nil))
  (.cons (.set 14 (.call "_law_of" (.cons (.v 0) (.cons (.v 2) .nil))))
  (.cons (.set 12 (.tup (.cons (.k (.str "has")) (.cons (.v 14) .nil))))
  (.cons (.set 13 (.call "_law_body" (.cons (.v 0) (.cons (.v 1) (.cons (.v 2) (.cons (.bin .add (.v 3) (.lst (.cons (.v 14) .nil))) (.cons (.v 11) (.cons (.v 5) (.cons (.v 6) .nil)))))))))
  .nil))))
  (.cons (.set 15 (.call "_law_body" (.cons (.v 0) (.cons (.v 1) (.cons (.v 2) (.cons (.v 3) (.cons (.bin .sub (.bin .sub (.v 4) (.k (.int 1))) (.v 11)) (.cons (.v 5) (.cons (.v 6) .nil)))))))))
  (.cons (.ret (.bin .add (.v 12) (.tup (.cons (.v 13) (.cons (.v 15) .nil)))))
  .nil))))))
def ir_law_kind : ISs := (.cons (.set 7 (.lst (.cons (.call "_law_of" (.cons (.v 0) (.cons (.lst (.cons (.k (.str "a")) (.cons (.k (.str "k")) (.cons (.k (.str "key")) .nil)))) .nil))) (.cons (.call "_law_of" (.cons (.v 0) (.cons (.lst (.cons (.k (.str "b")) (.cons (.k (.str "v")) (.cons (.k (.str "value")) .nil)))) .nil))) .nil))))
  (.cons (.set 7 (.slc (.v 7) false true .bad (.call "_law_of" (.cons (.v 0) (.cons (.lst (.cons (.k (.int 0)) (.cons (.k (.int 1)) (.cons (.k (.int 1)) (.cons (.k (.int 1)) (.cons (.k (.int 2)) (.cons (.k (.int 2)) .nil))))))) .nil)))))
  (.cons (.set 8 (.bin .add (.v 7) (.bi .list (.v 6))))
  (.cons (.set 9 (.call "_law_body" (.cons (.v 0) (.cons (.v 1) (.cons (.v 8) (.cons (.lst .nil) (.cons (.bin .add (.k (.int 1)) (.call "_law_take" (.cons (.v 0) (.cons (.v 5) .nil)))) (.cons (.v 4) (.cons (.v 3) .nil)))))))))
  (.cons (.ret (.tup (.cons (.v 2) (.cons (.bi .tuple (.v 7)) (.cons (.v 9) .nil)))))
  .nil)))))
def ir_law_call : ISs := (.cons (.set 3 (.call "_law_of" (.cons (.v 0) (.cons (.ix (.v 1) (.k (.int 1))) .nil))))
  (.cons (.ret (.bin .add (.tup (.cons (.ix (.v 3) (.k (.int 0))) .nil)) (.bi .tuple (.comp (.ex (.ix (.v 3) (.k (.int 1)))) (.one 4) (.k (.bl true)) (.call "_law_of" (.cons (.v 0) (.cons (.v 2) .nil)))))))
  .nil))
def ir_law_calls : ISs := (.cons (.ret (.bi .tuple (.comp (.rng1 (.v 3)) (.one 4) (.k (.bl true)) (.call "_law_call" (.cons (.v 0) (.cons (.v 1) (.cons (.v 2) .nil)))))))
  .nil)
def ir_law_kind_of : ISs := (.cons (.ret (.ix (.comp (.ex (.ix (.v 0) (.k (.int 1)))) (.one 2) (.cmp .eq (.ix (.v 2) (.k (.int 0))) (.v 1)) (.v 2)) (.k (.int 0))))
  .nil)
def ir_law_says : ISs := (.cons (.ife (.cmp .eq (.ix (.v 0) (.k (.int 0))) (.k (.str "say")))
  (.cons (.ret (.lst (.cons (.tup (.cons (.v 1) (.cons (.v 2) (.cons (.ix (.v 0) (.k (.int 1))) (.cons (.ix (.v 0) (.k (.int 2))) .nil))))) .nil)))
  .nil)
  .nil)
  (.cons (.ife (.cmp .eq (.ix (.v 0) (.k (.int 0))) (.k (.str "let")))
  (.cons (.ret (.call "_law_says" (.cons (.ix (.v 0) (.k (.int 4))) (.cons (.bin .add (.v 1) (.k (.int 1))) (.cons (.bin .add (.v 2) (.tup (.cons (.ix (.v 0) (.k (.int 1))) .nil))) .nil)))))
  .nil)
  .nil)
  (.cons (.ret (.bin .add (.call "_law_says" (.cons (.ix (.v 0) (.neg (.k (.int 2)))) (.cons (.bin .add (.v 1) (.k (.int 1))) (.cons (.v 2) .nil)))) (.call "_law_says" (.cons (.ix (.v 0) (.neg (.k (.int 1)))) (.cons (.bin .add (.v 1) (.k (.int 1))) (.cons (.v 2) .nil))))))
  .nil)))
def ir_law_tells : ISs := (.cons (.forr (.ex (.v 0)) (.many [1, 2, 3, 4])
  (.cons (.ife (.cmp .ne (.comp (.ex (.v 0)) (.one 7) (.tand (.cons (.cmp .eq (.ix (.v 7) (.k (.int 3))) (.v 4)) (.cons (.cmp .ne (.ix (.v 7) (.k (.int 2))) (.v 3)) .nil))) (.v 7)) (.lst .nil))
  (.cons (.ret (.k (.bl false)))
  .nil)
  .nil)
  (.cons (.forr (.ex (.v 3)) (.one 5)
  (.cons (.set 6 (.bin .add (.lst (.cons (.ix (.v 5) (.k (.int 1))) .nil)) (.bi .list (.ite (.cmp .eq (.ix (.v 5) (.k (.int 0))) (.k (.str "make"))) (.ix (.v 5) (.k (.int 2))) (.slc (.v 5) true false (.k (.int 3)) .bad)))))
  (.cons (.ife (.cmp .ne (.comp (.ex (.v 6)) (.one 8) (.cmp .inn (.v 8) (.v 2)) (.v 8)) (.lst .nil))
  (.cons (.ret (.k (.bl false)))
  .nil)
  .nil)
  .nil)))
  .nil)))
  (.cons (.ret (.k (.bl true)))
  .nil))
def ir_law_due : ISs := (.cons (.parF [2, 3] [true, false] (.cons (.lst (.cons (.k (.int 0)) .nil)) (.cons (.k (.int 0)) .nil)))
  (.cons (.forr (.rng1 (.bi .len (.v 1))) (.one 4)
  (.cons (.set 5 (.call "_law_says" (.cons (.ix (.call "_law_kind_of" (.cons (.v 0) (.cons (.ix (.ix (.ix (.v 1) (.v 4)) (.k (.int 0))) (.k (.int 0))) .nil))) (.k (.int 2))) (.cons (.k (.int 0)) (.cons (.tup .nil) .nil)))))
  (.cons (.set 6 (.mmL true (.comp (.ex (.v 5)) (.one 7) (.k (.bl true)) (.ix (.v 7) (.k (.int 0))))))
  (.cons (.app 2 (.mm false (.bin .add (.v 4) (.k (.int 1))) (.bin .add (.bin .add (.k (.int 1)) (.v 6)) (.v 3))))
  (.cons (.ife (.tnot (.call "_law_tells" (.cons (.v 5) .nil)))
  (.cons (.set 3 (.bin .add (.v 3) (.v 6)))
  .nil)
  .nil)
  .nil)))))
  (.cons (.frz [2])
  (.cons (.ret (.mmL true (.v 2)))
  .nil))))
def ir_law_by_hand_right : ISs := (.cons (.set 0 (.tup (.cons (.k (.str "make")) (.cons (.tup (.cons (.k (.str "k")) .nil)) (.cons (.tup (.cons (.k (.str "has")) (.cons (.k (.str "k")) (.cons (.tup (.cons (.k (.str "say")) (.cons (.tup .nil) (.cons (.k (.str "taken")) .nil)))) (.cons (.tup (.cons (.k (.str "say")) (.cons (.tup (.cons (.tup (.cons (.k (.str "make")) (.cons (.k (.str "k")) (.cons (.tup (.cons (.k (.int 0)) .nil)) .nil)))) .nil)) (.cons (.k (.str "made")) .nil)))) .nil))))) .nil)))))
  (.cons (.set 1 (.tup (.cons (.k (.str "link")) (.cons (.tup (.cons (.k (.str "a")) (.cons (.k (.str "b")) .nil))) (.cons (.tup (.cons (.k (.str "has")) (.cons (.k (.str "a")) (.cons (.tup (.cons (.k (.str "say")) (.cons (.tup (.cons (.tup (.cons (.k (.str "make")) (.cons (.k (.str "b")) (.cons (.tup (.cons (.k (.int 0)) .nil)) .nil)))) .nil)) (.cons (.k (.str "ok")) .nil)))) (.cons (.tup (.cons (.k (.str "say")) (.cons (.tup .nil) (.cons (.k (.str "ok")) .nil)))) .nil))))) .nil)))))
  (.cons (.set 2 (.tup (.cons (.k (.str "copy")) (.cons (.tup (.cons (.k (.str "a")) (.cons (.k (.str "b")) .nil))) (.cons (.tup (.cons (.k (.str "has")) (.cons (.k (.str "a")) (.cons (.tup (.cons (.k (.str "let")) (.cons (.k (.str "x")) (.cons (.k (.str "a")) (.cons (.k (.str "f")) (.cons (.tup (.cons (.k (.str "say")) (.cons (.tup (.cons (.tup (.cons (.k (.str "set")) (.cons (.k (.str "b")) (.cons (.k (.str "f")) (.cons (.k (.str "x")) .nil))))) .nil)) (.cons (.k (.str "ok")) .nil)))) .nil)))))) (.cons (.tup (.cons (.k (.str "say")) (.cons (.tup .nil) (.cons (.k (.str "no")) .nil)))) .nil))))) .nil)))))
  (.cons (.set 3 (.mk "Book" (.cons (.tup (.cons (.k (.str "f")) .nil)) (.cons (.tup (.cons (.v 0) (.cons (.v 1) (.cons (.v 2) (.cons (.tup (.cons (.k (.str "plain")) (.cons (.tup .nil) (.cons (.tup (.cons (.k (.str "say")) (.cons (.tup .nil) (.cons (.k (.str "ok")) .nil)))) .nil)))) .nil))))) .nil))))
  (.cons (.par [0, 1, 2] (.cons (.tup (.cons (.tup (.cons (.k (.str "make")) (.cons (.k (.int 1)) .nil))) (.cons (.k (.str "made")) .nil))) (.cons (.tup (.cons (.tup (.cons (.k (.str "link")) (.cons (.k (.int 1)) (.cons (.k (.int 2)) .nil)))) (.cons (.k (.str "ok")) .nil))) (.cons (.tup (.cons (.tup (.cons (.k (.str "copy")) (.cons (.k (.int 1)) (.cons (.k (.int 2)) .nil)))) (.cons (.k (.str "any")) .nil))) .nil))))
  (.cons (.set 4 (.lst (.cons (.tup .nil) (.cons (.tup (.cons (.v 0) .nil)) (.cons (.bin .mul (.tup (.cons (.v 0) .nil)) (.k (.int 9))) (.cons (.tup (.cons (.v 0) (.cons (.v 1) (.cons (.v 0) .nil)))) (.cons (.bin .add (.bin .mul (.tup (.cons (.v 1) .nil)) (.k (.int 5))) (.bin .mul (.tup (.cons (.v 0) .nil)) (.k (.int 3)))) (.cons (.bin .mul (.tup (.cons (.v 2) .nil)) (.k (.int 12))) .nil))))))))
  (.cons (.set 4 (.bin .add (.v 4) (.lst (.cons (.tup (.cons (.v 0) (.cons (.v 2) (.cons (.v 2) (.cons (.v 0) (.cons (.v 0) .nil)))))) (.cons (.bin .mul (.tup (.cons (.tup (.cons (.tup (.cons (.k (.str "plain")) .nil)) (.cons (.k (.str "ok")) .nil))) .nil)) (.k (.int 3))) (.cons (.bin .add (.bin .mul (.tup (.cons (.v 1) .nil)) (.k (.int 2))) (.bin .mul (.tup (.cons (.v 0) .nil)) (.k (.int 2)))) .nil))))))
  (.cons (.set 5 (.tup (.cons (.tup (.cons (.k (.str "make")) (.cons (.k (.str "a")) (.cons (.tup (.cons (.k (.int 0)) .nil)) .nil)))) (.cons (.tup (.cons (.k (.str "drop")) (.cons (.k (.str "a")) .nil))) .nil))))
  (.cons (.set 5 (.tup (.cons (.k (.str "has")) (.cons (.k (.str "a")) (.cons (.tup (.cons (.k (.str "say")) (.cons (.v 5) (.cons (.k (.str "ok")) .nil)))) (.cons (.tup (.cons (.k (.str "say")) (.cons (.rev (.v 5)) (.cons (.k (.str "ok")) .nil)))) .nil))))))
  (.cons (.set 6 (.bin .mul (.tup (.cons (.tup (.cons (.tup (.cons (.k (.str "flip")) (.cons (.k (.int 1)) .nil))) (.cons (.k (.str "ok")) .nil))) .nil)) (.k (.int 3))))
  (.cons (.set 7 (.bin .add (.comp (.ex (.v 4)) (.one 8) (.k (.bl true)) (.call "most_calls" (.cons (.v 3) (.cons (.v 8) .nil)))) (.lst (.cons (.call "most_calls" (.cons (.mk "Book" (.cons (.tup (.cons (.k (.str "f")) .nil)) (.cons (.tup (.cons (.tup (.cons (.k (.str "flip")) (.cons (.tup (.cons (.k (.str "a")) .nil)) (.cons (.v 5) .nil)))) .nil)) .nil))) (.cons (.v 6) .nil))) .nil))))
  (.cons (.ret (.call "_law_same" (.cons (.v 7) (.cons (.lst (.cons (.k (.int 0)) (.cons (.k (.int 1)) (.cons (.k (.int 2)) (.cons (.k (.int 3)) (.cons (.k (.int 7)) (.cons (.k (.int 12)) (.cons (.k (.int 5)) (.cons (.k (.int 1)) (.cons (.k (.int 4)) (.cons (.k (.int 3)) .nil))))))))))) .nil))))
  .nil))))))))))))
def ir_law_right : ISs := (.cons (.ife (.tnot (.call "_law_by_hand_right" .nil))
  (.cons (.ret (.k (.bl false)))
  .nil)
  .nil)
  (.cons (.forr (.rng1 (.k (.int 4))) (.one 1)
  (.cons (.parF [2, 3, 4] [false, false, true] (.cons (.bi .tuple (.call "_law_names" (.cons (.v 0) (.cons (.bin .add (.k (.int 1)) (.call "_law_take" (.cons (.v 0) (.cons (.k (.int 2)) .nil)))) .nil)))) (.cons (.call "_law_names" (.cons (.v 0) (.cons (.k (.int 3)) .nil))) (.cons (.lst .nil) .nil))))
  (.cons (.forr (.ex (.call "_law_names" (.cons (.v 0) (.cons (.k (.int 4)) .nil)))) (.one 5)
  (.cons (.app 4 (.call "_law_kind" (.cons (.v 0) (.cons (.v 2) (.cons (.v 5) (.cons (.v 3) (.cons (.k (.int 1)) (.cons (.k (.int 3)) (.cons (.slc (.lst (.cons (.k (.int 0)) (.cons (.k (.int 7)) .nil))) false true .bad (.call "_law_take" (.cons (.v 0) (.cons (.k (.int 3)) .nil)))) .nil)))))))))
  .nil))
  (.cons (.frz [4])
  (.cons (.set 6 (.tup (.cons (.v 2) (.cons (.bi .tuple (.v 4)) .nil))))
  (.cons (.set 7 (.call "_law_calls" (.cons (.v 0) (.cons (.v 6) (.cons (.call "_law_pool" (.cons (.v 0) .nil)) (.cons (.call "_law_take" (.cons (.v 0) (.cons (.k (.int 13)) .nil))) .nil))))))
  (.cons (.set 8 (.bi .tuple (.comp (.ex (.v 7)) (.one 11) (.k (.bl true)) (.tup (.cons (.v 11) (.cons (.call "_law_of" (.cons (.v 0) (.cons (.v 3) .nil))) .nil))))))
  (.cons (.frz [4])
  (.cons (.par [9, 10] (.cons (.mk "Book" (.cons (.v 2) (.cons (.v 4) .nil))) (.cons (.call "_law_due" (.cons (.v 6) (.cons (.v 8) .nil))) .nil)))
  (.cons (.ife (.tnot (.call "_law_same" (.cons (.lst (.cons (.call "most_calls" (.cons (.v 9) (.cons (.v 8) .nil))) (.cons (.callk "most_calls" ["lines", "book"] (.cons (.call "_law_mixed" (.cons (.v 0) (.cons (.v 8) .nil))) (.cons (.v 9) .nil))) .nil))) (.cons (.lst (.cons (.v 10) (.cons (.v 10) .nil))) .nil))))
  (.cons (.ret (.k (.bl false)))
  .nil)
  .nil)
  .nil))))))))))
  (.cons (.ret (.k (.bl true)))
  .nil)))
end Dl

set_option Elab.async false
set_option linter.all false
set_option maxRecDepth 100000
set_option maxHeartbeats 4000000
/-! Names, terms, changes, bodies, KINDs: what the package's tests tell, over data. -/
namespace Dl
open PySem PySem.Spec PyProof.Rows L2
def lettersS : Str := "abcdefghijklmnopqrstuvwxyz"
def isNum : D → Bool
  | .int _ => true
  | _ => false
def nameS (z : Str) : Bool := decide (0 < (z.length : Int)) && (decide ((z.length : Int) ≤ 8) && (signs z).all fun d => match d with
  | .str y => inS y lettersS
  | _ => false)
def nameD : D → Bool
  | .str z => nameS z
  | _ => false
def namesD (lo hi : Int) : D → Bool
  | .tup xs => decide (lo ≤ (xs.length : Int)) && (decide ((xs.length : Int) ≤ hi) && (xs.all nameD && match strsD xs with
    | some ys => (unlike ys).length == ys.length
    | none => false))
  | _ => false
def termD (ns : List Str) (d : D) : Bool := isNum d || hasS ns d
def partD (fs ns : List Str) : D → Bool
  | .tup ys => ys.length == fs.length && ys.all (termD ns)
  | _ => false
def changeD (fs ns : List Str) : D → Bool
  | .tup [h, t] => termD ns t && isW "drop" h
  | .tup [h, t, v] => termD ns t && (isW "make" h && partD fs ns v)
  | .tup [h, t, f, v] => termD ns t && (isW "set" h && (hasS fs f && termD ns v))
  | _ => false
def saysD (fs ns : List Str) : D → Bool
  | .tup cs => cs.all (changeD fs ns)
  | _ => false
def newD (ns : List Str) : D → Option Str
  | .str z => if nameS z && !ns.contains z then some z else none
  | _ => none
def bodyD (fs : List Str) : Nat → List Str → List D → D → Bool
  | m + 1, ns, th, .tup (.str w :: r) =>
    if w == "say" then (match r with
      | [c, nm] => nameD nm && saysD fs ns c
      | _ => false)
    else if w == "has" then (match r with
      | [t, a, b] => termD ns t && (bodyD fs m ns (th ++ [t]) a && bodyD fs m ns th b)
      | _ => false)
    else if w == "is" then (match r with
      | [t, f, v, a, b] => termD ns t && (hasA th t && (hasS fs f && (termD ns v && (bodyD fs m ns th a && bodyD fs m ns th b))))
      | _ => false)
    else if w == "let" then (match r with
      | [nm, t, f, b] => (match newD ns nm with
        | some z => termD ns t && (hasA th t && (hasS fs f && bodyD fs m (ns ++ [z]) th b))
        | none => false)
      | _ => false)
    else false
  | _, _, _, _ => false
def parsD : D → Option (List Str)
  | .tup xs => if namesD 0 2 (.tup xs) then strsD xs else none
  | _ => none
def kindD (fs : List Str) (m : Nat) : D → Bool
  | .tup [nm, ps, b] => nameD nm && (match parsD ps with
    | some ns => bodyD fs m ns [] b
    | none => false)
  | _ => false
/-! ### the promises -/
def fsNum : FS := fun ds n Q _ => ∃ d, ds = [d] ∧ d.isBox = false ∧ Q (.bl (isNum d)) n
def fsName : FS := fun ds n Q _ => ∃ d, ds = [d] ∧ d.isBox = false ∧ Q (.bl (nameD d)) n
def fsNames : FS := fun ds n Q _ => ∃ d lo hi m, ds = [d, .int lo, .int hi] ∧ hi ≤ 1000 ∧ d.dp m = true ∧ Q (.bl (namesD lo hi d)) n
def fsTerm : FS := fun ds n Q _ => ∃ d ns, ds = [d, .tup (ns.map .str)] ∧ d.isBox = false ∧ Q (.bl (termD ns d)) n
def fsChange : FS := fun ds n Q _ => ∃ fs d ns m, ds = [.tup (fs.map .str), d, .tup (ns.map .str)] ∧ d.dp m = true ∧ Q (.bl (changeD fs ns d)) n
def fsBody (m : Nat) : FS := fun ds n Q _ => ∃ fs d ns th, ds = [.tup (fs.map .str), d, .tup (ns.map .str), .tup th] ∧ d.dp m = true ∧ th.all D.atom = true ∧ th.length + m ≤ 1000 ∧ ns.length + m ≤ 1000 ∧ Q (.bl (bodyD fs m ns th d)) n
def fsKind (m : Nat) : FS := fun ds n Q _ => ∃ fs d, ds = [.tup (fs.map .str), d] ∧ d.dp (m + 1) = true ∧ Q (.bl (kindD fs m d)) n
section
variable {T : Tab} {n : Nat} {Q : D → Nat → Prop} {E : QX}
theorem b_is_number {ds : List D} (h : fsNum ds n Q E) : wB T ir_is_number (ent0 ["thing"] ds) n (eQ Q E) := by
  obtain ⟨d, rfl, hb, q⟩ := h
  unfold ir_is_number ent0
  simp only [wB, wS, wE, wA, wAnd, wOr, wAndT, wOrT, wP, wI, tru, eQ, exAt_eq, IAs.isNil, List.map_cons, List.map_nil, List.cons_append, List.nil_append, List.getElem?_cons_zero, List.getElem?_cons_succ, List.set_cons_zero, List.set_cons_succ, Bool.false_eq_true, if_false, if_true, if_pos, List.any_cons, List.any_nil, ofO_some, ofO_none, setMany, bindT, D.truth, D.isTy, D.isBox, bi_len_tup, bi_len_list, bi_len_str, bi_tuple_list, bi_tuple_tup, bi_list_list, bi_list_tup, bi_int_int, eq_int, ne_int, lt_int, le_int, gt_int, ge_int, Bool.or_false, Bool.or_true, Bool.false_or, Bool.true_or, Bool.and_true, Bool.true_and, Bool.not_true, Bool.not_false, Bool.and_false, Bool.false_and, Option.map_some, reduceCtorEq, and_true, true_and, and_self]
  cases d <;> simp_all [D.isTy, D.truth, isNum, D.isBox]
theorem b_is_name {ds : List D} (g1 : T.gv "LONGEST" = some (.int 8)) (g2 : T.gv "LETTERS" = some (.str lettersS)) (h : fsName ds n Q E) : wB T ir_is_name (ent0 ["thing", "sign"] ds) n (eQ Q E) := by
  obtain ⟨d, rfl, hb, q⟩ := h
  unfold ir_is_name ent0
  simp only [wB, wS, wE, wA, wAnd, wOr, wAndT, wOrT, wP, wI, tru, eQ, exAt_eq, IAs.isNil, List.map_cons, List.map_nil, List.cons_append, List.nil_append, List.getElem?_cons_zero, List.getElem?_cons_succ, List.set_cons_zero, List.set_cons_succ, Bool.false_eq_true, if_false, if_true, if_pos, List.any_cons, List.any_nil, ofO_some, ofO_none, setMany, bindT, D.truth, D.isTy, D.isBox, bi_len_tup, bi_len_list, bi_len_str, bi_tuple_list, bi_tuple_tup, bi_list_list, bi_list_tup, bi_int_int, eq_int, ne_int, lt_int, le_int, gt_int, ge_int, Bool.or_false, Bool.or_true, Bool.false_or, Bool.true_or, Bool.and_true, Bool.true_and, Bool.not_true, Bool.not_false, Bool.and_false, Bool.false_and, Option.map_some, reduceCtorEq, and_true, true_and, and_self, g1, g2, List.length_cons, List.length_nil, List.replicate]
  refine ⟨hb, ?_⟩
  cases d with
  | str z =>
    simp only [wB, wS, wE, wA, wAnd, wOr, wAndT, wOrT, wP, wI, tru, eQ, exAt_eq, IAs.isNil, List.map_cons, List.map_nil, List.cons_append, List.nil_append, List.getElem?_cons_zero, List.getElem?_cons_succ, List.set_cons_zero, List.set_cons_succ, Bool.false_eq_true, if_false, if_true, if_pos, List.any_cons, List.any_nil, ofO_some, ofO_none, setMany, bindT, D.truth, D.isTy, D.isBox, bi_len_tup, bi_len_list, bi_len_str, bi_tuple_list, bi_tuple_tup, bi_list_list, bi_list_tup, bi_int_int, eq_int, ne_int, lt_int, le_int, gt_int, ge_int, Bool.or_false, Bool.or_true, Bool.false_or, Bool.true_or, Bool.and_true, Bool.true_and, Bool.not_true, Bool.not_false, Bool.and_false, Bool.false_and, Option.map_some, reduceCtorEq, and_true, true_and, and_self, bi_len_str, lt_int, le_int, itemsD]
    by_cases h1 : 0 < (z.length : Int)
    · rw [decide_eq_true h1]
      simp only [if_true, ofO_some]
      by_cases h2 : (z.length : Int) ≤ 8
      · rw [decide_eq_true h2]
        simp only [if_true, ofO_some]
        refine all_comp (f := fun d => match d with
          | .str y => inS y lettersS
          | _ => false) (fun d hd n k hk => ?_) ?_
        · obtain ⟨c, _, rfl⟩ := List.mem_map.mp hd
          exact hk
        · rw [nameD, nameS, decide_eq_true h1, decide_eq_true h2, Bool.true_and, Bool.true_and] at q
          exact q
      · rw [decide_eq_false h2]
        rw [nameD, nameS, decide_eq_true h1, decide_eq_false h2, Bool.true_and, Bool.false_and] at q
        exact q
    · rw [decide_eq_false h1]
      rw [nameD, nameS, decide_eq_false h1, Bool.false_and] at q
      exact q
  | _ => simpa [nameD] using q
theorem strs_names : ∀ {xs : List D}, xs.all nameD = true → ∃ ys, strsD xs = some ys ∧ xs = ys.map .str
  | [], _ => ⟨[], rfl, rfl⟩
  | x :: xs, h => by
    rw [List.all_cons, Bool.and_eq_true] at h
    obtain ⟨ys, e1, e2⟩ := strs_names h.2
    cases x with
    | str z => exact ⟨z :: ys, by rw [strsD, e1]; rfl, by rw [e2]; rfl⟩
    | _ => exact nomatch h.1
theorem b_are_names {ds : List D} (f1 : T.fs "is_name" = some fsName) (h : fsNames ds n Q E) : wB T ir_are_names (ent0 ["thing", "least", "most", "name"] ds) n (eQ Q E) := by
  obtain ⟨d, lo, hi, m, rfl, hh, hd, q⟩ := h
  unfold ir_are_names ent0
  simp only [wB, wS, wE, wA, wAnd, wOr, wAndT, wOrT, wP, wI, tru, eQ, exAt_eq, IAs.isNil, List.map_cons, List.map_nil, List.cons_append, List.nil_append, List.getElem?_cons_zero, List.getElem?_cons_succ, List.set_cons_zero, List.set_cons_succ, Bool.false_eq_true, if_false, if_true, if_pos, List.any_cons, List.any_nil, ofO_some, ofO_none, setMany, bindT, D.truth, D.isTy, D.isBox, bi_len_tup, bi_len_list, bi_len_str, bi_tuple_list, bi_tuple_tup, bi_list_list, bi_list_tup, bi_int_int, eq_int, ne_int, lt_int, le_int, gt_int, ge_int, Bool.or_false, Bool.or_true, Bool.false_or, Bool.true_or, Bool.and_true, Bool.true_and, Bool.not_true, Bool.not_false, Bool.and_false, Bool.false_and, Option.map_some, reduceCtorEq, and_true, true_and, and_self, f1, List.length_cons, List.length_nil, List.replicate]
  refine ⟨dp_nb hd, ?_⟩
  cases d with
  | tup xs =>
    obtain ⟨j, rfl, hx⟩ := dp_tup hd
    simp only [wB, wS, wE, wA, wAnd, wOr, wAndT, wOrT, wP, wI, tru, eQ, exAt_eq, IAs.isNil, List.map_cons, List.map_nil, List.cons_append, List.nil_append, List.getElem?_cons_zero, List.getElem?_cons_succ, List.set_cons_zero, List.set_cons_succ, Bool.false_eq_true, if_false, if_true, if_pos, List.any_cons, List.any_nil, ofO_some, ofO_none, setMany, bindT, D.truth, D.isTy, D.isBox, bi_len_tup, bi_len_list, bi_len_str, bi_tuple_list, bi_tuple_tup, bi_list_list, bi_list_tup, bi_int_int, eq_int, ne_int, lt_int, le_int, gt_int, ge_int, Bool.or_false, Bool.or_true, Bool.false_or, Bool.true_or, Bool.and_true, Bool.true_and, Bool.not_true, Bool.not_false, Bool.and_false, Bool.false_and, Option.map_some, reduceCtorEq, and_true, true_and, and_self, bi_len_tup, lt_int, le_int, itemsD]
    by_cases h1 : lo ≤ (xs.length : Int)
    · rw [decide_eq_true h1]
      simp only [wB, wS, wE, wA, wAnd, wOr, wAndT, wOrT, wP, wI, tru, eQ, exAt_eq, IAs.isNil, List.map_cons, List.map_nil, List.cons_append, List.nil_append, List.getElem?_cons_zero, List.getElem?_cons_succ, List.set_cons_zero, List.set_cons_succ, Bool.false_eq_true, if_false, if_true, if_pos, List.any_cons, List.any_nil, ofO_some, ofO_none, setMany, bindT, D.truth, D.isTy, D.isBox, bi_len_tup, bi_len_list, bi_len_str, bi_tuple_list, bi_tuple_tup, bi_list_list, bi_list_tup, bi_int_int, eq_int, ne_int, lt_int, le_int, gt_int, ge_int, Bool.or_false, Bool.or_true, Bool.false_or, Bool.true_or, Bool.and_true, Bool.true_and, Bool.not_true, Bool.not_false, Bool.and_false, Bool.false_and, Option.map_some, reduceCtorEq, and_true, true_and, and_self]
      by_cases h2 : (xs.length : Int) ≤ hi
      · rw [decide_eq_true h2]
        simp only [wB, wS, wE, wA, wAnd, wOr, wAndT, wOrT, wP, wI, tru, eQ, exAt_eq, IAs.isNil, List.map_cons, List.map_nil, List.cons_append, List.nil_append, List.getElem?_cons_zero, List.getElem?_cons_succ, List.set_cons_zero, List.set_cons_succ, Bool.false_eq_true, if_false, if_true, if_pos, List.any_cons, List.any_nil, ofO_some, ofO_none, setMany, bindT, D.truth, D.isTy, D.isBox, bi_len_tup, bi_len_list, bi_len_str, bi_tuple_list, bi_tuple_tup, bi_list_list, bi_list_tup, bi_int_int, eq_int, ne_int, lt_int, le_int, gt_int, ge_int, Bool.or_false, Bool.or_true, Bool.false_or, Bool.true_or, Bool.and_true, Bool.true_and, Bool.not_true, Bool.not_false, Bool.and_false, Bool.false_and, Option.map_some, reduceCtorEq, and_true, true_and, and_self]
        refine all_comp (f := nameD) (Q := fun z n => _) (fun d hd n k hk => ⟨d, rfl, dp_nb (hx d hd), hk⟩) ?_
        cases h3 : xs.all nameD with
        | true =>
          obtain ⟨ys, e1, e2⟩ := strs_names h3
          have l1 : ys.length = xs.length := by rw [e2, List.length_map]
          simp only [wB, wS, wE, wA, wAnd, wOr, wAndT, wOrT, wP, wI, tru, eQ, exAt_eq, IAs.isNil, List.map_cons, List.map_nil, List.cons_append, List.nil_append, List.getElem?_cons_zero, List.getElem?_cons_succ, List.set_cons_zero, List.set_cons_succ, Bool.false_eq_true, if_false, if_true, if_pos, List.any_cons, List.any_nil, ofO_some, ofO_none, setMany, bindT, D.truth, D.isTy, D.isBox, bi_len_tup, bi_len_list, bi_len_str, bi_tuple_list, bi_tuple_tup, bi_list_list, bi_list_tup, bi_int_int, eq_int, ne_int, lt_int, le_int, gt_int, ge_int, Bool.or_false, Bool.or_true, Bool.false_or, Bool.true_or, Bool.and_true, Bool.true_and, Bool.not_true, Bool.not_false, Bool.and_false, Bool.false_and, Option.map_some, reduceCtorEq, and_true, true_and, and_self, e1]
          refine ⟨by omega, ?_⟩
          rw [namesD, decide_eq_true h1, decide_eq_true h2, h3, e1, Bool.true_and, Bool.true_and, Bool.true_and] at q
          have e3 : ((((unlike ys).length : Nat) : Int) == ((xs.length : Nat) : Int)) = ((unlike ys).length == ys.length) := by
            rw [l1, Bool.eq_iff_iff, beq_iff_eq, beq_iff_eq]
            omega
          rw [e3]
          exact q
        | false =>
          simp only [wB, wS, wE, wA, wAnd, wOr, wAndT, wOrT, wP, wI, tru, eQ, exAt_eq, IAs.isNil, List.map_cons, List.map_nil, List.cons_append, List.nil_append, List.getElem?_cons_zero, List.getElem?_cons_succ, List.set_cons_zero, List.set_cons_succ, Bool.false_eq_true, if_false, if_true, if_pos, List.any_cons, List.any_nil, ofO_some, ofO_none, setMany, bindT, D.truth, D.isTy, D.isBox, bi_len_tup, bi_len_list, bi_len_str, bi_tuple_list, bi_tuple_tup, bi_list_list, bi_list_tup, bi_int_int, eq_int, ne_int, lt_int, le_int, gt_int, ge_int, Bool.or_false, Bool.or_true, Bool.false_or, Bool.true_or, Bool.and_true, Bool.true_and, Bool.not_true, Bool.not_false, Bool.and_false, Bool.false_and, Option.map_some, reduceCtorEq, and_true, true_and, and_self]
          rw [namesD, h3, Bool.false_and, Bool.and_false, Bool.and_false] at q
          exact q
      · rw [decide_eq_false h2]
        simp only [wB, wS, wE, wA, wAnd, wOr, wAndT, wOrT, wP, wI, tru, eQ, exAt_eq, IAs.isNil, List.map_cons, List.map_nil, List.cons_append, List.nil_append, List.getElem?_cons_zero, List.getElem?_cons_succ, List.set_cons_zero, List.set_cons_succ, Bool.false_eq_true, if_false, if_true, if_pos, List.any_cons, List.any_nil, ofO_some, ofO_none, setMany, bindT, D.truth, D.isTy, D.isBox, bi_len_tup, bi_len_list, bi_len_str, bi_tuple_list, bi_tuple_tup, bi_list_list, bi_list_tup, bi_int_int, eq_int, ne_int, lt_int, le_int, gt_int, ge_int, Bool.or_false, Bool.or_true, Bool.false_or, Bool.true_or, Bool.and_true, Bool.true_and, Bool.not_true, Bool.not_false, Bool.and_false, Bool.false_and, Option.map_some, reduceCtorEq, and_true, true_and, and_self]
        rw [namesD, decide_eq_false h2, Bool.false_and, Bool.and_false] at q
        exact q
    · rw [decide_eq_false h1]
      simp only [wB, wS, wE, wA, wAnd, wOr, wAndT, wOrT, wP, wI, tru, eQ, exAt_eq, IAs.isNil, List.map_cons, List.map_nil, List.cons_append, List.nil_append, List.getElem?_cons_zero, List.getElem?_cons_succ, List.set_cons_zero, List.set_cons_succ, Bool.false_eq_true, if_false, if_true, if_pos, List.any_cons, List.any_nil, ofO_some, ofO_none, setMany, bindT, D.truth, D.isTy, D.isBox, bi_len_tup, bi_len_list, bi_len_str, bi_tuple_list, bi_tuple_tup, bi_list_list, bi_list_tup, bi_int_int, eq_int, ne_int, lt_int, le_int, gt_int, ge_int, Bool.or_false, Bool.or_true, Bool.false_or, Bool.true_or, Bool.and_true, Bool.true_and, Bool.not_true, Bool.not_false, Bool.and_false, Bool.false_and, Option.map_some, reduceCtorEq, and_true, true_and, and_self]
      rw [namesD, decide_eq_false h1, Bool.false_and] at q
      exact q
  | _ =>
    simp only [wB, wS, wE, wA, wAnd, wOr, wAndT, wOrT, wP, wI, tru, eQ, exAt_eq, IAs.isNil, List.map_cons, List.map_nil, List.cons_append, List.nil_append, List.getElem?_cons_zero, List.getElem?_cons_succ, List.set_cons_zero, List.set_cons_succ, Bool.false_eq_true, if_false, if_true, if_pos, List.any_cons, List.any_nil, ofO_some, ofO_none, setMany, bindT, D.truth, D.isTy, D.isBox, bi_len_tup, bi_len_list, bi_len_str, bi_tuple_list, bi_tuple_tup, bi_list_list, bi_list_tup, bi_int_int, eq_int, ne_int, lt_int, le_int, gt_int, ge_int, Bool.or_false, Bool.or_true, Bool.false_or, Bool.true_or, Bool.and_true, Bool.true_and, Bool.not_true, Bool.not_false, Bool.and_false, Bool.false_and, Option.map_some, reduceCtorEq, and_true, true_and, and_self]
    exact q
theorem b_is_term {ds : List D} (f1 : T.fs "is_number" = some fsNum) (h : fsTerm ds n Q E) : wB T ir_is_term (ent0 ["thing", "names"] ds) n (eQ Q E) := by
  obtain ⟨d, ns, rfl, hb, q⟩ := h
  unfold ir_is_term ent0
  simp only [wB, wS, wE, wA, wAnd, wOr, wAndT, wOrT, wP, wI, tru, eQ, exAt_eq, IAs.isNil, List.map_cons, List.map_nil, List.cons_append, List.nil_append, List.getElem?_cons_zero, List.getElem?_cons_succ, List.set_cons_zero, List.set_cons_succ, Bool.false_eq_true, if_false, if_true, if_pos, List.any_cons, List.any_nil, ofO_some, ofO_none, setMany, bindT, D.truth, D.isTy, D.isBox, bi_len_tup, bi_len_list, bi_len_str, bi_tuple_list, bi_tuple_tup, bi_list_list, bi_list_tup, bi_int_int, eq_int, ne_int, lt_int, le_int, gt_int, ge_int, Bool.or_false, Bool.or_true, Bool.false_or, Bool.true_or, Bool.and_true, Bool.true_and, Bool.not_true, Bool.not_false, Bool.and_false, Bool.false_and, Option.map_some, reduceCtorEq, and_true, true_and, and_self, f1, List.length_cons, List.length_nil, List.replicate]
  refine ⟨d, rfl, hb, ?_⟩
  cases d with
  | str z =>
    simp only [isNum, wB, wS, wE, wA, wAnd, wOr, wAndT, wOrT, wP, wI, tru, eQ, exAt_eq, IAs.isNil, List.map_cons, List.map_nil, List.cons_append, List.nil_append, List.getElem?_cons_zero, List.getElem?_cons_succ, List.set_cons_zero, List.set_cons_succ, Bool.false_eq_true, if_false, if_true, if_pos, List.any_cons, List.any_nil, ofO_some, ofO_none, setMany, bindT, D.truth, D.isTy, D.isBox, bi_len_tup, bi_len_list, bi_len_str, bi_tuple_list, bi_tuple_tup, bi_list_list, bi_list_tup, bi_int_int, eq_int, ne_int, lt_int, le_int, gt_int, ge_int, Bool.or_false, Bool.or_true, Bool.false_or, Bool.true_or, Bool.and_true, Bool.true_and, Bool.not_true, Bool.not_false, Bool.and_false, Bool.false_and, Option.map_some, reduceCtorEq, and_true, true_and, and_self]
    rw [in_strs_tup (x := .str z) rfl]
    exact q
  | int i => exact q
  | box => cases hb
  | obj _ _ => cases hb
  | pin _ => cases hb
  | _ => simp only [isNum, wB, wS, wE, wA, wAnd, wOr, wAndT, wOrT, wP, wI, tru, eQ, exAt_eq, IAs.isNil, List.map_cons, List.map_nil, List.cons_append, List.nil_append, List.getElem?_cons_zero, List.getElem?_cons_succ, List.set_cons_zero, List.set_cons_succ, Bool.false_eq_true, if_false, if_true, if_pos, List.any_cons, List.any_nil, ofO_some, ofO_none, setMany, bindT, D.truth, D.isTy, D.isBox, bi_len_tup, bi_len_list, bi_len_str, bi_tuple_list, bi_tuple_tup, bi_list_list, bi_list_tup, bi_int_int, eq_int, ne_int, lt_int, le_int, gt_int, ge_int, Bool.or_false, Bool.or_true, Bool.false_or, Bool.true_or, Bool.and_true, Bool.true_and, Bool.not_true, Bool.not_false, Bool.and_false, Bool.false_and, Option.map_some, reduceCtorEq, and_true, true_and, and_self]; exact q
theorem b_is_change {ds : List D} (f1 : T.fs "is_term" = some fsTerm) (h : fsChange ds n Q E) : wB T ir_is_change (ent0 ["fields", "thing", "names", "value"] ds) n (eQ Q E) := by
  obtain ⟨fs, d, ns, m, rfl, hd, q⟩ := h
  unfold ir_is_change ent0
  simp only [wB, wS, wE, wA, wAnd, wOr, wAndT, wOrT, wP, wI, tru, eQ, exAt_eq, IAs.isNil, List.map_cons, List.map_nil, List.cons_append, List.nil_append, List.getElem?_cons_zero, List.getElem?_cons_succ, List.set_cons_zero, List.set_cons_succ, Bool.false_eq_true, if_false, if_true, if_pos, List.any_cons, List.any_nil, ofO_some, ofO_none, setMany, bindT, D.truth, D.isTy, D.isBox, bi_len_tup, bi_len_list, bi_len_str, bi_tuple_list, bi_tuple_tup, bi_list_list, bi_list_tup, bi_int_int, eq_int, ne_int, lt_int, le_int, gt_int, ge_int, Bool.or_false, Bool.or_true, Bool.false_or, Bool.true_or, Bool.and_true, Bool.true_and, Bool.not_true, Bool.not_false, Bool.and_false, Bool.false_and, Option.map_some, reduceCtorEq, and_true, true_and, and_self, f1, List.length_cons, List.length_nil, List.replicate]
  refine ⟨dp_nb hd, ?_⟩
  cases d with
  | tup xs =>
    obtain ⟨j, rfl, hx⟩ := dp_tup hd
    simp only [wB, wS, wE, wA, wAnd, wOr, wAndT, wOrT, wP, wI, tru, eQ, exAt_eq, IAs.isNil, List.map_cons, List.map_nil, List.cons_append, List.nil_append, List.getElem?_cons_zero, List.getElem?_cons_succ, List.set_cons_zero, List.set_cons_succ, Bool.false_eq_true, if_false, if_true, if_pos, List.any_cons, List.any_nil, ofO_some, ofO_none, setMany, bindT, D.truth, D.isTy, D.isBox, bi_len_tup, bi_len_list, bi_len_str, bi_tuple_list, bi_tuple_tup, bi_list_list, bi_list_tup, bi_int_int, eq_int, ne_int, lt_int, le_int, gt_int, ge_int, Bool.or_false, Bool.or_true, Bool.false_or, Bool.true_or, Bool.and_true, Bool.true_and, Bool.not_true, Bool.not_false, Bool.and_false, Bool.false_and, Option.map_some, reduceCtorEq, and_true, true_and, and_self]
    match xs, hx, q with
    | [], _, q => exact q
    | [a], _, q => exact q
    | a :: t :: r, hx, q =>
      have na : a.isBox = false := dp_nb (hx a (by simp))
      have nt : t.isBox = false := dp_nb (hx t (by simp))
      have l2 : decide (((a :: t :: r).length : Int) < 2) = false := by
        rw [decide_eq_false_iff_not]
        simp only [List.length_cons]
        omega
      rw [l2]
      simp only [wB, wS, wE, wA, wAnd, wOr, wAndT, wOrT, wP, wI, tru, eQ, exAt_eq, IAs.isNil, List.map_cons, List.map_nil, List.cons_append, List.nil_append, List.getElem?_cons_zero, List.getElem?_cons_succ, List.set_cons_zero, List.set_cons_succ, Bool.false_eq_true, if_false, if_true, if_pos, List.any_cons, List.any_nil, ofO_some, ofO_none, setMany, bindT, D.truth, D.isTy, D.isBox, bi_len_tup, bi_len_list, bi_len_str, bi_tuple_list, bi_tuple_tup, bi_list_list, bi_list_tup, bi_int_int, eq_int, ne_int, lt_int, le_int, gt_int, ge_int, Bool.or_false, Bool.or_true, Bool.false_or, Bool.true_or, Bool.and_true, Bool.true_and, Bool.not_true, Bool.not_false, Bool.and_false, Bool.false_and, Option.map_some, reduceCtorEq, and_true, true_and, and_self, ix0, ix1, eq_w na, ne_w na]
      refine ⟨t, ns, rfl, nt, ?_⟩
      cases ht : termD ns t with
      | false =>
        simp only [wB, wS, wE, wA, wAnd, wOr, wAndT, wOrT, wP, wI, tru, eQ, exAt_eq, IAs.isNil, List.map_cons, List.map_nil, List.cons_append, List.nil_append, List.getElem?_cons_zero, List.getElem?_cons_succ, List.set_cons_zero, List.set_cons_succ, Bool.false_eq_true, if_false, if_true, if_pos, List.any_cons, List.any_nil, ofO_some, ofO_none, setMany, bindT, D.truth, D.isTy, D.isBox, bi_len_tup, bi_len_list, bi_len_str, bi_tuple_list, bi_tuple_tup, bi_list_list, bi_list_tup, bi_int_int, eq_int, ne_int, lt_int, le_int, gt_int, ge_int, Bool.or_false, Bool.or_true, Bool.false_or, Bool.true_or, Bool.and_true, Bool.true_and, Bool.not_true, Bool.not_false, Bool.and_false, Bool.false_and, Option.map_some, reduceCtorEq, and_true, true_and, and_self]
        have e : changeD fs ns (.tup (a :: t :: r)) = false := by
          match r with
          | [] => simp [changeD, ht]
          | [_] => simp [changeD, ht]
          | [_, _] => simp [changeD, ht]
          | _ :: _ :: _ :: _ => rfl
        rw [e] at q
        exact q
      | true =>
        simp only [wB, wS, wE, wA, wAnd, wOr, wAndT, wOrT, wP, wI, tru, eQ, exAt_eq, IAs.isNil, List.map_cons, List.map_nil, List.cons_append, List.nil_append, List.getElem?_cons_zero, List.getElem?_cons_succ, List.set_cons_zero, List.set_cons_succ, Bool.false_eq_true, if_false, if_true, if_pos, List.any_cons, List.any_nil, ofO_some, ofO_none, setMany, bindT, D.truth, D.isTy, D.isBox, bi_len_tup, bi_len_list, bi_len_str, bi_tuple_list, bi_tuple_tup, bi_list_list, bi_list_tup, bi_int_int, eq_int, ne_int, lt_int, le_int, gt_int, ge_int, Bool.or_false, Bool.or_true, Bool.false_or, Bool.true_or, Bool.and_true, Bool.true_and, Bool.not_true, Bool.not_false, Bool.and_false, Bool.false_and, Option.map_some, reduceCtorEq, and_true, true_and, and_self]
        cases h1 : isW "drop" a with
        | true =>
          cases isW_of h1
          simp only [wB, wS, wE, wA, wAnd, wOr, wAndT, wOrT, wP, wI, tru, eQ, exAt_eq, IAs.isNil, List.map_cons, List.map_nil, List.cons_append, List.nil_append, List.getElem?_cons_zero, List.getElem?_cons_succ, List.set_cons_zero, List.set_cons_succ, Bool.false_eq_true, if_false, if_true, if_pos, List.any_cons, List.any_nil, ofO_some, ofO_none, setMany, bindT, D.truth, D.isTy, D.isBox, bi_len_tup, bi_len_list, bi_len_str, bi_tuple_list, bi_tuple_tup, bi_list_list, bi_list_tup, bi_int_int, eq_int, ne_int, lt_int, le_int, gt_int, ge_int, Bool.or_false, Bool.or_true, Bool.false_or, Bool.true_or, Bool.and_true, Bool.true_and, Bool.not_true, Bool.not_false, Bool.and_false, Bool.false_and, Option.map_some, reduceCtorEq, and_true, true_and, and_self]
          match r, q with
          | [], q =>
            rw [changeD, ht, h1] at q
            exact q
          | [v], q => exact (by rw [changeD, ht] at q; exact q)
          | [f, v], q => exact (by rw [changeD, ht] at q; exact q)
          | x1 :: x2 :: x3 :: r, q =>
            have e : (((D.str "drop" :: t :: x1 :: x2 :: x3 :: r).length : Int) == 2) = false := by
              rw [beq_eq_false_iff_ne]
              simp only [List.length_cons]
              omega
            rw [e]
            exact q
        | false =>
          simp only [wB, wS, wE, wA, wAnd, wOr, wAndT, wOrT, wP, wI, tru, eQ, exAt_eq, IAs.isNil, List.map_cons, List.map_nil, List.cons_append, List.nil_append, List.getElem?_cons_zero, List.getElem?_cons_succ, List.set_cons_zero, List.set_cons_succ, Bool.false_eq_true, if_false, if_true, if_pos, List.any_cons, List.any_nil, ofO_some, ofO_none, setMany, bindT, D.truth, D.isTy, D.isBox, bi_len_tup, bi_len_list, bi_len_str, bi_tuple_list, bi_tuple_tup, bi_list_list, bi_list_tup, bi_int_int, eq_int, ne_int, lt_int, le_int, gt_int, ge_int, Bool.or_false, Bool.or_true, Bool.false_or, Bool.true_or, Bool.and_true, Bool.true_and, Bool.not_true, Bool.not_false, Bool.and_false, Bool.false_and, Option.map_some, reduceCtorEq, and_true, true_and, and_self]
          cases h2 : isW "set" a with
          | true =>
            cases isW_of h2
            simp only [wB, wS, wE, wA, wAnd, wOr, wAndT, wOrT, wP, wI, tru, eQ, exAt_eq, IAs.isNil, List.map_cons, List.map_nil, List.cons_append, List.nil_append, List.getElem?_cons_zero, List.getElem?_cons_succ, List.set_cons_zero, List.set_cons_succ, Bool.false_eq_true, if_false, if_true, if_pos, List.any_cons, List.any_nil, ofO_some, ofO_none, setMany, bindT, D.truth, D.isTy, D.isBox, bi_len_tup, bi_len_list, bi_len_str, bi_tuple_list, bi_tuple_tup, bi_list_list, bi_list_tup, bi_int_int, eq_int, ne_int, lt_int, le_int, gt_int, ge_int, Bool.or_false, Bool.or_true, Bool.false_or, Bool.true_or, Bool.and_true, Bool.true_and, Bool.not_true, Bool.not_false, Bool.and_false, Bool.false_and, Option.map_some, reduceCtorEq, and_true, true_and, and_self]
            match r, hx, q with
            | [], _, q => exact (by rw [changeD, ht] at q; exact q)
            | [v], _, q => exact (by rw [changeD, ht] at q; exact q)
            | [f, v], hx, q =>
              have nf : f.isBox = false := dp_nb (hx f (by simp))
              have nv : v.isBox = false := dp_nb (hx v (by simp))
              rw [changeD, ht, h2, Bool.true_and, Bool.true_and] at q
              simp only [wB, wS, wE, wA, wAnd, wOr, wAndT, wOrT, wP, wI, tru, eQ, exAt_eq, IAs.isNil, List.map_cons, List.map_nil, List.cons_append, List.nil_append, List.getElem?_cons_zero, List.getElem?_cons_succ, List.set_cons_zero, List.set_cons_succ, Bool.false_eq_true, if_false, if_true, if_pos, List.any_cons, List.any_nil, ofO_some, ofO_none, setMany, bindT, D.truth, D.isTy, D.isBox, bi_len_tup, bi_len_list, bi_len_str, bi_tuple_list, bi_tuple_tup, bi_list_list, bi_list_tup, bi_int_int, eq_int, ne_int, lt_int, le_int, gt_int, ge_int, Bool.or_false, Bool.or_true, Bool.false_or, Bool.true_or, Bool.and_true, Bool.true_and, Bool.not_true, Bool.not_false, Bool.and_false, Bool.false_and, Option.map_some, reduceCtorEq, and_true, true_and, and_self, ix2, ix3, in_strs_tup nf]
              rw [if_pos (show ((([D.str "set", t, f, v] : List D).length : Int) == 4) = true from rfl)]
              cases h3 : hasS fs f with
              | true =>
                rw [h3] at q
                simp only [wB, wS, wE, wA, wAnd, wOr, wAndT, wOrT, wP, wI, tru, eQ, exAt_eq, IAs.isNil, List.map_cons, List.map_nil, List.cons_append, List.nil_append, List.getElem?_cons_zero, List.getElem?_cons_succ, List.set_cons_zero, List.set_cons_succ, Bool.false_eq_true, if_false, if_true, if_pos, List.any_cons, List.any_nil, ofO_some, ofO_none, setMany, bindT, D.truth, D.isTy, D.isBox, bi_len_tup, bi_len_list, bi_len_str, bi_tuple_list, bi_tuple_tup, bi_list_list, bi_list_tup, bi_int_int, eq_int, ne_int, lt_int, le_int, gt_int, ge_int, Bool.or_false, Bool.or_true, Bool.false_or, Bool.true_or, Bool.and_true, Bool.true_and, Bool.not_true, Bool.not_false, Bool.and_false, Bool.false_and, Option.map_some, reduceCtorEq, and_true, true_and, and_self]
                exact ⟨v, ns, rfl, nv, q⟩
              | false =>
                rw [h3] at q
                simp only [wB, wS, wE, wA, wAnd, wOr, wAndT, wOrT, wP, wI, tru, eQ, exAt_eq, IAs.isNil, List.map_cons, List.map_nil, List.cons_append, List.nil_append, List.getElem?_cons_zero, List.getElem?_cons_succ, List.set_cons_zero, List.set_cons_succ, Bool.false_eq_true, if_false, if_true, if_pos, List.any_cons, List.any_nil, ofO_some, ofO_none, setMany, bindT, D.truth, D.isTy, D.isBox, bi_len_tup, bi_len_list, bi_len_str, bi_tuple_list, bi_tuple_tup, bi_list_list, bi_list_tup, bi_int_int, eq_int, ne_int, lt_int, le_int, gt_int, ge_int, Bool.or_false, Bool.or_true, Bool.false_or, Bool.true_or, Bool.and_true, Bool.true_and, Bool.not_true, Bool.not_false, Bool.and_false, Bool.false_and, Option.map_some, reduceCtorEq, and_true, true_and, and_self]
                exact q
            | x1 :: x2 :: x3 :: r, _, q =>
              have e : (((D.str "set" :: t :: x1 :: x2 :: x3 :: r).length : Int) == 4) = false := by
                rw [beq_eq_false_iff_ne]
                simp only [List.length_cons]
                omega
              rw [e]
              exact q
          | false =>
            simp only [wB, wS, wE, wA, wAnd, wOr, wAndT, wOrT, wP, wI, tru, eQ, exAt_eq, IAs.isNil, List.map_cons, List.map_nil, List.cons_append, List.nil_append, List.getElem?_cons_zero, List.getElem?_cons_succ, List.set_cons_zero, List.set_cons_succ, Bool.false_eq_true, if_false, if_true, if_pos, List.any_cons, List.any_nil, ofO_some, ofO_none, setMany, bindT, D.truth, D.isTy, D.isBox, bi_len_tup, bi_len_list, bi_len_str, bi_tuple_list, bi_tuple_tup, bi_list_list, bi_list_tup, bi_int_int, eq_int, ne_int, lt_int, le_int, gt_int, ge_int, Bool.or_false, Bool.or_true, Bool.false_or, Bool.true_or, Bool.and_true, Bool.true_and, Bool.not_true, Bool.not_false, Bool.and_false, Bool.false_and, Option.map_some, reduceCtorEq, and_true, true_and, and_self]
            cases h3 : isW "make" a with
            | false =>
              simp only [wB, wS, wE, wA, wAnd, wOr, wAndT, wOrT, wP, wI, tru, eQ, exAt_eq, IAs.isNil, List.map_cons, List.map_nil, List.cons_append, List.nil_append, List.getElem?_cons_zero, List.getElem?_cons_succ, List.set_cons_zero, List.set_cons_succ, Bool.false_eq_true, if_false, if_true, if_pos, List.any_cons, List.any_nil, ofO_some, ofO_none, setMany, bindT, D.truth, D.isTy, D.isBox, bi_len_tup, bi_len_list, bi_len_str, bi_tuple_list, bi_tuple_tup, bi_list_list, bi_list_tup, bi_int_int, eq_int, ne_int, lt_int, le_int, gt_int, ge_int, Bool.or_false, Bool.or_true, Bool.false_or, Bool.true_or, Bool.and_true, Bool.true_and, Bool.not_true, Bool.not_false, Bool.and_false, Bool.false_and, Option.map_some, reduceCtorEq, and_true, true_and, and_self]
              match r, q with
              | [], q => exact (by rw [changeD, ht, h1] at q; exact q)
              | [v], q => exact (by rw [changeD, ht, h3] at q; exact q)
              | [f, v], q => exact (by rw [changeD, ht, h2] at q; exact q)
              | x1 :: x2 :: x3 :: r, q => exact q
            | true =>
              simp only [wB, wS, wE, wA, wAnd, wOr, wAndT, wOrT, wP, wI, tru, eQ, exAt_eq, IAs.isNil, List.map_cons, List.map_nil, List.cons_append, List.nil_append, List.getElem?_cons_zero, List.getElem?_cons_succ, List.set_cons_zero, List.set_cons_succ, Bool.false_eq_true, if_false, if_true, if_pos, List.any_cons, List.any_nil, ofO_some, ofO_none, setMany, bindT, D.truth, D.isTy, D.isBox, bi_len_tup, bi_len_list, bi_len_str, bi_tuple_list, bi_tuple_tup, bi_list_list, bi_list_tup, bi_int_int, eq_int, ne_int, lt_int, le_int, gt_int, ge_int, Bool.or_false, Bool.or_true, Bool.false_or, Bool.true_or, Bool.and_true, Bool.true_and, Bool.not_true, Bool.not_false, Bool.and_false, Bool.false_and, Option.map_some, reduceCtorEq, and_true, true_and, and_self]
              match r, hx, q with
              | [], _, q => exact (by rw [changeD, ht, h1] at q; exact q)
              | [v], hx, q =>
                have nv : v.isBox = false := dp_nb (hx v (by simp))
                have dv := hx v (by simp)
                rw [changeD, ht, h3, Bool.true_and, Bool.true_and] at q
                rw [if_neg (show ¬ (!((([a, t, v] : List D).length : Int) == 3)) = true from by show ¬ (!((3 : Int) == 3)) = true; decide)]
                simp only [wB, wS, wE, wA, wAnd, wOr, wAndT, wOrT, wP, wI, tru, eQ, exAt_eq, IAs.isNil, List.map_cons, List.map_nil, List.cons_append, List.nil_append, List.getElem?_cons_zero, List.getElem?_cons_succ, List.set_cons_zero, List.set_cons_succ, Bool.false_eq_true, if_false, if_true, if_pos, List.any_cons, List.any_nil, ofO_some, ofO_none, setMany, bindT, D.truth, D.isTy, D.isBox, bi_len_tup, bi_len_list, bi_len_str, bi_tuple_list, bi_tuple_tup, bi_list_list, bi_list_tup, bi_int_int, eq_int, ne_int, lt_int, le_int, gt_int, ge_int, Bool.or_false, Bool.or_true, Bool.false_or, Bool.true_or, Bool.and_true, Bool.true_and, Bool.not_true, Bool.not_false, Bool.and_false, Bool.false_and, Option.map_some, reduceCtorEq, and_true, true_and, and_self, ix2]
                refine ⟨nv, ?_⟩
                cases v with
                | tup ys =>
                  obtain ⟨j', _, hy⟩ := dp_tup dv
                  simp only [wB, wS, wE, wA, wAnd, wOr, wAndT, wOrT, wP, wI, tru, eQ, exAt_eq, IAs.isNil, List.map_cons, List.map_nil, List.cons_append, List.nil_append, List.getElem?_cons_zero, List.getElem?_cons_succ, List.set_cons_zero, List.set_cons_succ, Bool.false_eq_true, if_false, if_true, if_pos, List.any_cons, List.any_nil, ofO_some, ofO_none, setMany, bindT, D.truth, D.isTy, D.isBox, bi_len_tup, bi_len_list, bi_len_str, bi_tuple_list, bi_tuple_tup, bi_list_list, bi_list_tup, bi_int_int, eq_int, ne_int, lt_int, le_int, gt_int, ge_int, Bool.or_false, Bool.or_true, Bool.false_or, Bool.true_or, Bool.and_true, Bool.true_and, Bool.not_true, Bool.not_false, Bool.and_false, Bool.false_and, Option.map_some, reduceCtorEq, and_true, true_and, and_self, List.length_map, itemsD]
                  have q : Q (.bl (ys.length == fs.length && ys.all (termD ns))) n := q
                  rw [int_len]
                  cases h4 : (ys.length == fs.length) with
                  | true =>
                    simp only [wB, wS, wE, wA, wAnd, wOr, wAndT, wOrT, wP, wI, tru, eQ, exAt_eq, IAs.isNil, List.map_cons, List.map_nil, List.cons_append, List.nil_append, List.getElem?_cons_zero, List.getElem?_cons_succ, List.set_cons_zero, List.set_cons_succ, Bool.false_eq_true, if_false, if_true, if_pos, List.any_cons, List.any_nil, ofO_some, ofO_none, setMany, bindT, D.truth, D.isTy, D.isBox, bi_len_tup, bi_len_list, bi_len_str, bi_tuple_list, bi_tuple_tup, bi_list_list, bi_list_tup, bi_int_int, eq_int, ne_int, lt_int, le_int, gt_int, ge_int, Bool.or_false, Bool.or_true, Bool.false_or, Bool.true_or, Bool.and_true, Bool.true_and, Bool.not_true, Bool.not_false, Bool.and_false, Bool.false_and, Option.map_some, reduceCtorEq, and_true, true_and, and_self]
                    rw [h4, Bool.true_and] at q
                    exact all_comp (f := termD ns) (fun d hd n k hk => ⟨d, ns, rfl, dp_nb (hy d hd), hk⟩) q
                  | false =>
                    rw [h4, Bool.false_and] at q
                    simp only [wB, wS, wE, wA, wAnd, wOr, wAndT, wOrT, wP, wI, tru, eQ, exAt_eq, IAs.isNil, List.map_cons, List.map_nil, List.cons_append, List.nil_append, List.getElem?_cons_zero, List.getElem?_cons_succ, List.set_cons_zero, List.set_cons_succ, Bool.false_eq_true, if_false, if_true, if_pos, List.any_cons, List.any_nil, ofO_some, ofO_none, setMany, bindT, D.truth, D.isTy, D.isBox, bi_len_tup, bi_len_list, bi_len_str, bi_tuple_list, bi_tuple_tup, bi_list_list, bi_list_tup, bi_int_int, eq_int, ne_int, lt_int, le_int, gt_int, ge_int, Bool.or_false, Bool.or_true, Bool.false_or, Bool.true_or, Bool.and_true, Bool.true_and, Bool.not_true, Bool.not_false, Bool.and_false, Bool.false_and, Option.map_some, reduceCtorEq, and_true, true_and, and_self]
                    exact q
                | _ =>
                  simp only [wB, wS, wE, wA, wAnd, wOr, wAndT, wOrT, wP, wI, tru, eQ, exAt_eq, IAs.isNil, List.map_cons, List.map_nil, List.cons_append, List.nil_append, List.getElem?_cons_zero, List.getElem?_cons_succ, List.set_cons_zero, List.set_cons_succ, Bool.false_eq_true, if_false, if_true, if_pos, List.any_cons, List.any_nil, ofO_some, ofO_none, setMany, bindT, D.truth, D.isTy, D.isBox, bi_len_tup, bi_len_list, bi_len_str, bi_tuple_list, bi_tuple_tup, bi_list_list, bi_list_tup, bi_int_int, eq_int, ne_int, lt_int, le_int, gt_int, ge_int, Bool.or_false, Bool.or_true, Bool.false_or, Bool.true_or, Bool.and_true, Bool.true_and, Bool.not_true, Bool.not_false, Bool.and_false, Bool.false_and, Option.map_some, reduceCtorEq, and_true, true_and, and_self]
                  exact q
              | [f, v], _, q => exact (by rw [changeD, ht, h2] at q; exact q)
              | x1 :: x2 :: x3 :: r, _, q =>
                have e : (((a :: t :: x1 :: x2 :: x3 :: r).length : Int) == 3) = false := by
                  rw [beq_eq_false_iff_ne]
                  simp only [List.length_cons]
                  omega
                rw [e]
                exact q
  | _ =>
    simp only [wB, wS, wE, wA, wAnd, wOr, wAndT, wOrT, wP, wI, tru, eQ, exAt_eq, IAs.isNil, List.map_cons, List.map_nil, List.cons_append, List.nil_append, List.getElem?_cons_zero, List.getElem?_cons_succ, List.set_cons_zero, List.set_cons_succ, Bool.false_eq_true, if_false, if_true, if_pos, List.any_cons, List.any_nil, ofO_some, ofO_none, setMany, bindT, D.truth, D.isTy, D.isBox, bi_len_tup, bi_len_list, bi_len_str, bi_tuple_list, bi_tuple_tup, bi_list_list, bi_list_tup, bi_int_int, eq_int, ne_int, lt_int, le_int, gt_int, ge_int, Bool.or_false, Bool.or_true, Bool.false_or, Bool.true_or, Bool.and_true, Bool.true_and, Bool.not_true, Bool.not_false, Bool.and_false, Bool.false_and, Option.map_some, reduceCtorEq, and_true, true_and, and_self]
    exact q
end
end Dl

set_option Elab.async false
set_option linter.all false
set_option maxRecDepth 100000
set_option maxHeartbeats 4000000
/-! Bodies and KINDs. -/
namespace Dl
open PySem PySem.Spec PyProof.Rows L2
def sizesD : List (Str × D) := [("say", .int 3), ("has", .int 4), ("is", .int 6), ("let", .int 5)]
theorem term_atom {ns : List Str} {t : D} (h : termD ns t = true) : t.atom = true := by
  cases t <;> first | rfl | (simp [termD, isNum, hasS] at h)
theorem sl_ok {l : List D} {m : Nat} {x : D} (h : l.length + (m + 1) ≤ 1000) : (l ++ [x]).length ≤ sizeLine := by
  rw [sizeLine_eq, List.length_append, List.length_singleton]
  omega
theorem nbool {a b : Nat} (h : a ≠ b) : ((a : Int) == (b : Int)) = false := by
  rw [beq_eq_false_iff_ne]
  omega
theorem sz_say : (sizesD.lookup (Str.ofString "say")).getD (D.int 0) = D.int 3 := by rfl
theorem sz_has : (sizesD.lookup (Str.ofString "has")).getD (D.int 0) = D.int 4 := by rfl
theorem sz_is : (sizesD.lookup (Str.ofString "is")).getD (D.int 0) = D.int 6 := by rfl
theorem sz_let : (sizesD.lookup (Str.ofString "let")).getD (D.int 0) = D.int 5 := by rfl
theorem sz_no {w : Str} (h1 : (w == Str.ofString "say") = false) (h2 : (w == Str.ofString "has") = false) (h3 : (w == Str.ofString "is") = false) (h4 : (w == Str.ofString "let") = false) : (sizesD.lookup w).getD (D.int 0) = D.int 0 := by
  unfold sizesD
  simp only [List.lookup, h1, h2, h3, h4]
  rfl
section
variable {T : Tab} {n : Nat} {Q : D → Nat → Prop} {E : QX}
theorem b_is_body (m : Nat) {ds : List D} (f1 : T.fs "is_name" = some fsName) (f2 : T.fs "is_term" = some fsTerm) (f3 : T.fs "is_change" = some fsChange) (f4 : ∀ j, m = j + 1 → T.fs "is_body" = some (fsBody j)) (g1 : T.gd "SIZES" = some sizesD) (h : fsBody m ds n Q E) :
    wB T ir_is_body (ent0 ["fields", "thing", "names", "there", "word", "changes", "term", "field", "value", "name", "body", "one"] ds) n (eQ Q E) := by
  obtain ⟨fs, d, ns, th, rfl, hd, ha, l1, l2, q⟩ := h
  unfold ir_is_body ent0
  simp only [wB, wS, wE, wA, wAnd, wOr, wAndT, wOrT, wP, wI, tru, eQ, exAt_eq, IAs.isNil, List.map_cons, List.map_nil, List.cons_append, List.nil_append, List.getElem?_cons_zero, List.getElem?_cons_succ, List.set_cons_zero, List.set_cons_succ, Bool.false_eq_true, if_false, if_true, if_pos, List.any_cons, List.any_nil, ofO_some, ofO_none, setMany, bindT, D.truth, D.isTy, D.isBox, bi_len_tup, bi_len_list, bi_len_str, bi_tuple_list, bi_tuple_tup, bi_list_list, bi_list_tup, bi_int_int, eq_int, ne_int, lt_int, le_int, gt_int, ge_int, Bool.or_false, Bool.or_true, Bool.false_or, Bool.true_or, Bool.and_true, Bool.true_and, Bool.not_true, Bool.not_false, Bool.and_false, Bool.false_and, Option.map_some, reduceCtorEq, and_true, true_and, and_self, f1, f2, f3, g1, List.length_cons, List.length_nil, List.replicate]
  refine ⟨dp_nb hd, ?_⟩
  cases d with
  | tup xs =>
    obtain ⟨j, rfl, hx⟩ := dp_tup hd
    have f4 := f4 j rfl
    simp only [wB, wS, wE, wA, wAnd, wOr, wAndT, wOrT, wP, wI, tru, eQ, exAt_eq, IAs.isNil, List.map_cons, List.map_nil, List.cons_append, List.nil_append, List.getElem?_cons_zero, List.getElem?_cons_succ, List.set_cons_zero, List.set_cons_succ, Bool.false_eq_true, if_false, if_true, if_pos, List.any_cons, List.any_nil, ofO_some, ofO_none, setMany, bindT, D.truth, D.isTy, D.isBox, bi_len_tup, bi_len_list, bi_len_str, bi_tuple_list, bi_tuple_tup, bi_list_list, bi_list_tup, bi_int_int, eq_int, ne_int, lt_int, le_int, gt_int, ge_int, Bool.or_false, Bool.or_true, Bool.false_or, Bool.true_or, Bool.and_true, Bool.true_and, Bool.not_true, Bool.not_false, Bool.and_false, Bool.false_and, Option.map_some, reduceCtorEq, and_true, true_and, and_self, f4]
    match xs, hx, q with
    | [], _, q => exact q
    | a :: r, hx, q =>
      have na : a.isBox = false := dp_nb (hx a (by simp))
      have l0 : (((a :: r).length : Int) == 0) = false := by
        rw [beq_eq_false_iff_ne]
        simp only [List.length_cons]
        omega
      rw [l0]
      simp only [wB, wS, wE, wA, wAnd, wOr, wAndT, wOrT, wP, wI, tru, eQ, exAt_eq, IAs.isNil, List.map_cons, List.map_nil, List.cons_append, List.nil_append, List.getElem?_cons_zero, List.getElem?_cons_succ, List.set_cons_zero, List.set_cons_succ, Bool.false_eq_true, if_false, if_true, if_pos, List.any_cons, List.any_nil, ofO_some, ofO_none, setMany, bindT, D.truth, D.isTy, D.isBox, bi_len_tup, bi_len_list, bi_len_str, bi_tuple_list, bi_tuple_tup, bi_list_list, bi_list_tup, bi_int_int, eq_int, ne_int, lt_int, le_int, gt_int, ge_int, Bool.or_false, Bool.or_true, Bool.false_or, Bool.true_or, Bool.and_true, Bool.true_and, Bool.not_true, Bool.not_false, Bool.and_false, Bool.false_and, Option.map_some, reduceCtorEq, and_true, true_and, and_self, ix0]
      refine ⟨na, ?_⟩
      cases a with
      | str w =>
        simp only [wB, wS, wE, wA, wAnd, wOr, wAndT, wOrT, wP, wI, tru, eQ, exAt_eq, IAs.isNil, List.map_cons, List.map_nil, List.cons_append, List.nil_append, List.getElem?_cons_zero, List.getElem?_cons_succ, List.set_cons_zero, List.set_cons_succ, Bool.false_eq_true, if_false, if_true, if_pos, List.any_cons, List.any_nil, ofO_some, ofO_none, setMany, bindT, D.truth, D.isTy, D.isBox, bi_len_tup, bi_len_list, bi_len_str, bi_tuple_list, bi_tuple_tup, bi_list_list, bi_list_tup, bi_int_int, eq_int, ne_int, lt_int, le_int, gt_int, ge_int, Bool.or_false, Bool.or_true, Bool.false_or, Bool.true_or, Bool.and_true, Bool.true_and, Bool.not_true, Bool.not_false, Bool.and_false, Bool.false_and, Option.map_some, reduceCtorEq, and_true, true_and, and_self, eq_w (x := D.str w) rfl, isW_str]
        cases h1 : (w == Str.ofString "say") with
        | true =>
          rw [beq_iff_eq] at h1
          subst h1
          rw [sz_say]
          simp only [wB, wS, wE, wA, wAnd, wOr, wAndT, wOrT, wP, wI, tru, eQ, exAt_eq, IAs.isNil, List.map_cons, List.map_nil, List.cons_append, List.nil_append, List.getElem?_cons_zero, List.getElem?_cons_succ, List.set_cons_zero, List.set_cons_succ, Bool.false_eq_true, if_false, if_true, if_pos, List.any_cons, List.any_nil, ofO_some, ofO_none, setMany, bindT, D.truth, D.isTy, D.isBox, bi_len_tup, bi_len_list, bi_len_str, bi_tuple_list, bi_tuple_tup, bi_list_list, bi_list_tup, bi_int_int, eq_int, ne_int, lt_int, le_int, gt_int, ge_int, Bool.or_false, Bool.or_true, Bool.false_or, Bool.true_or, Bool.and_true, Bool.true_and, Bool.not_true, Bool.not_false, Bool.and_false, Bool.false_and, Option.map_some, reduceCtorEq, and_true, true_and, and_self]
          match r, hx, q with
          | [c, nm], hx, q =>
            rw [if_neg (show ¬ (!((3 : Int) == (([D.str "say", c, nm] : List D).length : Int))) = true from by show ¬ (!((3 : Int) == 3)) = true; decide)]
            have nn : nm.isBox = false := dp_nb (hx nm (by simp))
            have nc : c.isBox = false := dp_nb (hx c (by simp))
            have dc := hx c (by simp)
            have q : Q (.bl (nameD nm && saysD fs ns c)) n := q
            simp only [wB, wS, wE, wA, wAnd, wOr, wAndT, wOrT, wP, wI, tru, eQ, exAt_eq, IAs.isNil, List.map_cons, List.map_nil, List.cons_append, List.nil_append, List.getElem?_cons_zero, List.getElem?_cons_succ, List.set_cons_zero, List.set_cons_succ, Bool.false_eq_true, if_false, if_true, if_pos, List.any_cons, List.any_nil, ofO_some, ofO_none, setMany, bindT, D.truth, D.isTy, D.isBox, bi_len_tup, bi_len_list, bi_len_str, bi_tuple_list, bi_tuple_tup, bi_list_list, bi_list_tup, bi_int_int, eq_int, ne_int, lt_int, le_int, gt_int, ge_int, Bool.or_false, Bool.or_true, Bool.false_or, Bool.true_or, Bool.and_true, Bool.true_and, Bool.not_true, Bool.not_false, Bool.and_false, Bool.false_and, Option.map_some, reduceCtorEq, and_true, true_and, and_self, ix1, ix2]
            refine ⟨nm, rfl, nn, ?_⟩
            cases h2 : nameD nm with
            | false =>
              rw [h2, Bool.false_and] at q
              simp only [wB, wS, wE, wA, wAnd, wOr, wAndT, wOrT, wP, wI, tru, eQ, exAt_eq, IAs.isNil, List.map_cons, List.map_nil, List.cons_append, List.nil_append, List.getElem?_cons_zero, List.getElem?_cons_succ, List.set_cons_zero, List.set_cons_succ, Bool.false_eq_true, if_false, if_true, if_pos, List.any_cons, List.any_nil, ofO_some, ofO_none, setMany, bindT, D.truth, D.isTy, D.isBox, bi_len_tup, bi_len_list, bi_len_str, bi_tuple_list, bi_tuple_tup, bi_list_list, bi_list_tup, bi_int_int, eq_int, ne_int, lt_int, le_int, gt_int, ge_int, Bool.or_false, Bool.or_true, Bool.false_or, Bool.true_or, Bool.and_true, Bool.true_and, Bool.not_true, Bool.not_false, Bool.and_false, Bool.false_and, Option.map_some, reduceCtorEq, and_true, true_and, and_self]
              exact q
            | true =>
              rw [h2, Bool.true_and] at q
              simp only [wB, wS, wE, wA, wAnd, wOr, wAndT, wOrT, wP, wI, tru, eQ, exAt_eq, IAs.isNil, List.map_cons, List.map_nil, List.cons_append, List.nil_append, List.getElem?_cons_zero, List.getElem?_cons_succ, List.set_cons_zero, List.set_cons_succ, Bool.false_eq_true, if_false, if_true, if_pos, List.any_cons, List.any_nil, ofO_some, ofO_none, setMany, bindT, D.truth, D.isTy, D.isBox, bi_len_tup, bi_len_list, bi_len_str, bi_tuple_list, bi_tuple_tup, bi_list_list, bi_list_tup, bi_int_int, eq_int, ne_int, lt_int, le_int, gt_int, ge_int, Bool.or_false, Bool.or_true, Bool.false_or, Bool.true_or, Bool.and_true, Bool.true_and, Bool.not_true, Bool.not_false, Bool.and_false, Bool.false_and, Option.map_some, reduceCtorEq, and_true, true_and, and_self]
              refine ⟨nc, ?_⟩
              cases c with
              | tup cs =>
                obtain ⟨j', _, hy⟩ := dp_tup dc
                simp only [wB, wS, wE, wA, wAnd, wOr, wAndT, wOrT, wP, wI, tru, eQ, exAt_eq, IAs.isNil, List.map_cons, List.map_nil, List.cons_append, List.nil_append, List.getElem?_cons_zero, List.getElem?_cons_succ, List.set_cons_zero, List.set_cons_succ, Bool.false_eq_true, if_false, if_true, if_pos, List.any_cons, List.any_nil, ofO_some, ofO_none, setMany, bindT, D.truth, D.isTy, D.isBox, bi_len_tup, bi_len_list, bi_len_str, bi_tuple_list, bi_tuple_tup, bi_list_list, bi_list_tup, bi_int_int, eq_int, ne_int, lt_int, le_int, gt_int, ge_int, Bool.or_false, Bool.or_true, Bool.false_or, Bool.true_or, Bool.and_true, Bool.true_and, Bool.not_true, Bool.not_false, Bool.and_false, Bool.false_and, Option.map_some, reduceCtorEq, and_true, true_and, and_self, itemsD]
                exact all_comp (f := changeD fs ns) (fun d hd n k hk => ⟨fs, d, ns, j', rfl, hy d hd, hk⟩) q
              | _ =>
                simp only [wB, wS, wE, wA, wAnd, wOr, wAndT, wOrT, wP, wI, tru, eQ, exAt_eq, IAs.isNil, List.map_cons, List.map_nil, List.cons_append, List.nil_append, List.getElem?_cons_zero, List.getElem?_cons_succ, List.set_cons_zero, List.set_cons_succ, Bool.false_eq_true, if_false, if_true, if_pos, List.any_cons, List.any_nil, ofO_some, ofO_none, setMany, bindT, D.truth, D.isTy, D.isBox, bi_len_tup, bi_len_list, bi_len_str, bi_tuple_list, bi_tuple_tup, bi_list_list, bi_list_tup, bi_int_int, eq_int, ne_int, lt_int, le_int, gt_int, ge_int, Bool.or_false, Bool.or_true, Bool.false_or, Bool.true_or, Bool.and_true, Bool.true_and, Bool.not_true, Bool.not_false, Bool.and_false, Bool.false_and, Option.map_some, reduceCtorEq, and_true, true_and, and_self]
                exact q
          | [], _, q => exact q
          | [_], _, q => exact q
          | x1 :: x2 :: x3 :: r, _, q =>
            rw [if_pos (show (!((3 : Int) == ((D.str "say" :: x1 :: x2 :: x3 :: r).length : Int))) = true from by
              rw [Bool.not_eq_true', beq_eq_false_iff_ne]
              simp only [List.length_cons]
              omega)]
            exact q
        | false =>
          cases h2 : (w == Str.ofString "has") with
          | true =>
            rw [beq_iff_eq] at h2
            subst h2
            rw [sz_has]
            simp only [wB, wS, wE, wA, wAnd, wOr, wAndT, wOrT, wP, wI, tru, eQ, exAt_eq, IAs.isNil, List.map_cons, List.map_nil, List.cons_append, List.nil_append, List.getElem?_cons_zero, List.getElem?_cons_succ, List.set_cons_zero, List.set_cons_succ, Bool.false_eq_true, if_false, if_true, if_pos, List.any_cons, List.any_nil, ofO_some, ofO_none, setMany, bindT, D.truth, D.isTy, D.isBox, bi_len_tup, bi_len_list, bi_len_str, bi_tuple_list, bi_tuple_tup, bi_list_list, bi_list_tup, bi_int_int, eq_int, ne_int, lt_int, le_int, gt_int, ge_int, Bool.or_false, Bool.or_true, Bool.false_or, Bool.true_or, Bool.and_true, Bool.true_and, Bool.not_true, Bool.not_false, Bool.and_false, Bool.false_and, Option.map_some, reduceCtorEq, and_true, true_and, and_self]
            match r, hx, q with
            | [t, a, b], hx, q =>
              rw [if_neg (show ¬ (!((4 : Int) == (([D.str "has", t, a, b] : List D).length : Int))) = true from by show ¬ (!((4 : Int) == 4)) = true; decide)]
              have nt : t.isBox = false := dp_nb (hx t (by simp))
              have q : Q (.bl (termD ns t && (bodyD fs j ns (th ++ [t]) a && bodyD fs j ns th b))) n := q
              simp only [wB, wS, wE, wA, wAnd, wOr, wAndT, wOrT, wP, wI, tru, eQ, exAt_eq, IAs.isNil, List.map_cons, List.map_nil, List.cons_append, List.nil_append, List.getElem?_cons_zero, List.getElem?_cons_succ, List.set_cons_zero, List.set_cons_succ, Bool.false_eq_true, if_false, if_true, if_pos, List.any_cons, List.any_nil, ofO_some, ofO_none, setMany, bindT, D.truth, D.isTy, D.isBox, bi_len_tup, bi_len_list, bi_len_str, bi_tuple_list, bi_tuple_tup, bi_list_list, bi_list_tup, bi_int_int, eq_int, ne_int, lt_int, le_int, gt_int, ge_int, Bool.or_false, Bool.or_true, Bool.false_or, Bool.true_or, Bool.and_true, Bool.true_and, Bool.not_true, Bool.not_false, Bool.and_false, Bool.false_and, Option.map_some, reduceCtorEq, and_true, true_and, and_self, ix1, ix2, ix3]
              refine ⟨t, ns, rfl, nt, ?_⟩
              cases h3 : termD ns t with
              | false =>
                rw [h3, Bool.false_and] at q
                simp only [wB, wS, wE, wA, wAnd, wOr, wAndT, wOrT, wP, wI, tru, eQ, exAt_eq, IAs.isNil, List.map_cons, List.map_nil, List.cons_append, List.nil_append, List.getElem?_cons_zero, List.getElem?_cons_succ, List.set_cons_zero, List.set_cons_succ, Bool.false_eq_true, if_false, if_true, if_pos, List.any_cons, List.any_nil, ofO_some, ofO_none, setMany, bindT, D.truth, D.isTy, D.isBox, bi_len_tup, bi_len_list, bi_len_str, bi_tuple_list, bi_tuple_tup, bi_list_list, bi_list_tup, bi_int_int, eq_int, ne_int, lt_int, le_int, gt_int, ge_int, Bool.or_false, Bool.or_true, Bool.false_or, Bool.true_or, Bool.and_true, Bool.true_and, Bool.not_true, Bool.not_false, Bool.and_false, Bool.false_and, Option.map_some, reduceCtorEq, and_true, true_and, and_self]
                exact q
              | true =>
                rw [h3, Bool.true_and] at q
                simp only [wB, wS, wE, wA, wAnd, wOr, wAndT, wOrT, wP, wI, tru, eQ, exAt_eq, IAs.isNil, List.map_cons, List.map_nil, List.cons_append, List.nil_append, List.getElem?_cons_zero, List.getElem?_cons_succ, List.set_cons_zero, List.set_cons_succ, Bool.false_eq_true, if_false, if_true, if_pos, List.any_cons, List.any_nil, ofO_some, ofO_none, setMany, bindT, D.truth, D.isTy, D.isBox, bi_len_tup, bi_len_list, bi_len_str, bi_tuple_list, bi_tuple_tup, bi_list_list, bi_list_tup, bi_int_int, eq_int, ne_int, lt_int, le_int, gt_int, ge_int, Bool.or_false, Bool.or_true, Bool.false_or, Bool.true_or, Bool.and_true, Bool.true_and, Bool.not_true, Bool.not_false, Bool.and_false, Bool.false_and, Option.map_some, reduceCtorEq, and_true, true_and, and_self]
                refine ⟨sl_ok (m := j) l1, fs, a, ns, th ++ [t], rfl, hx a (by simp), ?_, ?_, by omega, ?_⟩
                · rw [List.all_append, ha]
                  simp [term_atom h3]
                · rw [List.length_append, List.length_singleton]
                  omega
                · cases h4 : bodyD fs j ns (th ++ [t]) a with
                  | false =>
                    rw [h4, Bool.false_and] at q
                    simp only [wB, wS, wE, wA, wAnd, wOr, wAndT, wOrT, wP, wI, tru, eQ, exAt_eq, IAs.isNil, List.map_cons, List.map_nil, List.cons_append, List.nil_append, List.getElem?_cons_zero, List.getElem?_cons_succ, List.set_cons_zero, List.set_cons_succ, Bool.false_eq_true, if_false, if_true, if_pos, List.any_cons, List.any_nil, ofO_some, ofO_none, setMany, bindT, D.truth, D.isTy, D.isBox, bi_len_tup, bi_len_list, bi_len_str, bi_tuple_list, bi_tuple_tup, bi_list_list, bi_list_tup, bi_int_int, eq_int, ne_int, lt_int, le_int, gt_int, ge_int, Bool.or_false, Bool.or_true, Bool.false_or, Bool.true_or, Bool.and_true, Bool.true_and, Bool.not_true, Bool.not_false, Bool.and_false, Bool.false_and, Option.map_some, reduceCtorEq, and_true, true_and, and_self]
                    exact q
                  | true =>
                    rw [h4, Bool.true_and] at q
                    simp only [wB, wS, wE, wA, wAnd, wOr, wAndT, wOrT, wP, wI, tru, eQ, exAt_eq, IAs.isNil, List.map_cons, List.map_nil, List.cons_append, List.nil_append, List.getElem?_cons_zero, List.getElem?_cons_succ, List.set_cons_zero, List.set_cons_succ, Bool.false_eq_true, if_false, if_true, if_pos, List.any_cons, List.any_nil, ofO_some, ofO_none, setMany, bindT, D.truth, D.isTy, D.isBox, bi_len_tup, bi_len_list, bi_len_str, bi_tuple_list, bi_tuple_tup, bi_list_list, bi_list_tup, bi_int_int, eq_int, ne_int, lt_int, le_int, gt_int, ge_int, Bool.or_false, Bool.or_true, Bool.false_or, Bool.true_or, Bool.and_true, Bool.true_and, Bool.not_true, Bool.not_false, Bool.and_false, Bool.false_and, Option.map_some, reduceCtorEq, and_true, true_and, and_self]
                    exact ⟨fs, b, ns, th, rfl, hx b (by simp), ha, by omega, by omega, q⟩
            | [], _, q => exact q
            | [_], _, q => exact q
            | [_, _], _, q => exact q
            | x1 :: x2 :: x3 :: x4 :: r, _, q =>
              rw [if_pos (show (!((4 : Int) == ((D.str "has" :: x1 :: x2 :: x3 :: x4 :: r).length : Int))) = true from by
                rw [Bool.not_eq_true', beq_eq_false_iff_ne]
                simp only [List.length_cons]
                omega)]
              exact q
          | false =>
            cases h3 : (w == Str.ofString "is") with
            | true =>
              rw [beq_iff_eq] at h3
              subst h3
              rw [sz_is]
              simp only [wB, wS, wE, wA, wAnd, wOr, wAndT, wOrT, wP, wI, tru, eQ, exAt_eq, IAs.isNil, List.map_cons, List.map_nil, List.cons_append, List.nil_append, List.getElem?_cons_zero, List.getElem?_cons_succ, List.set_cons_zero, List.set_cons_succ, Bool.false_eq_true, if_false, if_true, if_pos, List.any_cons, List.any_nil, ofO_some, ofO_none, setMany, bindT, D.truth, D.isTy, D.isBox, bi_len_tup, bi_len_list, bi_len_str, bi_tuple_list, bi_tuple_tup, bi_list_list, bi_list_tup, bi_int_int, eq_int, ne_int, lt_int, le_int, gt_int, ge_int, Bool.or_false, Bool.or_true, Bool.false_or, Bool.true_or, Bool.and_true, Bool.true_and, Bool.not_true, Bool.not_false, Bool.and_false, Bool.false_and, Option.map_some, reduceCtorEq, and_true, true_and, and_self]
              match r, hx, q with
              | [t, f, v, a, b], hx, q =>
                rw [if_neg (show ¬ (!((6 : Int) == (([D.str "is", t, f, v, a, b] : List D).length : Int))) = true from by show ¬ (!((6 : Int) == 6)) = true; decide)]
                have nt : t.isBox = false := dp_nb (hx t (by simp))
                have nf : f.isBox = false := dp_nb (hx f (by simp))
                have nv : v.isBox = false := dp_nb (hx v (by simp))
                have e1 : slcD (.tup [D.str "is", t, f, v, a, b]) (some 1) (some 4) = some (.tup [t, f, v]) := rfl
                have e2 : slcD (.tup [D.str "is", t, f, v, a, b]) (some 4) none = some (.tup [a, b]) := rfl
                have q : Q (.bl (termD ns t && (hasA th t && (hasS fs f && (termD ns v && (bodyD fs j ns th a && bodyD fs j ns th b)))))) n := q
                simp only [wB, wS, wE, wA, wAnd, wOr, wAndT, wOrT, wP, wI, tru, eQ, exAt_eq, IAs.isNil, List.map_cons, List.map_nil, List.cons_append, List.nil_append, List.getElem?_cons_zero, List.getElem?_cons_succ, List.set_cons_zero, List.set_cons_succ, Bool.false_eq_true, if_false, if_true, if_pos, List.any_cons, List.any_nil, ofO_some, ofO_none, setMany, bindT, D.truth, D.isTy, D.isBox, bi_len_tup, bi_len_list, bi_len_str, bi_tuple_list, bi_tuple_tup, bi_list_list, bi_list_tup, bi_int_int, eq_int, ne_int, lt_int, le_int, gt_int, ge_int, Bool.or_false, Bool.or_true, Bool.false_or, Bool.true_or, Bool.and_true, Bool.true_and, Bool.not_true, Bool.not_false, Bool.and_false, Bool.false_and, Option.map_some, reduceCtorEq, and_true, true_and, and_self, e1, e2, itemsD]
                refine ⟨t, ns, rfl, nt, ?_⟩
                cases h4 : termD ns t with
                | false =>
                  rw [h4, Bool.false_and] at q
                  simp only [wB, wS, wE, wA, wAnd, wOr, wAndT, wOrT, wP, wI, tru, eQ, exAt_eq, IAs.isNil, List.map_cons, List.map_nil, List.cons_append, List.nil_append, List.getElem?_cons_zero, List.getElem?_cons_succ, List.set_cons_zero, List.set_cons_succ, Bool.false_eq_true, if_false, if_true, if_pos, List.any_cons, List.any_nil, ofO_some, ofO_none, setMany, bindT, D.truth, D.isTy, D.isBox, bi_len_tup, bi_len_list, bi_len_str, bi_tuple_list, bi_tuple_tup, bi_list_list, bi_list_tup, bi_int_int, eq_int, ne_int, lt_int, le_int, gt_int, ge_int, Bool.or_false, Bool.or_true, Bool.false_or, Bool.true_or, Bool.and_true, Bool.true_and, Bool.not_true, Bool.not_false, Bool.and_false, Bool.false_and, Option.map_some, reduceCtorEq, and_true, true_and, and_self]
                  exact q
                | true =>
                  rw [h4, Bool.true_and] at q
                  simp only [wB, wS, wE, wA, wAnd, wOr, wAndT, wOrT, wP, wI, tru, eQ, exAt_eq, IAs.isNil, List.map_cons, List.map_nil, List.cons_append, List.nil_append, List.getElem?_cons_zero, List.getElem?_cons_succ, List.set_cons_zero, List.set_cons_succ, Bool.false_eq_true, if_false, if_true, if_pos, List.any_cons, List.any_nil, ofO_some, ofO_none, setMany, bindT, D.truth, D.isTy, D.isBox, bi_len_tup, bi_len_list, bi_len_str, bi_tuple_list, bi_tuple_tup, bi_list_list, bi_list_tup, bi_int_int, eq_int, ne_int, lt_int, le_int, gt_int, ge_int, Bool.or_false, Bool.or_true, Bool.false_or, Bool.true_or, Bool.and_true, Bool.true_and, Bool.not_true, Bool.not_false, Bool.and_false, Bool.false_and, Option.map_some, reduceCtorEq, and_true, true_and, and_self, nin_atoms_tup (term_atom h4) ha, nin_strs_tup nf]
                  cases h5 : hasA th t with
                  | false =>
                    rw [h5, Bool.false_and] at q
                    simp only [wB, wS, wE, wA, wAnd, wOr, wAndT, wOrT, wP, wI, tru, eQ, exAt_eq, IAs.isNil, List.map_cons, List.map_nil, List.cons_append, List.nil_append, List.getElem?_cons_zero, List.getElem?_cons_succ, List.set_cons_zero, List.set_cons_succ, Bool.false_eq_true, if_false, if_true, if_pos, List.any_cons, List.any_nil, ofO_some, ofO_none, setMany, bindT, D.truth, D.isTy, D.isBox, bi_len_tup, bi_len_list, bi_len_str, bi_tuple_list, bi_tuple_tup, bi_list_list, bi_list_tup, bi_int_int, eq_int, ne_int, lt_int, le_int, gt_int, ge_int, Bool.or_false, Bool.or_true, Bool.false_or, Bool.true_or, Bool.and_true, Bool.true_and, Bool.not_true, Bool.not_false, Bool.and_false, Bool.false_and, Option.map_some, reduceCtorEq, and_true, true_and, and_self]
                    exact q
                  | true =>
                    rw [h5, Bool.true_and] at q
                    simp only [wB, wS, wE, wA, wAnd, wOr, wAndT, wOrT, wP, wI, tru, eQ, exAt_eq, IAs.isNil, List.map_cons, List.map_nil, List.cons_append, List.nil_append, List.getElem?_cons_zero, List.getElem?_cons_succ, List.set_cons_zero, List.set_cons_succ, Bool.false_eq_true, if_false, if_true, if_pos, List.any_cons, List.any_nil, ofO_some, ofO_none, setMany, bindT, D.truth, D.isTy, D.isBox, bi_len_tup, bi_len_list, bi_len_str, bi_tuple_list, bi_tuple_tup, bi_list_list, bi_list_tup, bi_int_int, eq_int, ne_int, lt_int, le_int, gt_int, ge_int, Bool.or_false, Bool.or_true, Bool.false_or, Bool.true_or, Bool.and_true, Bool.true_and, Bool.not_true, Bool.not_false, Bool.and_false, Bool.false_and, Option.map_some, reduceCtorEq, and_true, true_and, and_self]
                    cases h6 : hasS fs f with
                    | false =>
                      rw [h6, Bool.false_and] at q
                      simp only [wB, wS, wE, wA, wAnd, wOr, wAndT, wOrT, wP, wI, tru, eQ, exAt_eq, IAs.isNil, List.map_cons, List.map_nil, List.cons_append, List.nil_append, List.getElem?_cons_zero, List.getElem?_cons_succ, List.set_cons_zero, List.set_cons_succ, Bool.false_eq_true, if_false, if_true, if_pos, List.any_cons, List.any_nil, ofO_some, ofO_none, setMany, bindT, D.truth, D.isTy, D.isBox, bi_len_tup, bi_len_list, bi_len_str, bi_tuple_list, bi_tuple_tup, bi_list_list, bi_list_tup, bi_int_int, eq_int, ne_int, lt_int, le_int, gt_int, ge_int, Bool.or_false, Bool.or_true, Bool.false_or, Bool.true_or, Bool.and_true, Bool.true_and, Bool.not_true, Bool.not_false, Bool.and_false, Bool.false_and, Option.map_some, reduceCtorEq, and_true, true_and, and_self]
                      exact q
                    | true =>
                      rw [h6, Bool.true_and] at q
                      simp only [wB, wS, wE, wA, wAnd, wOr, wAndT, wOrT, wP, wI, tru, eQ, exAt_eq, IAs.isNil, List.map_cons, List.map_nil, List.cons_append, List.nil_append, List.getElem?_cons_zero, List.getElem?_cons_succ, List.set_cons_zero, List.set_cons_succ, Bool.false_eq_true, if_false, if_true, if_pos, List.any_cons, List.any_nil, ofO_some, ofO_none, setMany, bindT, D.truth, D.isTy, D.isBox, bi_len_tup, bi_len_list, bi_len_str, bi_tuple_list, bi_tuple_tup, bi_list_list, bi_list_tup, bi_int_int, eq_int, ne_int, lt_int, le_int, gt_int, ge_int, Bool.or_false, Bool.or_true, Bool.false_or, Bool.true_or, Bool.and_true, Bool.true_and, Bool.not_true, Bool.not_false, Bool.and_false, Bool.false_and, Option.map_some, reduceCtorEq, and_true, true_and, and_self]
                      refine ⟨v, ns, rfl, nv, ?_⟩
                      cases h7 : termD ns v with
                      | false =>
                        rw [h7, Bool.false_and] at q
                        simp only [wB, wS, wE, wA, wAnd, wOr, wAndT, wOrT, wP, wI, tru, eQ, exAt_eq, IAs.isNil, List.map_cons, List.map_nil, List.cons_append, List.nil_append, List.getElem?_cons_zero, List.getElem?_cons_succ, List.set_cons_zero, List.set_cons_succ, Bool.false_eq_true, if_false, if_true, if_pos, List.any_cons, List.any_nil, ofO_some, ofO_none, setMany, bindT, D.truth, D.isTy, D.isBox, bi_len_tup, bi_len_list, bi_len_str, bi_tuple_list, bi_tuple_tup, bi_list_list, bi_list_tup, bi_int_int, eq_int, ne_int, lt_int, le_int, gt_int, ge_int, Bool.or_false, Bool.or_true, Bool.false_or, Bool.true_or, Bool.and_true, Bool.true_and, Bool.not_true, Bool.not_false, Bool.and_false, Bool.false_and, Option.map_some, reduceCtorEq, and_true, true_and, and_self]
                        exact q
                      | true =>
                        rw [h7, Bool.true_and] at q
                        simp only [wB, wS, wE, wA, wAnd, wOr, wAndT, wOrT, wP, wI, tru, eQ, exAt_eq, IAs.isNil, List.map_cons, List.map_nil, List.cons_append, List.nil_append, List.getElem?_cons_zero, List.getElem?_cons_succ, List.set_cons_zero, List.set_cons_succ, Bool.false_eq_true, if_false, if_true, if_pos, List.any_cons, List.any_nil, ofO_some, ofO_none, setMany, bindT, D.truth, D.isTy, D.isBox, bi_len_tup, bi_len_list, bi_len_str, bi_tuple_list, bi_tuple_tup, bi_list_list, bi_list_tup, bi_int_int, eq_int, ne_int, lt_int, le_int, gt_int, ge_int, Bool.or_false, Bool.or_true, Bool.false_or, Bool.true_or, Bool.and_true, Bool.true_and, Bool.not_true, Bool.not_false, Bool.and_false, Bool.false_and, Option.map_some, reduceCtorEq, and_true, true_and, and_self]
                        refine all_comp (f := bodyD fs j ns th) (fun d hd n k hk => ⟨fs, d, ns, th, rfl, ?_, ha, by omega, by omega, hk⟩) ?_
                        · rcases List.mem_cons.mp hd with z | z
                          · rw [z]; exact hx a (by simp)
                          · rw [List.mem_singleton.mp z]; exact hx b (by simp)
                        · simpa using q
              | [], _, q => exact q
              | [_], _, q => exact q
              | [_, _], _, q => exact q
              | [_, _, _], _, q => exact q
              | [_, _, _, _], _, q => exact q
              | x1 :: x2 :: x3 :: x4 :: x5 :: x6 :: r, _, q =>
                rw [if_pos (show (!((6 : Int) == ((D.str "is" :: x1 :: x2 :: x3 :: x4 :: x5 :: x6 :: r).length : Int))) = true from by
                  rw [Bool.not_eq_true', beq_eq_false_iff_ne]
                  simp only [List.length_cons]
                  omega)]
                exact q
            | false =>
              cases h4 : (w == Str.ofString "let") with
              | true =>
                rw [beq_iff_eq] at h4
                subst h4
                rw [sz_let]
                simp only [wB, wS, wE, wA, wAnd, wOr, wAndT, wOrT, wP, wI, tru, eQ, exAt_eq, IAs.isNil, List.map_cons, List.map_nil, List.cons_append, List.nil_append, List.getElem?_cons_zero, List.getElem?_cons_succ, List.set_cons_zero, List.set_cons_succ, Bool.false_eq_true, if_false, if_true, if_pos, List.any_cons, List.any_nil, ofO_some, ofO_none, setMany, bindT, D.truth, D.isTy, D.isBox, bi_len_tup, bi_len_list, bi_len_str, bi_tuple_list, bi_tuple_tup, bi_list_list, bi_list_tup, bi_int_int, eq_int, ne_int, lt_int, le_int, gt_int, ge_int, Bool.or_false, Bool.or_true, Bool.false_or, Bool.true_or, Bool.and_true, Bool.true_and, Bool.not_true, Bool.not_false, Bool.and_false, Bool.false_and, Option.map_some, reduceCtorEq, and_true, true_and, and_self]
                match r, hx, q with
                | [nm, t, f, b], hx, q =>
                  rw [if_neg (show ¬ (!((5 : Int) == (([D.str "let", nm, t, f, b] : List D).length : Int))) = true from by show ¬ (!((5 : Int) == 5)) = true; decide)]
                  have nn : nm.isBox = false := dp_nb (hx nm (by simp))
                  have nt : t.isBox = false := dp_nb (hx t (by simp))
                  have nf : f.isBox = false := dp_nb (hx f (by simp))
                  have e1 : slcD (.tup [D.str "let", nm, t, f, b]) (some 1) none = some (.tup [nm, t, f, b]) := rfl
                  have q : Q (.bl (match newD ns nm with
                    | some z => termD ns t && (hasA th t && (hasS fs f && bodyD fs j (ns ++ [z]) th b))
                    | none => false)) n := q
                  simp only [wB, wS, wE, wA, wAnd, wOr, wAndT, wOrT, wP, wI, tru, eQ, exAt_eq, IAs.isNil, List.map_cons, List.map_nil, List.cons_append, List.nil_append, List.getElem?_cons_zero, List.getElem?_cons_succ, List.set_cons_zero, List.set_cons_succ, Bool.false_eq_true, if_false, if_true, if_pos, List.any_cons, List.any_nil, ofO_some, ofO_none, setMany, bindT, D.truth, D.isTy, D.isBox, bi_len_tup, bi_len_list, bi_len_str, bi_tuple_list, bi_tuple_tup, bi_list_list, bi_list_tup, bi_int_int, eq_int, ne_int, lt_int, le_int, gt_int, ge_int, Bool.or_false, Bool.or_true, Bool.false_or, Bool.true_or, Bool.and_true, Bool.true_and, Bool.not_true, Bool.not_false, Bool.and_false, Bool.false_and, Option.map_some, reduceCtorEq, and_true, true_and, and_self, e1]
                  refine ⟨nm, rfl, nn, ?_⟩
                  cases nm with
                  | str z =>
                    rw [newD] at q
                    simp only [nameD]
                    cases h5 : nameS z with
                    | false =>
                      rw [h5] at q
                      simp only [wB, wS, wE, wA, wAnd, wOr, wAndT, wOrT, wP, wI, tru, eQ, exAt_eq, IAs.isNil, List.map_cons, List.map_nil, List.cons_append, List.nil_append, List.getElem?_cons_zero, List.getElem?_cons_succ, List.set_cons_zero, List.set_cons_succ, Bool.false_eq_true, if_false, if_true, if_pos, List.any_cons, List.any_nil, ofO_some, ofO_none, setMany, bindT, D.truth, D.isTy, D.isBox, bi_len_tup, bi_len_list, bi_len_str, bi_tuple_list, bi_tuple_tup, bi_list_list, bi_list_tup, bi_int_int, eq_int, ne_int, lt_int, le_int, gt_int, ge_int, Bool.or_false, Bool.or_true, Bool.false_or, Bool.true_or, Bool.and_true, Bool.true_and, Bool.not_true, Bool.not_false, Bool.and_false, Bool.false_and, Option.map_some, reduceCtorEq, and_true, true_and, and_self]
                      exact q
                    | true =>
                      simp only [wB, wS, wE, wA, wAnd, wOr, wAndT, wOrT, wP, wI, tru, eQ, exAt_eq, IAs.isNil, List.map_cons, List.map_nil, List.cons_append, List.nil_append, List.getElem?_cons_zero, List.getElem?_cons_succ, List.set_cons_zero, List.set_cons_succ, Bool.false_eq_true, if_false, if_true, if_pos, List.any_cons, List.any_nil, ofO_some, ofO_none, setMany, bindT, D.truth, D.isTy, D.isBox, bi_len_tup, bi_len_list, bi_len_str, bi_tuple_list, bi_tuple_tup, bi_list_list, bi_list_tup, bi_int_int, eq_int, ne_int, lt_int, le_int, gt_int, ge_int, Bool.or_false, Bool.or_true, Bool.false_or, Bool.true_or, Bool.and_true, Bool.true_and, Bool.not_true, Bool.not_false, Bool.and_false, Bool.false_and, Option.map_some, reduceCtorEq, and_true, true_and, and_self, in_strs_tup (x := D.str z) rfl]
                      have e5 : hasS ns (.str z) = ns.contains z := rfl
                      rw [e5]
                      cases h6 : ns.contains z with
                      | true =>
                        rw [h5, h6] at q
                        simp only [wB, wS, wE, wA, wAnd, wOr, wAndT, wOrT, wP, wI, tru, eQ, exAt_eq, IAs.isNil, List.map_cons, List.map_nil, List.cons_append, List.nil_append, List.getElem?_cons_zero, List.getElem?_cons_succ, List.set_cons_zero, List.set_cons_succ, Bool.false_eq_true, if_false, if_true, if_pos, List.any_cons, List.any_nil, ofO_some, ofO_none, setMany, bindT, D.truth, D.isTy, D.isBox, bi_len_tup, bi_len_list, bi_len_str, bi_tuple_list, bi_tuple_tup, bi_list_list, bi_list_tup, bi_int_int, eq_int, ne_int, lt_int, le_int, gt_int, ge_int, Bool.or_false, Bool.or_true, Bool.false_or, Bool.true_or, Bool.and_true, Bool.true_and, Bool.not_true, Bool.not_false, Bool.and_false, Bool.false_and, Option.map_some, reduceCtorEq, and_true, true_and, and_self]
                        exact q
                      | false =>
                        rw [h5, h6] at q
                        simp only [wB, wS, wE, wA, wAnd, wOr, wAndT, wOrT, wP, wI, tru, eQ, exAt_eq, IAs.isNil, List.map_cons, List.map_nil, List.cons_append, List.nil_append, List.getElem?_cons_zero, List.getElem?_cons_succ, List.set_cons_zero, List.set_cons_succ, Bool.false_eq_true, if_false, if_true, if_pos, List.any_cons, List.any_nil, ofO_some, ofO_none, setMany, bindT, D.truth, D.isTy, D.isBox, bi_len_tup, bi_len_list, bi_len_str, bi_tuple_list, bi_tuple_tup, bi_list_list, bi_list_tup, bi_int_int, eq_int, ne_int, lt_int, le_int, gt_int, ge_int, Bool.or_false, Bool.or_true, Bool.false_or, Bool.true_or, Bool.and_true, Bool.true_and, Bool.not_true, Bool.not_false, Bool.and_false, Bool.false_and, Option.map_some, reduceCtorEq, and_true, true_and, and_self] at q ⊢
                        refine ⟨t, ns, rfl, nt, ?_⟩
                        cases h7 : termD ns t with
                        | false =>
                          rw [h7, Bool.false_and] at q
                          simp only [wB, wS, wE, wA, wAnd, wOr, wAndT, wOrT, wP, wI, tru, eQ, exAt_eq, IAs.isNil, List.map_cons, List.map_nil, List.cons_append, List.nil_append, List.getElem?_cons_zero, List.getElem?_cons_succ, List.set_cons_zero, List.set_cons_succ, Bool.false_eq_true, if_false, if_true, if_pos, List.any_cons, List.any_nil, ofO_some, ofO_none, setMany, bindT, D.truth, D.isTy, D.isBox, bi_len_tup, bi_len_list, bi_len_str, bi_tuple_list, bi_tuple_tup, bi_list_list, bi_list_tup, bi_int_int, eq_int, ne_int, lt_int, le_int, gt_int, ge_int, Bool.or_false, Bool.or_true, Bool.false_or, Bool.true_or, Bool.and_true, Bool.true_and, Bool.not_true, Bool.not_false, Bool.and_false, Bool.false_and, Option.map_some, reduceCtorEq, and_true, true_and, and_self]
                          exact q
                        | true =>
                          rw [h7, Bool.true_and] at q
                          simp only [wB, wS, wE, wA, wAnd, wOr, wAndT, wOrT, wP, wI, tru, eQ, exAt_eq, IAs.isNil, List.map_cons, List.map_nil, List.cons_append, List.nil_append, List.getElem?_cons_zero, List.getElem?_cons_succ, List.set_cons_zero, List.set_cons_succ, Bool.false_eq_true, if_false, if_true, if_pos, List.any_cons, List.any_nil, ofO_some, ofO_none, setMany, bindT, D.truth, D.isTy, D.isBox, bi_len_tup, bi_len_list, bi_len_str, bi_tuple_list, bi_tuple_tup, bi_list_list, bi_list_tup, bi_int_int, eq_int, ne_int, lt_int, le_int, gt_int, ge_int, Bool.or_false, Bool.or_true, Bool.false_or, Bool.true_or, Bool.and_true, Bool.true_and, Bool.not_true, Bool.not_false, Bool.and_false, Bool.false_and, Option.map_some, reduceCtorEq, and_true, true_and, and_self, nin_atoms_tup (term_atom h7) ha, nin_strs_tup nf]
                          cases h8 : hasA th t with
                          | false =>
                            rw [h8, Bool.false_and] at q
                            simp only [wB, wS, wE, wA, wAnd, wOr, wAndT, wOrT, wP, wI, tru, eQ, exAt_eq, IAs.isNil, List.map_cons, List.map_nil, List.cons_append, List.nil_append, List.getElem?_cons_zero, List.getElem?_cons_succ, List.set_cons_zero, List.set_cons_succ, Bool.false_eq_true, if_false, if_true, if_pos, List.any_cons, List.any_nil, ofO_some, ofO_none, setMany, bindT, D.truth, D.isTy, D.isBox, bi_len_tup, bi_len_list, bi_len_str, bi_tuple_list, bi_tuple_tup, bi_list_list, bi_list_tup, bi_int_int, eq_int, ne_int, lt_int, le_int, gt_int, ge_int, Bool.or_false, Bool.or_true, Bool.false_or, Bool.true_or, Bool.and_true, Bool.true_and, Bool.not_true, Bool.not_false, Bool.and_false, Bool.false_and, Option.map_some, reduceCtorEq, and_true, true_and, and_self]
                            exact q
                          | true =>
                            rw [h8, Bool.true_and] at q
                            simp only [wB, wS, wE, wA, wAnd, wOr, wAndT, wOrT, wP, wI, tru, eQ, exAt_eq, IAs.isNil, List.map_cons, List.map_nil, List.cons_append, List.nil_append, List.getElem?_cons_zero, List.getElem?_cons_succ, List.set_cons_zero, List.set_cons_succ, Bool.false_eq_true, if_false, if_true, if_pos, List.any_cons, List.any_nil, ofO_some, ofO_none, setMany, bindT, D.truth, D.isTy, D.isBox, bi_len_tup, bi_len_list, bi_len_str, bi_tuple_list, bi_tuple_tup, bi_list_list, bi_list_tup, bi_int_int, eq_int, ne_int, lt_int, le_int, gt_int, ge_int, Bool.or_false, Bool.or_true, Bool.false_or, Bool.true_or, Bool.and_true, Bool.true_and, Bool.not_true, Bool.not_false, Bool.and_false, Bool.false_and, Option.map_some, reduceCtorEq, and_true, true_and, and_self]
                            cases h9 : hasS fs f with
                            | false =>
                              rw [h9, Bool.false_and] at q
                              simp only [wB, wS, wE, wA, wAnd, wOr, wAndT, wOrT, wP, wI, tru, eQ, exAt_eq, IAs.isNil, List.map_cons, List.map_nil, List.cons_append, List.nil_append, List.getElem?_cons_zero, List.getElem?_cons_succ, List.set_cons_zero, List.set_cons_succ, Bool.false_eq_true, if_false, if_true, if_pos, List.any_cons, List.any_nil, ofO_some, ofO_none, setMany, bindT, D.truth, D.isTy, D.isBox, bi_len_tup, bi_len_list, bi_len_str, bi_tuple_list, bi_tuple_tup, bi_list_list, bi_list_tup, bi_int_int, eq_int, ne_int, lt_int, le_int, gt_int, ge_int, Bool.or_false, Bool.or_true, Bool.false_or, Bool.true_or, Bool.and_true, Bool.true_and, Bool.not_true, Bool.not_false, Bool.and_false, Bool.false_and, Option.map_some, reduceCtorEq, and_true, true_and, and_self]
                              exact q
                            | true =>
                              rw [h9, Bool.true_and] at q
                              simp only [wB, wS, wE, wA, wAnd, wOr, wAndT, wOrT, wP, wI, tru, eQ, exAt_eq, IAs.isNil, List.map_cons, List.map_nil, List.cons_append, List.nil_append, List.getElem?_cons_zero, List.getElem?_cons_succ, List.set_cons_zero, List.set_cons_succ, Bool.false_eq_true, if_false, if_true, if_pos, List.any_cons, List.any_nil, ofO_some, ofO_none, setMany, bindT, D.truth, D.isTy, D.isBox, bi_len_tup, bi_len_list, bi_len_str, bi_tuple_list, bi_tuple_tup, bi_list_list, bi_list_tup, bi_int_int, eq_int, ne_int, lt_int, le_int, gt_int, ge_int, Bool.or_false, Bool.or_true, Bool.false_or, Bool.true_or, Bool.and_true, Bool.true_and, Bool.not_true, Bool.not_false, Bool.and_false, Bool.false_and, Option.map_some, reduceCtorEq, and_true, true_and, and_self]
                              refine ⟨?_, fs, b, ns ++ [z], th, by simp, hx b (by simp), ha, by omega, ?_, q⟩
                              · rw [sizeLine_eq, List.length_append, List.length_singleton, List.length_map]
                                omega
                              · rw [List.length_append, List.length_singleton]
                                omega
                  | _ =>
                    simp only [nameD, wB, wS, wE, wA, wAnd, wOr, wAndT, wOrT, wP, wI, tru, eQ, exAt_eq, IAs.isNil, List.map_cons, List.map_nil, List.cons_append, List.nil_append, List.getElem?_cons_zero, List.getElem?_cons_succ, List.set_cons_zero, List.set_cons_succ, Bool.false_eq_true, if_false, if_true, if_pos, List.any_cons, List.any_nil, ofO_some, ofO_none, setMany, bindT, D.truth, D.isTy, D.isBox, bi_len_tup, bi_len_list, bi_len_str, bi_tuple_list, bi_tuple_tup, bi_list_list, bi_list_tup, bi_int_int, eq_int, ne_int, lt_int, le_int, gt_int, ge_int, Bool.or_false, Bool.or_true, Bool.false_or, Bool.true_or, Bool.and_true, Bool.true_and, Bool.not_true, Bool.not_false, Bool.and_false, Bool.false_and, Option.map_some, reduceCtorEq, and_true, true_and, and_self]
                    exact q
                | [], _, q => exact q
                | [_], _, q => exact q
                | [_, _], _, q => exact q
                | [_, _, _], _, q => exact q
                | x1 :: x2 :: x3 :: x4 :: x5 :: r, _, q =>
                  rw [if_pos (show (!((5 : Int) == ((D.str "let" :: x1 :: x2 :: x3 :: x4 :: x5 :: r).length : Int))) = true from by
                    rw [Bool.not_eq_true', beq_eq_false_iff_ne]
                    simp only [List.length_cons]
                    omega)]
                  exact q
              | false =>
                rw [sz_no h1 h2 h3 h4]
                simp only [wB, wS, wE, wA, wAnd, wOr, wAndT, wOrT, wP, wI, tru, eQ, exAt_eq, IAs.isNil, List.map_cons, List.map_nil, List.cons_append, List.nil_append, List.getElem?_cons_zero, List.getElem?_cons_succ, List.set_cons_zero, List.set_cons_succ, Bool.false_eq_true, if_false, if_true, if_pos, List.any_cons, List.any_nil, ofO_some, ofO_none, setMany, bindT, D.truth, D.isTy, D.isBox, bi_len_tup, bi_len_list, bi_len_str, bi_tuple_list, bi_tuple_tup, bi_list_list, bi_list_tup, bi_int_int, eq_int, ne_int, lt_int, le_int, gt_int, ge_int, Bool.or_false, Bool.or_true, Bool.false_or, Bool.true_or, Bool.and_true, Bool.true_and, Bool.not_true, Bool.not_false, Bool.and_false, Bool.false_and, Option.map_some, reduceCtorEq, and_true, true_and, and_self]
                rw [if_pos (show (!((0 : Int) == ((D.str w :: r).length : Int))) = true from by
                  rw [Bool.not_eq_true', beq_eq_false_iff_ne]
                  simp only [List.length_cons]
                  omega)]
                rw [bodyD.eq_def] at q
                dsimp only at q
                rw [if_neg (by rw [h1]; decide), if_neg (by rw [h2]; decide), if_neg (by rw [h3]; decide), if_neg (by rw [h4]; decide)] at q
                exact q
      | _ =>
        simp only [wB, wS, wE, wA, wAnd, wOr, wAndT, wOrT, wP, wI, tru, eQ, exAt_eq, IAs.isNil, List.map_cons, List.map_nil, List.cons_append, List.nil_append, List.getElem?_cons_zero, List.getElem?_cons_succ, List.set_cons_zero, List.set_cons_succ, Bool.false_eq_true, if_false, if_true, if_pos, List.any_cons, List.any_nil, ofO_some, ofO_none, setMany, bindT, D.truth, D.isTy, D.isBox, bi_len_tup, bi_len_list, bi_len_str, bi_tuple_list, bi_tuple_tup, bi_list_list, bi_list_tup, bi_int_int, eq_int, ne_int, lt_int, le_int, gt_int, ge_int, Bool.or_false, Bool.or_true, Bool.false_or, Bool.true_or, Bool.and_true, Bool.true_and, Bool.not_true, Bool.not_false, Bool.and_false, Bool.false_and, Option.map_some, reduceCtorEq, and_true, true_and, and_self]
        exact q
  | _ =>
    simp only [wB, wS, wE, wA, wAnd, wOr, wAndT, wOrT, wP, wI, tru, eQ, exAt_eq, IAs.isNil, List.map_cons, List.map_nil, List.cons_append, List.nil_append, List.getElem?_cons_zero, List.getElem?_cons_succ, List.set_cons_zero, List.set_cons_succ, Bool.false_eq_true, if_false, if_true, if_pos, List.any_cons, List.any_nil, ofO_some, ofO_none, setMany, bindT, D.truth, D.isTy, D.isBox, bi_len_tup, bi_len_list, bi_len_str, bi_tuple_list, bi_tuple_tup, bi_list_list, bi_list_tup, bi_int_int, eq_int, ne_int, lt_int, le_int, gt_int, ge_int, Bool.or_false, Bool.or_true, Bool.false_or, Bool.true_or, Bool.and_true, Bool.true_and, Bool.not_true, Bool.not_false, Bool.and_false, Bool.false_and, Option.map_some, reduceCtorEq, and_true, true_and, and_self]
    cases m with
    | zero => exact q
    | succ j => exact q
theorem names_strs {lo hi : Int} {xs : List D} (h : namesD lo hi (.tup xs) = true) : ∃ ys, strsD xs = some ys ∧ xs = ys.map .str ∧ (ys.length : Int) ≤ hi := by
  rw [namesD, Bool.and_eq_true, Bool.and_eq_true, Bool.and_eq_true, decide_eq_true_eq, decide_eq_true_eq] at h
  obtain ⟨ys, e1, e2⟩ := strs_names h.2.2.1
  refine ⟨ys, e1, e2, ?_⟩
  have := h.2.1
  rw [e2, List.length_map] at this
  exact this
theorem b_is_kind_of (m : Nat) (hm : m ≤ 900) {ds : List D} (f1 : T.fs "is_name" = some fsName) (f2 : T.fs "are_names" = some fsNames) (f3 : T.fs "is_body" = some (fsBody m)) (g1 : T.gv "MOST_PARAMETERS" = some (.int 2)) (h : fsKind m ds n Q E) :
    wB T ir_is_kind_of (ent0 ["fields", "thing", "name", "parameters", "body"] ds) n (eQ Q E) := by
  obtain ⟨fs, d, rfl, hd, q⟩ := h
  unfold ir_is_kind_of ent0
  simp only [wB, wS, wE, wA, wAnd, wOr, wAndT, wOrT, wP, wI, tru, eQ, exAt_eq, IAs.isNil, List.map_cons, List.map_nil, List.cons_append, List.nil_append, List.getElem?_cons_zero, List.getElem?_cons_succ, List.set_cons_zero, List.set_cons_succ, Bool.false_eq_true, if_false, if_true, if_pos, List.any_cons, List.any_nil, ofO_some, ofO_none, setMany, bindT, D.truth, D.isTy, D.isBox, bi_len_tup, bi_len_list, bi_len_str, bi_tuple_list, bi_tuple_tup, bi_list_list, bi_list_tup, bi_int_int, eq_int, ne_int, lt_int, le_int, gt_int, ge_int, Bool.or_false, Bool.or_true, Bool.false_or, Bool.true_or, Bool.and_true, Bool.true_and, Bool.not_true, Bool.not_false, Bool.and_false, Bool.false_and, Option.map_some, reduceCtorEq, and_true, true_and, and_self, f1, f2, f3, g1, List.length_cons, List.length_nil, List.replicate]
  refine ⟨dp_nb hd, ?_⟩
  cases d with
  | tup xs =>
    obtain ⟨j, e, hx⟩ := dp_tup hd
    obtain rfl : m = j := by omega
    simp only [wB, wS, wE, wA, wAnd, wOr, wAndT, wOrT, wP, wI, tru, eQ, exAt_eq, IAs.isNil, List.map_cons, List.map_nil, List.cons_append, List.nil_append, List.getElem?_cons_zero, List.getElem?_cons_succ, List.set_cons_zero, List.set_cons_succ, Bool.false_eq_true, if_false, if_true, if_pos, List.any_cons, List.any_nil, ofO_some, ofO_none, setMany, bindT, D.truth, D.isTy, D.isBox, bi_len_tup, bi_len_list, bi_len_str, bi_tuple_list, bi_tuple_tup, bi_list_list, bi_list_tup, bi_int_int, eq_int, ne_int, lt_int, le_int, gt_int, ge_int, Bool.or_false, Bool.or_true, Bool.false_or, Bool.true_or, Bool.and_true, Bool.true_and, Bool.not_true, Bool.not_false, Bool.and_false, Bool.false_and, Option.map_some, reduceCtorEq, and_true, true_and, and_self]
    match xs, hx, q with
    | [nm, ps, b], hx, q =>
      rw [if_neg (show ¬ (!((([nm, ps, b] : List D).length : Int) == 3)) = true from by show ¬ (!((3 : Int) == 3)) = true; decide)]
      have q : Q (.bl (nameD nm && (match parsD ps with
        | some ns => bodyD fs m ns [] b
        | none => false))) n := q
      simp only [wB, wS, wE, wA, wAnd, wOr, wAndT, wOrT, wP, wI, tru, eQ, exAt_eq, IAs.isNil, List.map_cons, List.map_nil, List.cons_append, List.nil_append, List.getElem?_cons_zero, List.getElem?_cons_succ, List.set_cons_zero, List.set_cons_succ, Bool.false_eq_true, if_false, if_true, if_pos, List.any_cons, List.any_nil, ofO_some, ofO_none, setMany, bindT, D.truth, D.isTy, D.isBox, bi_len_tup, bi_len_list, bi_len_str, bi_tuple_list, bi_tuple_tup, bi_list_list, bi_list_tup, bi_int_int, eq_int, ne_int, lt_int, le_int, gt_int, ge_int, Bool.or_false, Bool.or_true, Bool.false_or, Bool.true_or, Bool.and_true, Bool.true_and, Bool.not_true, Bool.not_false, Bool.and_false, Bool.false_and, Option.map_some, reduceCtorEq, and_true, true_and, and_self]
      refine ⟨nm, rfl, dp_nb (hx nm (by simp)), ?_⟩
      cases h1 : nameD nm with
      | false =>
        rw [h1, Bool.false_and] at q
        simp only [wB, wS, wE, wA, wAnd, wOr, wAndT, wOrT, wP, wI, tru, eQ, exAt_eq, IAs.isNil, List.map_cons, List.map_nil, List.cons_append, List.nil_append, List.getElem?_cons_zero, List.getElem?_cons_succ, List.set_cons_zero, List.set_cons_succ, Bool.false_eq_true, if_false, if_true, if_pos, List.any_cons, List.any_nil, ofO_some, ofO_none, setMany, bindT, D.truth, D.isTy, D.isBox, bi_len_tup, bi_len_list, bi_len_str, bi_tuple_list, bi_tuple_tup, bi_list_list, bi_list_tup, bi_int_int, eq_int, ne_int, lt_int, le_int, gt_int, ge_int, Bool.or_false, Bool.or_true, Bool.false_or, Bool.true_or, Bool.and_true, Bool.true_and, Bool.not_true, Bool.not_false, Bool.and_false, Bool.false_and, Option.map_some, reduceCtorEq, and_true, true_and, and_self]
        exact q
      | true =>
        rw [h1, Bool.true_and] at q
        simp only [wB, wS, wE, wA, wAnd, wOr, wAndT, wOrT, wP, wI, tru, eQ, exAt_eq, IAs.isNil, List.map_cons, List.map_nil, List.cons_append, List.nil_append, List.getElem?_cons_zero, List.getElem?_cons_succ, List.set_cons_zero, List.set_cons_succ, Bool.false_eq_true, if_false, if_true, if_pos, List.any_cons, List.any_nil, ofO_some, ofO_none, setMany, bindT, D.truth, D.isTy, D.isBox, bi_len_tup, bi_len_list, bi_len_str, bi_tuple_list, bi_tuple_tup, bi_list_list, bi_list_tup, bi_int_int, eq_int, ne_int, lt_int, le_int, gt_int, ge_int, Bool.or_false, Bool.or_true, Bool.false_or, Bool.true_or, Bool.and_true, Bool.true_and, Bool.not_true, Bool.not_false, Bool.and_false, Bool.false_and, Option.map_some, reduceCtorEq, and_true, true_and, and_self]
        refine ⟨ps, 0, 2, m, rfl, by decide, hx ps (by simp), ?_⟩
        cases ps with
        | tup xs =>
          rw [parsD] at q
          cases h2 : namesD 0 2 (.tup xs) with
          | false =>
            rw [h2] at q
            simp only [wB, wS, wE, wA, wAnd, wOr, wAndT, wOrT, wP, wI, tru, eQ, exAt_eq, IAs.isNil, List.map_cons, List.map_nil, List.cons_append, List.nil_append, List.getElem?_cons_zero, List.getElem?_cons_succ, List.set_cons_zero, List.set_cons_succ, Bool.false_eq_true, if_false, if_true, if_pos, List.any_cons, List.any_nil, ofO_some, ofO_none, setMany, bindT, D.truth, D.isTy, D.isBox, bi_len_tup, bi_len_list, bi_len_str, bi_tuple_list, bi_tuple_tup, bi_list_list, bi_list_tup, bi_int_int, eq_int, ne_int, lt_int, le_int, gt_int, ge_int, Bool.or_false, Bool.or_true, Bool.false_or, Bool.true_or, Bool.and_true, Bool.true_and, Bool.not_true, Bool.not_false, Bool.and_false, Bool.false_and, Option.map_some, reduceCtorEq, and_true, true_and, and_self] at q ⊢
            exact q
          | true =>
            obtain ⟨ys, e1, e2, e3⟩ := names_strs h2
            rw [h2, if_pos rfl, e1] at q
            have q9 : Q (.bl (bodyD fs m ys [] b)) n := q
            rw [e2]
            simp only [wB, wS, wE, wA, wAnd, wOr, wAndT, wOrT, wP, wI, tru, eQ, exAt_eq, IAs.isNil, List.map_cons, List.map_nil, List.cons_append, List.nil_append, List.getElem?_cons_zero, List.getElem?_cons_succ, List.set_cons_zero, List.set_cons_succ, Bool.false_eq_true, if_false, if_true, if_pos, List.any_cons, List.any_nil, ofO_some, ofO_none, setMany, bindT, D.truth, D.isTy, D.isBox, bi_len_tup, bi_len_list, bi_len_str, bi_tuple_list, bi_tuple_tup, bi_list_list, bi_list_tup, bi_int_int, eq_int, ne_int, lt_int, le_int, gt_int, ge_int, Bool.or_false, Bool.or_true, Bool.false_or, Bool.true_or, Bool.and_true, Bool.true_and, Bool.not_true, Bool.not_false, Bool.and_false, Bool.false_and, Option.map_some, reduceCtorEq, and_true, true_and, and_self]
            exact ⟨Nat.zero_le _, fs, b, ys, [], rfl, hx b (by simp), rfl, by simp; omega, by omega, q9⟩
        | _ =>
          simp only [namesD, wB, wS, wE, wA, wAnd, wOr, wAndT, wOrT, wP, wI, tru, eQ, exAt_eq, IAs.isNil, List.map_cons, List.map_nil, List.cons_append, List.nil_append, List.getElem?_cons_zero, List.getElem?_cons_succ, List.set_cons_zero, List.set_cons_succ, Bool.false_eq_true, if_false, if_true, if_pos, List.any_cons, List.any_nil, ofO_some, ofO_none, setMany, bindT, D.truth, D.isTy, D.isBox, bi_len_tup, bi_len_list, bi_len_str, bi_tuple_list, bi_tuple_tup, bi_list_list, bi_list_tup, bi_int_int, eq_int, ne_int, lt_int, le_int, gt_int, ge_int, Bool.or_false, Bool.or_true, Bool.false_or, Bool.true_or, Bool.and_true, Bool.true_and, Bool.not_true, Bool.not_false, Bool.and_false, Bool.false_and, Option.map_some, reduceCtorEq, and_true, true_and, and_self]
          exact q
    | [], _, q => exact q
    | [_], _, q => exact q
    | [_, _], _, q => exact q
    | x1 :: x2 :: x3 :: x4 :: r, _, q =>
      rw [if_pos (show (!(((x1 :: x2 :: x3 :: x4 :: r).length : Int) == 3)) = true from by
        rw [Bool.not_eq_true', beq_eq_false_iff_ne]
        simp only [List.length_cons]
        omega)]
      exact q
  | _ =>
    simp only [wB, wS, wE, wA, wAnd, wOr, wAndT, wOrT, wP, wI, tru, eQ, exAt_eq, IAs.isNil, List.map_cons, List.map_nil, List.cons_append, List.nil_append, List.getElem?_cons_zero, List.getElem?_cons_succ, List.set_cons_zero, List.set_cons_succ, Bool.false_eq_true, if_false, if_true, if_pos, List.any_cons, List.any_nil, ofO_some, ofO_none, setMany, bindT, D.truth, D.isTy, D.isBox, bi_len_tup, bi_len_list, bi_len_str, bi_tuple_list, bi_tuple_tup, bi_list_list, bi_list_tup, bi_int_int, eq_int, ne_int, lt_int, le_int, gt_int, ge_int, Bool.or_false, Bool.or_true, Bool.false_or, Bool.true_or, Bool.and_true, Bool.true_and, Bool.not_true, Bool.not_false, Bool.and_false, Bool.false_and, Option.map_some, reduceCtorEq, and_true, true_and, and_self]
    exact q
/-! ### tupled -/
mutual
def tupD : D → D
  | .list xs => .tup (tupsD xs)
  | .tup xs => .tup (tupsD xs)
  | d => d
def tupsD : List D → List D
  | [] => []
  | x :: xs => tupD x :: tupsD xs
end
theorem tups_map : ∀ xs : List D, tupsD xs = xs.map tupD
  | [] => by rw [tupsD]; rfl
  | x :: xs => by rw [tupsD, tups_map xs]; rfl
theorem tups_strs (fs : List Str) : tupsD (fs.map .str) = fs.map .str := by
  rw [tups_map, List.map_map]
  refine List.map_congr_left fun z _ => ?_
  show tupD (.str z) = .str z
  rw [tupD]
  all_goals (intro xs h; cases h)
def fsTupled (m : Nat) : FS := fun ds n Q _ => ∃ d, ds = [d] ∧ d.dp m = true ∧ Q (tupD d) n
theorem b_tupled (m : Nat) {ds : List D} (f1 : ∀ j, m = j + 1 → T.fs "tupled" = some (fsTupled j)) (h : fsTupled m ds n Q E) : wB T ir_tupled (ent0 ["thing", "part"] ds) n (eQ Q E) := by
  obtain ⟨d, rfl, hd, q⟩ := h
  unfold ir_tupled ent0
  simp only [wB, wS, wE, wA, wAnd, wOr, wAndT, wOrT, wP, wI, tru, eQ, exAt_eq, IAs.isNil, List.map_cons, List.map_nil, List.cons_append, List.nil_append, List.getElem?_cons_zero, List.getElem?_cons_succ, List.set_cons_zero, List.set_cons_succ, Bool.false_eq_true, if_false, if_true, if_pos, List.any_cons, List.any_nil, ofO_some, ofO_none, setMany, bindT, D.truth, D.isTy, D.isBox, bi_len_tup, bi_len_list, bi_len_str, bi_tuple_list, bi_tuple_tup, bi_list_list, bi_list_tup, bi_int_int, eq_int, ne_int, lt_int, le_int, gt_int, ge_int, Bool.or_false, Bool.or_true, Bool.false_or, Bool.true_or, Bool.and_true, Bool.true_and, Bool.not_true, Bool.not_false, Bool.and_false, Bool.false_and, Option.map_some, reduceCtorEq, and_true, true_and, and_self, List.length_cons, List.length_nil, List.replicate]
  refine ⟨dp_nb hd, ?_⟩
  cases d with
  | tup xs =>
    obtain ⟨j, rfl, hx⟩ := dp_tup hd
    simp only [wB, wS, wE, wA, wAnd, wOr, wAndT, wOrT, wP, wI, tru, eQ, exAt_eq, IAs.isNil, List.map_cons, List.map_nil, List.cons_append, List.nil_append, List.getElem?_cons_zero, List.getElem?_cons_succ, List.set_cons_zero, List.set_cons_succ, Bool.false_eq_true, if_false, if_true, if_pos, List.any_cons, List.any_nil, ofO_some, ofO_none, setMany, bindT, D.truth, D.isTy, D.isBox, bi_len_tup, bi_len_list, bi_len_str, bi_tuple_list, bi_tuple_tup, bi_list_list, bi_list_tup, bi_int_int, eq_int, ne_int, lt_int, le_int, gt_int, ge_int, Bool.or_false, Bool.or_true, Bool.false_or, Bool.true_or, Bool.and_true, Bool.true_and, Bool.not_true, Bool.not_false, Bool.and_false, Bool.false_and, Option.map_some, reduceCtorEq, and_true, true_and, and_self, itemsD, f1 j rfl]
    refine compL_map (g := tupD) (fun d hd n k hk => ⟨d, rfl, hx d hd, hk⟩) ?_
    rw [tupD, tups_map] at q
    exact q
  | list xs =>
    obtain ⟨j, rfl, hx⟩ := dp_list hd
    simp only [wB, wS, wE, wA, wAnd, wOr, wAndT, wOrT, wP, wI, tru, eQ, exAt_eq, IAs.isNil, List.map_cons, List.map_nil, List.cons_append, List.nil_append, List.getElem?_cons_zero, List.getElem?_cons_succ, List.set_cons_zero, List.set_cons_succ, Bool.false_eq_true, if_false, if_true, if_pos, List.any_cons, List.any_nil, ofO_some, ofO_none, setMany, bindT, D.truth, D.isTy, D.isBox, bi_len_tup, bi_len_list, bi_len_str, bi_tuple_list, bi_tuple_tup, bi_list_list, bi_list_tup, bi_int_int, eq_int, ne_int, lt_int, le_int, gt_int, ge_int, Bool.or_false, Bool.or_true, Bool.false_or, Bool.true_or, Bool.and_true, Bool.true_and, Bool.not_true, Bool.not_false, Bool.and_false, Bool.false_and, Option.map_some, reduceCtorEq, and_true, true_and, and_self, itemsD, f1 j rfl]
    refine compL_map (g := tupD) (fun d hd n k hk => ⟨d, rfl, hx d hd, hk⟩) ?_
    rw [tupD, tups_map] at q
    exact q
  | _ =>
    simp only [wB, wS, wE, wA, wAnd, wOr, wAndT, wOrT, wP, wI, tru, eQ, exAt_eq, IAs.isNil, List.map_cons, List.map_nil, List.cons_append, List.nil_append, List.getElem?_cons_zero, List.getElem?_cons_succ, List.set_cons_zero, List.set_cons_succ, Bool.false_eq_true, if_false, if_true, if_pos, List.any_cons, List.any_nil, ofO_some, ofO_none, setMany, bindT, D.truth, D.isTy, D.isBox, bi_len_tup, bi_len_list, bi_len_str, bi_tuple_list, bi_tuple_tup, bi_list_list, bi_list_tup, bi_int_int, eq_int, ne_int, lt_int, le_int, gt_int, ge_int, Bool.or_false, Bool.or_true, Bool.false_or, Bool.true_or, Bool.and_true, Bool.true_and, Bool.not_true, Bool.not_false, Bool.and_false, Bool.false_and, Option.map_some, reduceCtorEq, and_true, true_and, and_self]
    exact q
end
end Dl

set_option Elab.async false
set_option linter.all false
set_option maxRecDepth 100000
set_option maxHeartbeats 4000000
/-! KINDs as trees, and how they lie in data. -/
namespace Dl
open PySem PySem.Spec PyProof.Rows L2
inductive Tm where
  | n (i : Int)
  | s (x : Str)
deriving DecidableEq
def Tm.d : Tm → D
  | .n i => .int i
  | .s x => .str x
inductive Ch where
  | mk (k : Tm) (vs : List Tm)
  | st (k : Tm) (f : Str) (v : Tm)
  | dr (k : Tm)
deriving DecidableEq
def Ch.d : Ch → D
  | .mk k vs => .tup [.str "make", k.d, .tup (vs.map Tm.d)]
  | .st k f v => .tup [.str "set", k.d, .str f, v.d]
  | .dr k => .tup [.str "drop", k.d]
def Ch.bits : Ch → List Tm
  | .mk k vs => k :: vs
  | .st k _ v => [k, v]
  | .dr k => [k]
inductive Bd where
  | say (cs : List Ch) (w : Str)
  | has (t : Tm) (a b : Bd)
  | is (t : Tm) (f : Str) (v : Tm) (a b : Bd)
  | lt (x : Str) (t : Tm) (f : Str) (a : Bd)
def Bd.d : Bd → D
  | .say cs w => .tup [.str "say", .tup (cs.map Ch.d), .str w]
  | .has t a b => .tup [.str "has", t.d, a.d, b.d]
  | .is t f v a b => .tup [.str "is", t.d, .str f, v.d, a.d, b.d]
  | .lt x t f a => .tup [.str "let", .str x, t.d, .str f, a.d]
def Bd.dep : Bd → Nat
  | .say _ _ => 0
  | .has _ a b => max a.dep b.dep + 1
  | .is _ _ _ a b => max a.dep b.dep + 1
  | .lt _ _ _ a => a.dep + 1
def Tm.ok (ns : List Str) : Tm → Prop
  | .n _ => True
  | .s x => x ∈ ns
def Ch.ok (fs ns : List Str) : Ch → Prop
  | .mk k vs => k.ok ns ∧ vs.length = fs.length ∧ ∀ v ∈ vs, v.ok ns
  | .st k f v => k.ok ns ∧ f ∈ fs ∧ v.ok ns
  | .dr k => k.ok ns
def Bd.ok (fs : List Str) : List Str → List Tm → Bd → Prop
  | ns, _, .say cs w => (∀ c ∈ cs, c.ok fs ns) ∧ nameS w = true
  | ns, th, .has t a b => t.ok ns ∧ a.ok fs ns (th ++ [t]) ∧ b.ok fs ns th
  | ns, th, .is t f v a b => t.ok ns ∧ t ∈ th ∧ f ∈ fs ∧ v.ok ns ∧ a.ok fs ns th ∧ b.ok fs ns th
  | ns, th, .lt x t f a => nameS x = true ∧ x ∉ ns ∧ t.ok ns ∧ t ∈ th ∧ f ∈ fs ∧ a.ok fs (ns ++ [x]) th
structure Kd where
  nm : Str
  ps : List Str
  bd : Bd
def Kd.d (k : Kd) : D := .tup [.str k.nm, .tup (k.ps.map .str), k.bd.d]
def Bd.saysAll (p : List Ch → Prop) : Bd → Prop
  | .say cs _ => p cs
  | .has _ a b => a.saysAll p ∧ b.saysAll p
  | .is _ _ _ a b => a.saysAll p ∧ b.saysAll p
  | .lt _ _ _ a => a.saysAll p
def smallC (cs : List Ch) : Prop := cs.length ≤ 100 ∧ ∀ c ∈ cs, c.bits.length ≤ 100
structure Kd.ok (fs : List Str) (k : Kd) : Prop where
  sz : k.bd.saysAll smallC
  nm : nameS k.nm = true
  len : k.ps.length ≤ 2
  nd : k.ps.Nodup
  ps : ∀ p ∈ k.ps, nameS p = true
  bd : k.bd.ok fs k.ps []
  dep : k.bd.dep ≤ 8
structure FOk (fs : List Str) : Prop where
  pos : 1 ≤ fs.length
  len : fs.length ≤ 2
  nd : fs.Nodup
  nm : ∀ f ∈ fs, nameS f = true
structure KsOk (fs : List Str) (ks : List Kd) : Prop where
  ok : ∀ k ∈ ks, k.ok fs
  nd : (ks.map Kd.nm).Nodup
  len : ks.length ≤ 20
def bookD (fs : List Str) (ks : List Kd) : D := .obj "Book" [("own_fields", .tup (fs.map .str)), ("own_kinds", .tup (ks.map Kd.d))]
/-! ### how deep -/
theorem Tm.dp (t : Tm) (k : Nat) : t.d.dp k = true := by cases t <;> rw [Tm.d, D.dp]
theorem str_dp (s : Str) (k : Nat) : (D.str s).dp k = true := by rw [D.dp]
theorem tms_dps (vs : List Tm) (k : Nat) : D.dps k (vs.map Tm.d) = true := dps_of fun x hx => by
  obtain ⟨t, _, rfl⟩ := List.mem_map.mp hx
  exact t.dp k
theorem Ch.dp (c : Ch) (k : Nat) : c.d.dp (k + 2) = true := by
  cases c <;> simp [Ch.d, D.dp, D.dps, Tm.dp, tms_dps]
theorem Bd.dp : ∀ (b : Bd) (k : Nat), b.dep ≤ k → b.d.dp (k + 4) = true
  | .say cs w, k, h => by
    rw [Bd.d, D.dp, D.dps, D.dps, D.dps, D.dps, str_dp, str_dp, D.dp]
    simp only [Bool.true_and, Bool.and_true]
    exact dps_of fun x hx => by
      obtain ⟨c, _, rfl⟩ := List.mem_map.mp hx
      exact c.dp k
  | .has t a b, k, h => by
    rw [Bd.dep] at h
    obtain ⟨j, rfl⟩ : ∃ j, k = j + 1 := ⟨k - 1, by omega⟩
    rw [Bd.d, D.dp, D.dps, D.dps, D.dps, D.dps, D.dps, Tm.dp, str_dp, Bd.dp a j (by omega), Bd.dp b j (by omega)]
    rfl
  | .is t f v a b, k, h => by
    rw [Bd.dep] at h
    obtain ⟨j, rfl⟩ : ∃ j, k = j + 1 := ⟨k - 1, by omega⟩
    rw [Bd.d, D.dp, D.dps, D.dps, D.dps, D.dps, D.dps, D.dps, D.dps, Tm.dp, Tm.dp, str_dp, str_dp, Bd.dp a j (by omega), Bd.dp b j (by omega)]
    rfl
  | .lt x t f a, k, h => by
    rw [Bd.dep] at h
    obtain ⟨j, rfl⟩ : ∃ j, k = j + 1 := ⟨k - 1, by omega⟩
    rw [Bd.d, D.dp, D.dps, D.dps, D.dps, D.dps, D.dps, D.dps, Tm.dp, str_dp, str_dp, str_dp, Bd.dp a j (by omega)]
    rfl
theorem strs_dps (vs : List Str) (k : Nat) : D.dps k (vs.map .str) = true := dps_of fun x hx => by
  obtain ⟨t, _, rfl⟩ := List.mem_map.mp hx
  exact str_dp t k
theorem Kd.dp {k : Kd} (h : k.bd.dep ≤ 8) : k.d.dp 13 = true := by
  rw [Kd.d, D.dp, D.dps, D.dps, D.dps, D.dps, str_dp, Bd.dp k.bd 8 h, D.dp, strs_dps]
  rfl
theorem kds_dps {fs : List Str} {ks : List Kd} (h : ∀ k ∈ ks, Kd.ok fs k) : D.dps 13 (ks.map Kd.d) = true := dps_of fun x hx => by
  obtain ⟨k, hk, rfl⟩ := List.mem_map.mp hx
  exact Kd.dp (h k hk).dep
/-! ### these are KINDs by the program's own look -/
theorem isNum_tm (i : Int) : isNum (.int i) = true := rfl
theorem Tm.termD {ns : List Str} {t : Tm} (h : t.ok ns) : termD ns t.d = true := by
  cases t with
  | n i => rfl
  | s x =>
    have h : x ∈ ns := h
    show (isNum (.str x) || hasS ns (.str x)) = true
    have : hasS ns (.str x) = true := by
      show ns.contains x = true
      simpa using h
    rw [this, Bool.or_true]
theorem isW_self (w : Str) : isW w (.str w) = true := by
  rw [isW_str]
  exact beq_self_eq_true w
theorem Ch.changeD {fs ns : List Str} {c : Ch} (h : c.ok fs ns) : changeD fs ns c.d = true := by
  cases c with
  | mk k vs =>
    obtain ⟨h1, h2, h3⟩ := h
    show (termD ns k.d && (isW "make" (.str "make") && ((vs.map Tm.d).length == fs.length && (vs.map Tm.d).all (termD ns)))) = true
    rw [Tm.termD h1, isW_self, List.length_map, h2, beq_self_eq_true]
    simp only [Bool.true_and, List.all_map, List.all_eq_true]
    exact fun x hx => Tm.termD (h3 x hx)
  | st k f v =>
    obtain ⟨h1, h2, h3⟩ := h
    show (termD ns k.d && (isW "set" (.str "set") && (fs.contains f && termD ns v.d))) = true
    rw [Tm.termD h1, isW_self, Tm.termD h3]
    simpa using h2
  | dr k =>
    show (termD ns k.d && isW "drop" (.str "drop")) = true
    rw [Tm.termD h, isW_self]
    rfl
theorem tm_eqb (t : Tm) : t.d.eqb t.d = true := by
  cases t with
  | n i => show PyData.eqv (.int i) (.int i) = true; simp [PyData.eqv]
  | s x => rw [Tm.d, eqb_str]; exact beq_self_eq_true x
theorem hasA_mem {th : List Tm} {t : Tm} (h : t ∈ th) : hasA (th.map Tm.d) t.d = true := by
  unfold hasA
  rw [List.any_eq_true]
  exact ⟨t.d, List.mem_map.mpr ⟨t, h, rfl⟩, tm_eqb t⟩
theorem hasS_mem {fs : List Str} {f : Str} (h : f ∈ fs) : hasS fs (.str f) = true := by
  show fs.contains f = true
  simpa using h
theorem bodyD_tup (fs ns : List Str) (m : Nat) (th r : List D) (w : Str) : bodyD fs (m + 1) ns th (.tup (.str w :: r)) = (if w == "say" then (match r with
      | [c, nm] => nameD nm && saysD fs ns c
      | _ => false)
    else if w == "has" then (match r with
      | [t, a, b] => termD ns t && (bodyD fs m ns (th ++ [t]) a && bodyD fs m ns th b)
      | _ => false)
    else if w == "is" then (match r with
      | [t, f, v, a, b] => termD ns t && (hasA th t && (hasS fs f && (termD ns v && (bodyD fs m ns th a && bodyD fs m ns th b))))
      | _ => false)
    else if w == "let" then (match r with
      | [nm, t, f, b] => (match newD ns nm with
        | some z => termD ns t && (hasA th t && (hasS fs f && bodyD fs m (ns ++ [z]) th b))
        | none => false)
      | _ => false)
    else false) := by first | (rw [bodyD.eq_def]; done) | (rw [bodyD.eq_def]; rfl)
theorem Bd.bodyD {fs : List Str} : ∀ {b : Bd} {m : Nat} {ns : List Str} {th : List Tm}, b.ok fs ns th → b.dep < m → bodyD fs m ns (th.map Tm.d) b.d = true
  | .say cs w, m, ns, th, h, hm => by
    obtain ⟨j, rfl⟩ : ∃ j, m = j + 1 := ⟨m - 1, by omega⟩
    obtain ⟨h1, h2⟩ := h
    rw [Bd.d, bodyD_tup, if_pos (by decide)]
    show (nameS w && (cs.map Ch.d).all (changeD fs ns)) = true
    rw [h2, List.all_map]
    simp only [Bool.true_and, List.all_eq_true]
    exact fun c hc => Ch.changeD (h1 c hc)
  | .has t a b, m, ns, th, h, hm => by
    rw [Bd.dep] at hm
    obtain ⟨j, rfl⟩ : ∃ j, m = j + 1 := ⟨m - 1, by omega⟩
    obtain ⟨h1, h2, h3⟩ := h
    rw [Bd.d, bodyD_tup, if_neg (by decide), if_pos (by decide)]
    have e := Bd.bodyD h2 (show a.dep < j by omega)
    rw [List.map_append] at e
    show (termD ns t.d && (Dl.bodyD fs j ns (th.map Tm.d ++ [t.d]) a.d && Dl.bodyD fs j ns (th.map Tm.d) b.d)) = true
    rw [Tm.termD h1, Bd.bodyD h3 (show b.dep < j by omega)]
    simpa using e
  | .is t f v a b, m, ns, th, h, hm => by
    rw [Bd.dep] at hm
    obtain ⟨j, rfl⟩ : ∃ j, m = j + 1 := ⟨m - 1, by omega⟩
    obtain ⟨h1, h2, h3, h4, h5, h6⟩ := h
    rw [Bd.d, bodyD_tup, if_neg (by decide), if_neg (by decide), if_pos (by decide)]
    show (termD ns t.d && (hasA (th.map Tm.d) t.d && (hasS fs (.str f) && (termD ns v.d && (Dl.bodyD fs j ns (th.map Tm.d) a.d && Dl.bodyD fs j ns (th.map Tm.d) b.d))))) = true
    rw [Tm.termD h1, hasA_mem h2, hasS_mem h3, Tm.termD h4, Bd.bodyD h5 (show a.dep < j by omega), Bd.bodyD h6 (show b.dep < j by omega)]
    rfl
  | .lt x t f a, m, ns, th, h, hm => by
    rw [Bd.dep] at hm
    obtain ⟨j, rfl⟩ : ∃ j, m = j + 1 := ⟨m - 1, by omega⟩
    obtain ⟨h0, h1, h2, h3, h4, h5⟩ := h
    rw [Bd.d, bodyD_tup, if_neg (by decide), if_neg (by decide), if_neg (by decide), if_pos (by decide)]
    have en : newD ns (.str x) = some x := by
      show (if (nameS x && !ns.contains x) = true then some x else none) = some x
      rw [h0, if_pos]
      simpa using h1
    simp only [en]
    rw [Tm.termD h2, hasA_mem h3, hasS_mem h4, Bd.bodyD h5 (show a.dep < j by omega)]
    rfl
theorem strsD_mapX (zs : List Str) : strsD (zs.map .str) = some zs := by
  induction zs with
  | nil => rfl
  | cons z zs ih => rw [List.map_cons, strsD, ih]; rfl
theorem unlike_nd {xs : List Str} (h : xs.Nodup) : unlike xs = xs := by
  have key : ∀ (ys acc : List Str), (acc ++ ys).Nodup → ys.foldl more1 acc = acc ++ ys := by
    intro ys
    induction ys with
    | nil => intro acc _; simp
    | cons y ys ih =>
      intro acc hn
      have hy : y ∉ acc := fun hm => by
        rw [List.nodup_append] at hn
        exact hn.2.2 y hm y (List.mem_cons_self ..) rfl
      rw [List.foldl_cons]
      have e : more1 acc y = acc ++ [y] := by unfold more1; rw [if_neg hy]
      rw [e, ih (acc ++ [y]) (by simpa using hn)]
      simp
  have := key xs [] (by simpa using h)
  simpa [unlike] using this
theorem names_tup {ps : List Str} {lo hi : Int} (h1 : lo ≤ ps.length) (h2 : (ps.length : Int) ≤ hi) (h3 : ps.Nodup) (h4 : ∀ p ∈ ps, nameS p = true) : namesD lo hi (.tup (ps.map .str)) = true := by
  unfold namesD
  simp only [List.length_map, strsD_mapX, unlike_nd h3]
  simp [h1, h2, List.all_map]
  exact h4
theorem Kd.kindD {fs : List Str} {k : Kd} (h : k.ok fs) : kindD fs 20 k.d = true := by
  rw [Kd.d, Dl.kindD]
  have e1 : parsD (.tup (k.ps.map .str)) = some k.ps := by
    rw [parsD, if_pos (names_tup (by omega) (by have := h.len; omega) h.nd h.ps), strsD_mapX]
  have e2 := Bd.bodyD (th := []) h.bd (show k.bd.dep < 20 by have := h.dep; omega)
  simp only [e1]
  show (nameS k.nm && Dl.bodyD fs 20 k.ps [] k.bd.d) = true
  rw [h.nm]
  simpa using e2
end Dl

set_option Elab.async false
set_option linter.all false
set_option maxRecDepth 100000
set_option maxHeartbeats 4000000
/-! Walks over what is written out of lists; == on what is written. -/
namespace Dl
open PySem PySem.Spec PyProof.Rows L2
theorem compL_enc {α : Type} {e g : α → D} {F : D → Nat → (Option D → Nat → Prop) → Prop} : ∀ {xs : List α} {acc : List D} {n : Nat} {Q : List D → Nat → Prop}, (∀ x ∈ xs, ∀ n k, k (some (g x)) n → F (e x) n k) → Q (acc ++ xs.map g) n → compL F (xs.map e) acc n Q
  | [], acc, n, Q, _, q => by
    rw [List.map_nil, List.append_nil] at q
    exact q
  | x :: xs, acc, n, Q, h, q => by
    refine h x (List.mem_cons_self ..) n _ (compL_enc (fun y hy => h y (List.mem_cons_of_mem _ hy)) ?_)
    rw [List.map_cons] at q
    simpa using q
theorem compL_flt {α : Type} {e g : α → D} {p : α → Bool} {F : D → Nat → (Option D → Nat → Prop) → Prop} : ∀ {xs : List α} {acc : List D} {n : Nat} {Q : List D → Nat → Prop}, (∀ x ∈ xs, ∀ n k, (if p x = true then k (some (g x)) n else k none n) → F (e x) n k) → Q (acc ++ (xs.filter p).map g) n → compL F (xs.map e) acc n Q
  | [], acc, n, Q, _, q => by
    rw [List.filter_nil, List.map_nil, List.append_nil] at q
    exact q
  | x :: xs, acc, n, Q, h, q => by
    refine h x (List.mem_cons_self ..) n _ ?_
    cases hp : p x with
    | true =>
      rw [if_pos rfl]
      rw [List.filter_cons_of_pos hp, List.map_cons] at q
      exact compL_flt (fun y hy => h y (List.mem_cons_of_mem _ hy)) (by simpa using q)
    | false =>
      rw [if_neg (by decide)]
      rw [List.filter_cons_of_neg (by rw [hp]; decide)] at q
      exact compL_flt (fun y hy => h y (List.mem_cons_of_mem _ hy)) q
/-- a comprehension that draws -/
theorem compL_draw {α : Type} {e : α → D} {F : D → Nat → (Option D → Nat → Prop) → Prop} {Q : List D → Nat → Prop} (I : List α → List D → Nat → Prop) (turn : ∀ x rest acc n, I (x :: rest) acc n → ∀ k : Option D → Nat → Prop, (∀ y n', I rest (acc ++ [y]) n' → k (some y) n') → F (e x) n k) (fin : ∀ acc n, I [] acc n → Q acc n) : ∀ (xs : List α) (acc : List D) (n : Nat), I xs acc n → compL F (xs.map e) acc n Q
  | [], acc, n, h => fin acc n h
  | x :: xs, acc, n, h => turn x xs acc n h _ fun y n' h' => compL_draw I turn fin xs (acc ++ [y]) n' h'
theorem forL_enc {α : Type} {e : α → D} {F : D → List Ent → Nat → (List Ent → Nat → Prop) → Prop} {Q : List Ent → Nat → Prop} (I : List α → List Ent → Nat → Prop) (turn : ∀ x rest r n, I (x :: rest) r n → ∀ k : List Ent → Nat → Prop, (∀ r' n', I rest r' n' → k r' n') → F (e x) r n k) (fin : ∀ r n, I [] r n → Q r n) : ∀ (xs : List α) (r : List Ent) (n : Nat), I xs r n → forL F (xs.map e) r n Q
  | [], r, n, h => fin r n h
  | x :: xs, r, n, h => turn x xs r n h _ fun r' n' h' => forL_enc I turn fin xs r' n' h'
theorem compB_enc {α : Type} {e g : α → D} {F : D → Nat → (Option D → Nat → Prop) → Prop} : ∀ {xs : List α} {acc : List D} {n : Nat} {Q : List D → Nat → Prop}, acc.length + xs.length ≤ sizeLine → (∀ x ∈ xs, ∀ n k, k (some (g x)) n → F (e x) n k) → Q (acc ++ xs.map g) n → compB F (xs.map e) acc n Q
  | [], acc, n, Q, _, _, q => by
    rw [List.map_nil, List.append_nil] at q
    exact q
  | x :: xs, acc, n, Q, hl, h, q => by
    rw [List.length_cons] at hl
    refine h x (List.mem_cons_self ..) n _ ⟨by omega, compB_enc (by rw [List.length_append, List.length_singleton]; omega) (fun y hy => h y (List.mem_cons_of_mem _ hy)) ?_⟩
    rw [List.map_cons] at q
    simpa using q
/-! ### == -/
theorem pys_map (xs : List D) : D.pys xs = xs.map D.py := by
  induction xs with
  | nil => rw [D.pys]; rfl
  | cons x xs ih => rw [D.pys, ih]; rfl
theorem eqb_tup (xs ys : List D) : (D.tup xs).eqb (.tup ys) = PyData.eqvAll (D.pys xs) (D.pys ys) := by
  unfold D.eqb
  rw [D.py, D.py, PyData.eqv]
theorem eqb_list (xs ys : List D) : (D.list xs).eqb (.list ys) = PyData.eqvAll (D.pys xs) (D.pys ys) := by
  unfold D.eqb
  rw [D.py, D.py, PyData.eqv]
theorem eqvAll_cons (x y : D) (xs ys : List D) : PyData.eqvAll (D.pys (x :: xs)) (D.pys (y :: ys)) = (x.eqb y && PyData.eqvAll (D.pys xs) (D.pys ys)) := by
  rw [D.pys, D.pys, PyData.eqvAll]
  rfl
theorem eqvAll_nil : PyData.eqvAll (D.pys []) (D.pys []) = true := by rw [D.pys, PyData.eqvAll]
theorem eqvAll_enc {α : Type} [DecidableEq α] {e : α → D} (he : ∀ a b, (e a).eqb (e b) = decide (a = b)) : ∀ xs ys : List α, PyData.eqvAll (D.pys (xs.map e)) (D.pys (ys.map e)) = decide (xs = ys)
  | [], [] => by rw [List.map_nil, eqvAll_nil]; simp
  | [], y :: ys => by rw [List.map_nil, List.map_cons, D.pys, D.pys, PyData.eqvAll]; simp
  | x :: xs, [] => by rw [List.map_nil, List.map_cons, D.pys, D.pys, PyData.eqvAll]; simp
  | x :: xs, y :: ys => by
    rw [List.map_cons, List.map_cons, eqvAll_cons, he, eqvAll_enc he xs ys]
    by_cases h : x = y <;> simp [h]
theorem eqb_tups {α : Type} [DecidableEq α] {e : α → D} (he : ∀ a b, (e a).eqb (e b) = decide (a = b)) (xs ys : List α) : (D.tup (xs.map e)).eqb (.tup (ys.map e)) = decide (xs = ys) := by
  rw [eqb_tup, eqvAll_enc he]
theorem eqb_bl (a b : Bool) : (D.bl a).eqb (.bl b) = decide (a = b) := by
  unfold D.eqb
  rw [D.py, D.py, PyData.eqv]
  cases a <;> cases b <;> rfl
theorem eqb_int (a b : Int) : (D.int a).eqb (.int b) = decide (a = b) := by
  unfold D.eqb
  rw [D.py, D.py, PyData.eqv]
  rw [Bool.eq_iff_iff]
  simp
theorem eqb_strs (a b : Str) : (D.str a).eqb (.str b) = decide (a = b) := by
  rw [eqb_str]
  rw [Bool.eq_iff_iff]
  simp
theorem Tm.eqb (a b : Tm) : a.d.eqb b.d = decide (a = b) := by
  cases a <;> cases b
  · rw [Tm.d, Tm.d, eqb_int]
    simp
  · rfl
  · rfl
  · rw [Tm.d, Tm.d, eqb_strs]
    simp
theorem Ch.eqb (a b : Ch) : a.d.eqb b.d = decide (a = b) := by
  cases a <;> cases b
  · rw [Ch.d, Ch.d, eqb_tup, eqvAll_cons, eqvAll_cons, eqvAll_cons, eqvAll_nil, Tm.eqb, eqb_tups Tm.eqb, eqb_strs]
    simp
  · rw [Ch.d, Ch.d, eqb_tup, eqvAll_cons, eqb_strs]
    rw [decide_eq_false (by decide)]
    simp
  · rw [Ch.d, Ch.d, eqb_tup, eqvAll_cons, eqb_strs]
    rw [decide_eq_false (by decide)]
    simp
  · rw [Ch.d, Ch.d, eqb_tup, eqvAll_cons, eqb_strs]
    rw [decide_eq_false (by decide)]
    simp
  · rw [Ch.d, Ch.d, eqb_tup, eqvAll_cons, eqvAll_cons, eqvAll_cons, eqvAll_cons, eqvAll_nil, Tm.eqb, Tm.eqb, eqb_strs, eqb_strs]
    simp
  · rw [Ch.d, Ch.d, eqb_tup, eqvAll_cons, eqb_strs]
    rw [decide_eq_false (by decide)]
    simp
  · rw [Ch.d, Ch.d, eqb_tup, eqvAll_cons, eqb_strs]
    rw [decide_eq_false (by decide)]
    simp
  · rw [Ch.d, Ch.d, eqb_tup, eqvAll_cons, eqb_strs]
    rw [decide_eq_false (by decide)]
    simp
  · rw [Ch.d, Ch.d, eqb_tup, eqvAll_cons, eqvAll_cons, eqvAll_nil, Tm.eqb, eqb_strs]
    simp
/-! ### what may be compared -/
theorem flats_of {k : Nat} : ∀ {xs : List D}, (∀ x ∈ xs, x.flat k = true) → D.flats k xs = true
  | [], _ => by rw [D.flats]
  | y :: ys, h => by
    rw [D.flats, Bool.and_eq_true]
    exact ⟨h y (List.mem_cons_self ..), flats_of fun x hx => h x (List.mem_cons_of_mem _ hx)⟩
theorem Tm.flat (t : Tm) (k : Nat) : t.d.flat k = true := by cases t <;> rw [Tm.d, D.flat]
theorem str_flat (s : Str) (k : Nat) : (D.str s).flat k = true := by rw [D.flat]
theorem Ch.flat (c : Ch) (k : Nat) : c.d.flat (k + 2) = true := by
  have hv : ∀ vs : List Tm, D.flats k (vs.map Tm.d) = true := fun vs => flats_of fun x hx => by
    obtain ⟨t, _, rfl⟩ := List.mem_map.mp hx
    exact t.flat k
  cases c <;> simp [Ch.d, D.flat, D.flats, Tm.flat, hv]
theorem tup_flat {xs : List D} {k : Nat} (h : ∀ x ∈ xs, x.flat k = true) : (D.tup xs).flat (k + 1) = true := by
  rw [D.flat]
  exact flats_of h
theorem eq_flat {x y : D} (h : x.flat 64 = true) (g : y.flat 64 = true) : cmpop .eq x y = some (x.eqb y) := by
  rw [c_eq, if_pos]
  unfold eqOk
  simp [h, g]
theorem ne_flat {x y : D} (h : x.flat 64 = true) (g : y.flat 64 = true) : cmpop .ne x y = some (!x.eqb y) := by
  rw [c_ne, if_pos]
  unfold neOk
  simp [h, g]
theorem chs_flat (cs : List Ch) : (D.tup (cs.map Ch.d)).flat 64 = true := tup_flat (k := 63) fun x hx => by
  obtain ⟨c, _, rfl⟩ := List.mem_map.mp hx
  exact c.flat 61
theorem ne_chs (a b : List Ch) : cmpop .ne (.tup (a.map Ch.d)) (.tup (b.map Ch.d)) = some (!decide (a = b)) := by
  rw [ne_flat (chs_flat a) (chs_flat b), eqb_tups Ch.eqb]
theorem eq_path (a b : List Bool) : cmpop .eq (.tup (a.map .bl)) (.tup (b.map .bl)) = some (decide (a = b)) := by
  have f : ∀ l : List Bool, (D.tup (l.map .bl)).flat 64 = true := fun l => tup_flat (k := 63) fun x hx => by
    obtain ⟨c, _, rfl⟩ := List.mem_map.mp hx
    rw [D.flat]
  rw [eq_flat (f a) (f b), eqb_tups eqb_bl]
/-! ### trees -/
structure Br where
  path : List Bool
  many : Nat
  lets : List Str
  cs : List Ch
  w : Str
def Br.d (r : Br) : D := .tup [.tup (r.path.map .bl), .int r.many, .tup (r.lets.map .str), .tup (r.cs.map Ch.d), .str r.w]
def Bd.brs : Bd → List Br
  | .say cs w => [⟨[], 0, [], cs, w⟩]
  | .has _ a b => (a.brs.map fun r => ⟨true :: r.path, r.many + 1, r.lets, r.cs, r.w⟩) ++ (b.brs.map fun r => ⟨false :: r.path, r.many + 1, r.lets, r.cs, r.w⟩)
  | .is _ _ _ a b => (a.brs.map fun r => ⟨true :: r.path, r.many + 1, r.lets, r.cs, r.w⟩) ++ (b.brs.map fun r => ⟨false :: r.path, r.many + 1, r.lets, r.cs, r.w⟩)
  | .lt x _ _ a => a.brs.map fun r => ⟨r.path, r.many + 1, x :: r.lets, r.cs, r.w⟩
theorem Bd.brs_ne : ∀ b : Bd, b.brs ≠ []
  | .say _ _ => by simp [Bd.brs]
  | .has _ a _ => by simp [Bd.brs, Bd.brs_ne a]
  | .is _ _ _ a _ => by simp [Bd.brs, Bd.brs_ne a]
  | .lt _ _ _ a => by simp [Bd.brs, Bd.brs_ne a]
theorem Bd.brs_len : ∀ b : Bd, b.brs.length ≤ 2 ^ b.dep
  | .say _ _ => by simp [Bd.brs, Bd.dep]
  | .has _ a b => by
    have h1 := Bd.brs_len a
    have h2 := Bd.brs_len b
    have e1 : 2 ^ a.dep ≤ 2 ^ (max a.dep b.dep) := Nat.pow_le_pow_right (by decide) (by omega)
    have e2 : 2 ^ b.dep ≤ 2 ^ (max a.dep b.dep) := Nat.pow_le_pow_right (by decide) (by omega)
    rw [Bd.brs, Bd.dep, List.length_append, List.length_map, List.length_map, Nat.pow_succ]
    omega
  | .is _ _ _ a b => by
    have h1 := Bd.brs_len a
    have h2 := Bd.brs_len b
    have e1 : 2 ^ a.dep ≤ 2 ^ (max a.dep b.dep) := Nat.pow_le_pow_right (by decide) (by omega)
    have e2 : 2 ^ b.dep ≤ 2 ^ (max a.dep b.dep) := Nat.pow_le_pow_right (by decide) (by omega)
    rw [Bd.brs, Bd.dep, List.length_append, List.length_map, List.length_map, Nat.pow_succ]
    omega
  | .lt _ _ _ a => by
    have h1 := Bd.brs_len a
    rw [Bd.brs, Bd.dep, List.length_map, Nat.pow_succ]
    omega
theorem Bd.brs_small {b : Bd} (h : b.dep ≤ 8) : b.brs.length ≤ 256 := Nat.le_trans b.brs_len (Nat.le_trans (Nat.pow_le_pow_right (by decide) h) (by decide))
theorem Bd.brs_in : ∀ {b : Bd} {r : Br}, r ∈ b.brs → r.path.length ≤ b.dep ∧ r.lets.length ≤ b.dep
  | .say cs w, r, h => by
    cases List.mem_singleton.mp h
    exact ⟨Nat.le_refl _, Nat.le_refl _⟩
  | .has _ a b, r, h => by
    rw [Bd.brs] at h
    rw [Bd.dep]
    rcases List.mem_append.mp h with h | h <;>
    · obtain ⟨q, hq, rfl⟩ := List.mem_map.mp h
      have := Bd.brs_in hq
      simp only [List.length_cons]
      omega
  | .is _ _ _ a b, r, h => by
    rw [Bd.brs] at h
    rw [Bd.dep]
    rcases List.mem_append.mp h with h | h <;>
    · obtain ⟨q, hq, rfl⟩ := List.mem_map.mp h
      have := Bd.brs_in hq
      simp only [List.length_cons]
      omega
  | .lt _ _ _ a, r, h => by
    rw [Bd.brs] at h
    rw [Bd.dep]
    obtain ⟨q, hq, rfl⟩ := List.mem_map.mp h
    have := Bd.brs_in hq
    simp only [List.length_cons]
    omega
theorem Bd.brs_says {p : List Ch → Prop} : ∀ {b : Bd} {r : Br}, b.saysAll p → r ∈ b.brs → p r.cs
  | .say cs w, r, s, h => by
    cases List.mem_singleton.mp h
    exact s
  | .has _ a b, r, s, h => by
    rw [Bd.brs] at h
    rcases List.mem_append.mp h with h | h
    · obtain ⟨q, hq, rfl⟩ := List.mem_map.mp h
      exact Bd.brs_says (b := a) (r := q) s.1 hq
    · obtain ⟨q, hq, rfl⟩ := List.mem_map.mp h
      exact Bd.brs_says (b := b) (r := q) s.2 hq
  | .is _ _ _ a b, r, s, h => by
    rw [Bd.brs] at h
    rcases List.mem_append.mp h with h | h
    · obtain ⟨q, hq, rfl⟩ := List.mem_map.mp h
      exact Bd.brs_says (b := a) (r := q) s.1 hq
    · obtain ⟨q, hq, rfl⟩ := List.mem_map.mp h
      exact Bd.brs_says (b := b) (r := q) s.2 hq
  | .lt _ _ _ a, r, s, h => by
    rw [Bd.brs] at h
    obtain ⟨q, hq, rfl⟩ := List.mem_map.mp h
    exact Bd.brs_says (b := a) (r := q) s hq
/-- a path tells its branch -/
theorem Bd.brs_path : ∀ {b : Bd} {r q : Br}, r ∈ b.brs → q ∈ b.brs → r.path = q.path → r = q
  | .say cs w, r, q, h, g, _ => by
    rw [List.mem_singleton.mp h, List.mem_singleton.mp g]
  | .has _ a b, r, q, h, g, e => by
    rw [Bd.brs] at h g
    rcases List.mem_append.mp h with h | h <;> rcases List.mem_append.mp g with g | g <;> obtain ⟨x, hx, rfl⟩ := List.mem_map.mp h <;> obtain ⟨y, hy, rfl⟩ := List.mem_map.mp g
    · rw [Bd.brs_path hx hy (List.cons.inj e).2]
    · cases (List.cons.inj e).1
    · cases (List.cons.inj e).1
    · rw [Bd.brs_path hx hy (List.cons.inj e).2]
  | .is _ _ _ a b, r, q, h, g, e => by
    rw [Bd.brs] at h g
    rcases List.mem_append.mp h with h | h <;> rcases List.mem_append.mp g with g | g <;> obtain ⟨x, hx, rfl⟩ := List.mem_map.mp h <;> obtain ⟨y, hy, rfl⟩ := List.mem_map.mp g
    · rw [Bd.brs_path hx hy (List.cons.inj e).2]
    · cases (List.cons.inj e).1
    · cases (List.cons.inj e).1
    · rw [Bd.brs_path hx hy (List.cons.inj e).2]
  | .lt _ _ _ a, r, q, h, g, e => by
    rw [Bd.brs] at h g
    obtain ⟨x, hx, rfl⟩ := List.mem_map.mp h
    obtain ⟨y, hy, rfl⟩ := List.mem_map.mp g
    rw [Bd.brs_path hx hy e]
end Dl

set_option Elab.async false
set_option linter.all false
set_option maxRecDepth 100000
set_option maxHeartbeats 4000000
/-! The program's own functions over trees. -/
namespace Dl
open PySem PySem.Spec PyProof.Rows L2
theorem comp2_enc {α β : Type} {e : α → D} {e2 : β → D} {g : α → β → D} {sub : α → List β} {rOf : α → List Ent} {F : D → Nat → (List Ent → List D → Nat → Prop) → Prop} {h : List Ent → D → Nat → (Option D → Nat → Prop) → Prop} : ∀ {xs : List α} {acc : List D} {n : Nat} {Q : List D → Nat → Prop},
    acc.length + (xs.map fun x => (sub x).length).sum ≤ sizeLine → (∀ x ∈ xs, ∀ n (k : List Ent → List D → Nat → Prop), k (rOf x) ((sub x).map e2) n → F (e x) n k) → (∀ x ∈ xs, ∀ y ∈ sub x, ∀ n k, k (some (g x y)) n → h (rOf x) (e2 y) n k) →
    Q (acc ++ xs.flatMap fun x => (sub x).map (g x)) n → comp2L F h (xs.map e) acc n Q
  | [], acc, n, Q, _, _, _, q => by
    rw [List.flatMap_nil, List.append_nil] at q
    exact q
  | x :: xs, acc, n, Q, hl, h1, h2, q => by
    rw [List.map_cons, List.sum_cons] at hl
    refine h1 x (List.mem_cons_self ..) n _ (compB_enc (by omega) (h2 x (List.mem_cons_self ..)) (comp2_enc ?_ (fun y hy => h1 y (List.mem_cons_of_mem _ hy)) (fun y hy => h2 y (List.mem_cons_of_mem _ hy)) ?_))
    · rw [List.length_append, List.length_map]
      omega
    · rw [List.flatMap_cons] at q
      simpa using q
theorem forL_enumE {α : Type} {e : α → D} {F : D → List Ent → Nat → (List Ent → Nat → Prop) → Prop} {Q : List Ent → Nat → Prop} (I : Nat → List α → List Ent → Nat → Prop) (turn : ∀ i x rest r n, I i (x :: rest) r n → ∀ k : List Ent → Nat → Prop, (∀ r' n', I (i + 1) rest r' n' → k r' n') → F (.tup [.int (i : Nat), e x]) r n k) (fin : ∀ i r n, I i [] r n → Q r n) : ∀ (i : Nat) (xs : List α) (r : List Ent) (n : Nat), I i xs r n → forL F (enumD i (xs.map e)) r n Q
  | i, [], r, n, h => fin i r n h
  | i, x :: xs, r, n, h => by
    rw [List.map_cons, enumD]
    refine turn i x xs r n h _ fun r' n' h' => ?_
    have := forL_enumE I turn fin (i + 1) xs r' n' h'
    exact this
theorem k_ss : isW "say" (.str "say") = true := isW_self _
theorem k_ms : isW "make" (.str "make") = true := isW_self _
theorem k_st : isW "set" (.str "set") = true := isW_self _
theorem k_ll : isW "let" (.str "let") = true := isW_self _
theorem k_hs : isW "say" (.str "has") = false := by rw [isW_str]; decide
theorem k_is : isW "say" (.str "is") = false := by rw [isW_str]; decide
theorem k_ls : isW "say" (.str "let") = false := by rw [isW_str]; decide
theorem k_hl : isW "let" (.str "has") = false := by rw [isW_str]; decide
theorem k_il : isW "let" (.str "is") = false := by rw [isW_str]; decide
theorem k_sm : isW "make" (.str "set") = false := by rw [isW_str]; decide
theorem k_dm : isW "make" (.str "drop") = false := by rw [isW_str]; decide
theorem k_ds : isW "set" (.str "drop") = false := by rw [isW_str]; decide
theorem eqw (y z : Str) : cmpop .eq (.str y) (.str z) = some (isW z (.str y)) := eq_w rfl z
theorem ixm1_4 (a b c d : D) : getI (.tup [a, b, c, d]) (.int (-1)) = some d := rfl
theorem ixm2_4 (a b c d : D) : getI (.tup [a, b, c, d]) (.int (-2)) = some c := rfl
theorem ixm1_6 (a b c d e f : D) : getI (.tup [a, b, c, d, e, f]) (.int (-1)) = some f := rfl
theorem ixm2_6 (a b c d e f : D) : getI (.tup [a, b, c, d, e, f]) (.int (-2)) = some e := rfl
/-! ### promises -/
def fsTerms : FS := fun ds n Q _ => ∃ c : Ch, ds = [c.d] ∧ c.bits.length ≤ 100 ∧ Q (.list (c.bits.map Tm.d)) n
def readP (lets : List Str) (cs : List Ch) : Bool := (cs.flatMap Ch.bits).any fun t => hasS lets t.d
def fsRead : FS := fun ds n Q _ => ∃ lets cs, ds = [.tup (lets.map .str), .tup (cs.map Ch.d)] ∧ smallC cs ∧ Q (.bl (readP lets cs)) n
def hidesP (a b : Br) : Bool := decide (a.w = b.w) && (if a.path = b.path then readP a.lets a.cs else !decide (a.cs = b.cs))
def fsHides : FS := fun ds n Q _ => ∃ a b : Br, ds = [a.d, b.d] ∧ smallC a.cs ∧ Q (.bl (hidesP a b)) n
def fsBrs (m : Nat) : FS := fun ds n Q _ => ∃ b : Bd, ds = [b.d] ∧ b.dep ≤ m ∧ b.dep ≤ 8 ∧ Q (.list (b.brs.map Br.d)) n
def fsGet : FS := fun ds n Q _ => ∃ fs ks k, ds = [bookD fs ks, .str k.nm] ∧ k ∈ ks ∧ (ks.map Kd.nm).Nodup ∧ Q k.d n
def fsHas : FS := fun ds n Q _ => ∃ fs ks x, ds = [bookD fs ks, .str x] ∧ Q (.bl (ks.any fun k => k.nm == x)) n
def hidP (b : Bd) : Option (Br × Br) := b.brs.findSome? fun o => b.brs.findSome? fun q => if hidesP o q = true then some (o, q) else none
def hidD : Option (Br × Br) → D
  | none => .non
  | some (o, q) => .tup [.str o.w, .tup (o.path.map .bl), .tup (q.path.map .bl)]
def fsHiding : FS := fun ds n Q _ => ∃ fs ks k, ds = [bookD fs ks, .str k.nm] ∧ k ∈ ks ∧ KsOk fs ks ∧ Q (hidD (hidP k.bd)) n
def tellP (b : Bd) : Bool := (hidP b).isNone
def fsTelling : FS := fun ds n Q _ => ∃ fs ks k, ds = [bookD fs ks, .str k.nm] ∧ k ∈ ks ∧ KsOk fs ks ∧ Q (.bl (tellP k.bd)) n
def lenP (b : Bd) : Int := maxL (b.brs.map fun r => (r.many : Int))
def fsLength : FS := fun ds n Q _ => ∃ fs ks k, ds = [bookD fs ks, .str k.nm] ∧ k ∈ ks ∧ KsOk fs ks ∧ Q (.int (lenP k.bd)) n
section
variable {T : Tab} {n : Nat} {Q : D → Nat → Prop} {E : QX}
theorem b_terms_of {ds : List D} (h : fsTerms ds n Q E) : wB T ir_terms_of (ent0 ["change"] ds) n (eQ Q E) := by
  obtain ⟨c, rfl, hl, q⟩ := h
  unfold ir_terms_of ent0
  have hs : 100 ≤ sizeLine := by rw [sizeLine_eq]; decide
  cases c with
  | mk k vs =>
    simp only [Ch.d, wB, wS, wE, wA, wAnd, wOr, wAndT, wOrT, wP, wI, tru, eQ, exAt_eq, IAs.isNil, List.map_cons, List.map_nil, List.cons_append, List.nil_append, List.getElem?_cons_zero, List.getElem?_cons_succ, List.set_cons_zero, List.set_cons_succ, Bool.false_eq_true, if_false, if_true, if_pos, List.any_cons, List.any_nil, ofO_some, ofO_none, setMany, bindT, D.truth, D.isTy, D.isBox, bi_len_tup, bi_len_list, bi_len_str, bi_tuple_list, bi_tuple_tup, bi_list_list, bi_list_tup, bi_int_int, eq_int, ne_int, lt_int, le_int, gt_int, ge_int, Bool.or_false, Bool.or_true, Bool.false_or, Bool.true_or, Bool.and_true, Bool.true_and, Bool.not_true, Bool.not_false, Bool.and_false, Bool.false_and, Option.map_some, reduceCtorEq, and_true, true_and, and_self, ix0, ix1, ix2, eqw, k_ms]
    refine ⟨?_, ?_⟩
    · simp only [Ch.bits, List.length_cons] at hl
      simp only [List.length_cons, List.length_append, List.length_map, List.length_nil]
      omega
    · simpa [Ch.bits] using q
  | st k f v =>
    simp only [Ch.d, wB, wS, wE, wA, wAnd, wOr, wAndT, wOrT, wP, wI, tru, eQ, exAt_eq, IAs.isNil, List.map_cons, List.map_nil, List.cons_append, List.nil_append, List.getElem?_cons_zero, List.getElem?_cons_succ, List.set_cons_zero, List.set_cons_succ, Bool.false_eq_true, if_false, if_true, if_pos, List.any_cons, List.any_nil, ofO_some, ofO_none, setMany, bindT, D.truth, D.isTy, D.isBox, bi_len_tup, bi_len_list, bi_len_str, bi_tuple_list, bi_tuple_tup, bi_list_list, bi_list_tup, bi_int_int, eq_int, ne_int, lt_int, le_int, gt_int, ge_int, Bool.or_false, Bool.or_true, Bool.false_or, Bool.true_or, Bool.and_true, Bool.true_and, Bool.not_true, Bool.not_false, Bool.and_false, Bool.false_and, Option.map_some, reduceCtorEq, and_true, true_and, and_self, ix0, ix1, ix3, eqw, k_sm, k_st]
    exact ⟨by simp only [List.length_cons, List.length_nil]; omega, q⟩
  | dr k =>
    simp only [Ch.d, wB, wS, wE, wA, wAnd, wOr, wAndT, wOrT, wP, wI, tru, eQ, exAt_eq, IAs.isNil, List.map_cons, List.map_nil, List.cons_append, List.nil_append, List.getElem?_cons_zero, List.getElem?_cons_succ, List.set_cons_zero, List.set_cons_succ, Bool.false_eq_true, if_false, if_true, if_pos, List.any_cons, List.any_nil, ofO_some, ofO_none, setMany, bindT, D.truth, D.isTy, D.isBox, bi_len_tup, bi_len_list, bi_len_str, bi_tuple_list, bi_tuple_tup, bi_list_list, bi_list_tup, bi_int_int, eq_int, ne_int, lt_int, le_int, gt_int, ge_int, Bool.or_false, Bool.or_true, Bool.false_or, Bool.true_or, Bool.and_true, Bool.true_and, Bool.not_true, Bool.not_false, Bool.and_false, Bool.false_and, Option.map_some, reduceCtorEq, and_true, true_and, and_self, ix0, ix1, eqw, k_dm, k_ds]
    exact ⟨by simp only [List.length_cons, List.length_nil]; omega, q⟩
theorem tm_nb (t : Tm) : t.d.isBox = false := by cases t <;> rfl
theorem any_bools (xs : List Bool) : biD .any [.list (xs.map .bl)] = some (.bl (xs.any id)) := by
  have e : bools (xs.map .bl) = some xs := by
    induction xs with
    | nil => rfl
    | cons x xs ih => rw [List.map_cons, bools, ih]; rfl
  show (bools (xs.map .bl)).map _ = _
  rw [e]
  rfl
theorem b_has_read_name {ds : List D} (f1 : T.fs "terms_of" = some fsTerms) (h : fsRead ds n Q E) : wB T ir_has_read_name (ent0 ["lets", "changes", "change", "term"] ds) n (eQ Q E) := by
  obtain ⟨lets, cs, rfl, ⟨h1, h2⟩, q⟩ := h
  unfold ir_has_read_name ent0
  simp only [wB, wS, wE, wA, wAnd, wOr, wAndT, wOrT, wP, wI, tru, eQ, exAt_eq, IAs.isNil, List.map_cons, List.map_nil, List.cons_append, List.nil_append, List.getElem?_cons_zero, List.getElem?_cons_succ, List.set_cons_zero, List.set_cons_succ, Bool.false_eq_true, if_false, if_true, if_pos, List.any_cons, List.any_nil, ofO_some, ofO_none, setMany, bindT, D.truth, D.isTy, D.isBox, bi_len_tup, bi_len_list, bi_len_str, bi_tuple_list, bi_tuple_tup, bi_list_list, bi_list_tup, bi_int_int, eq_int, ne_int, lt_int, le_int, gt_int, ge_int, Bool.or_false, Bool.or_true, Bool.false_or, Bool.true_or, Bool.and_true, Bool.true_and, Bool.not_true, Bool.not_false, Bool.and_false, Bool.false_and, Option.map_some, reduceCtorEq, and_true, true_and, and_self, f1, List.length_cons, List.length_nil, List.replicate, itemsD, Tg.slots, wipeR]
  refine comp2_enc (e2 := Tm.d) (sub := Ch.bits) (g := fun _ t => .bl (hasS lets t.d)) (rOf := fun c => [.sh (.tup (lets.map .str)), .sh (.tup (cs.map Ch.d)), .sh c.d, .no]) ?_ ?_ ?_ ?_
  · have : ∀ l : List Ch, (∀ c ∈ l, c.bits.length ≤ 100) → (l.map fun x => x.bits.length).sum ≤ 100 * l.length := by
      intro l
      induction l with
      | nil => intro _; simp
      | cons x l ih =>
        intro hh
        have i1 := ih fun c hc => hh c (List.mem_cons_of_mem _ hc)
        have i2 := hh x (List.mem_cons_self ..)
        rw [List.map_cons, List.sum_cons, List.length_cons]
        omega
    have := this cs h2
    rw [sizeLine_eq]
    simp only [List.length_nil]
    omega
  · intro c hc n k hk
    exact ⟨c, rfl, h2 c hc, hk⟩
  · intro c hc t ht n k hk
    simp only [wB, wS, wE, wA, wAnd, wOr, wAndT, wOrT, wP, wI, tru, eQ, exAt_eq, IAs.isNil, List.map_cons, List.map_nil, List.cons_append, List.nil_append, List.getElem?_cons_zero, List.getElem?_cons_succ, List.set_cons_zero, List.set_cons_succ, Bool.false_eq_true, if_false, if_true, if_pos, List.any_cons, List.any_nil, ofO_some, ofO_none, setMany, bindT, D.truth, D.isTy, D.isBox, bi_len_tup, bi_len_list, bi_len_str, bi_tuple_list, bi_tuple_tup, bi_list_list, bi_list_tup, bi_int_int, eq_int, ne_int, lt_int, le_int, gt_int, ge_int, Bool.or_false, Bool.or_true, Bool.false_or, Bool.true_or, Bool.and_true, Bool.true_and, Bool.not_true, Bool.not_false, Bool.and_false, Bool.false_and, Option.map_some, reduceCtorEq, and_true, true_and, and_self, in_strs_tup (tm_nb t)]
    exact hk
  · simp only [List.nil_append]
    have e : (cs.flatMap fun x => x.bits.map fun t => D.bl (hasS lets t.d)) = ((cs.flatMap Ch.bits).map fun t => hasS lets t.d).map .bl := by
      rw [List.map_map, List.map_flatMap]
      rfl
    rw [e, any_bools]
    simp only [wB, wS, wE, wA, wAnd, wOr, wAndT, wOrT, wP, wI, tru, eQ, exAt_eq, IAs.isNil, List.map_cons, List.map_nil, List.cons_append, List.nil_append, List.getElem?_cons_zero, List.getElem?_cons_succ, List.set_cons_zero, List.set_cons_succ, Bool.false_eq_true, if_false, if_true, if_pos, List.any_cons, List.any_nil, ofO_some, ofO_none, setMany, bindT, D.truth, D.isTy, D.isBox, bi_len_tup, bi_len_list, bi_len_str, bi_tuple_list, bi_tuple_tup, bi_list_list, bi_list_tup, bi_int_int, eq_int, ne_int, lt_int, le_int, gt_int, ge_int, Bool.or_false, Bool.or_true, Bool.false_or, Bool.true_or, Bool.and_true, Bool.true_and, Bool.not_true, Bool.not_false, Bool.and_false, Bool.false_and, Option.map_some, reduceCtorEq, and_true, true_and, and_self]
    have e2 : (((cs.flatMap Ch.bits).map fun t => hasS lets t.d).any id) = readP lets cs := by
      rw [List.any_map]
      rfl
    rw [e2]
    exact q
theorem b_hides {ds : List D} (f1 : T.fs "has_read_name" = some fsRead) (h : fsHides ds n Q E) : wB T ir_hides (ent0 ["one", "other", "path", "many", "lets", "changes", "word", "its_path", "its_many", "its_lets", "its_changes", "its_word"] ds) n (eQ Q E) := by
  obtain ⟨a, b, rfl, hs, q⟩ := h
  unfold ir_hides ent0
  simp only [Br.d, wB, wS, wE, wA, wAnd, wOr, wAndT, wOrT, wP, wI, tru, eQ, exAt_eq, IAs.isNil, List.map_cons, List.map_nil, List.cons_append, List.nil_append, List.getElem?_cons_zero, List.getElem?_cons_succ, List.set_cons_zero, List.set_cons_succ, Bool.false_eq_true, if_false, if_true, if_pos, List.any_cons, List.any_nil, ofO_some, ofO_none, setMany, bindT, D.truth, D.isTy, D.isBox, bi_len_tup, bi_len_list, bi_len_str, bi_tuple_list, bi_tuple_tup, bi_list_list, bi_list_tup, bi_int_int, eq_int, ne_int, lt_int, le_int, gt_int, ge_int, Bool.or_false, Bool.or_true, Bool.false_or, Bool.true_or, Bool.and_true, Bool.true_and, Bool.not_true, Bool.not_false, Bool.and_false, Bool.false_and, Option.map_some, reduceCtorEq, and_true, true_and, and_self, f1, List.length_cons, List.length_nil, List.replicate, ne_w (x := D.str a.w) rfl, isW_str]
  unfold hidesP at q
  by_cases hw : a.w = b.w
  · have e : (a.w == b.w) = true := by rw [hw]; exact beq_self_eq_true _
    rw [e]
    rw [decide_eq_true hw] at q
    simp only [wB, wS, wE, wA, wAnd, wOr, wAndT, wOrT, wP, wI, tru, eQ, exAt_eq, IAs.isNil, List.map_cons, List.map_nil, List.cons_append, List.nil_append, List.getElem?_cons_zero, List.getElem?_cons_succ, List.set_cons_zero, List.set_cons_succ, Bool.false_eq_true, if_false, if_true, if_pos, List.any_cons, List.any_nil, ofO_some, ofO_none, setMany, bindT, D.truth, D.isTy, D.isBox, bi_len_tup, bi_len_list, bi_len_str, bi_tuple_list, bi_tuple_tup, bi_list_list, bi_list_tup, bi_int_int, eq_int, ne_int, lt_int, le_int, gt_int, ge_int, Bool.or_false, Bool.or_true, Bool.false_or, Bool.true_or, Bool.and_true, Bool.true_and, Bool.not_true, Bool.not_false, Bool.and_false, Bool.false_and, Option.map_some, reduceCtorEq, and_true, true_and, and_self, eq_path]
    by_cases hp : a.path = b.path
    · rw [decide_eq_true hp]
      rw [if_pos hp] at q
      simp only [wB, wS, wE, wA, wAnd, wOr, wAndT, wOrT, wP, wI, tru, eQ, exAt_eq, IAs.isNil, List.map_cons, List.map_nil, List.cons_append, List.nil_append, List.getElem?_cons_zero, List.getElem?_cons_succ, List.set_cons_zero, List.set_cons_succ, Bool.false_eq_true, if_false, if_true, if_pos, List.any_cons, List.any_nil, ofO_some, ofO_none, setMany, bindT, D.truth, D.isTy, D.isBox, bi_len_tup, bi_len_list, bi_len_str, bi_tuple_list, bi_tuple_tup, bi_list_list, bi_list_tup, bi_int_int, eq_int, ne_int, lt_int, le_int, gt_int, ge_int, Bool.or_false, Bool.or_true, Bool.false_or, Bool.true_or, Bool.and_true, Bool.true_and, Bool.not_true, Bool.not_false, Bool.and_false, Bool.false_and, Option.map_some, reduceCtorEq, and_true, true_and, and_self]
      exact ⟨a.lets, a.cs, rfl, hs, by simpa using q⟩
    · rw [decide_eq_false hp]
      rw [if_neg hp] at q
      simp only [wB, wS, wE, wA, wAnd, wOr, wAndT, wOrT, wP, wI, tru, eQ, exAt_eq, IAs.isNil, List.map_cons, List.map_nil, List.cons_append, List.nil_append, List.getElem?_cons_zero, List.getElem?_cons_succ, List.set_cons_zero, List.set_cons_succ, Bool.false_eq_true, if_false, if_true, if_pos, List.any_cons, List.any_nil, ofO_some, ofO_none, setMany, bindT, D.truth, D.isTy, D.isBox, bi_len_tup, bi_len_list, bi_len_str, bi_tuple_list, bi_tuple_tup, bi_list_list, bi_list_tup, bi_int_int, eq_int, ne_int, lt_int, le_int, gt_int, ge_int, Bool.or_false, Bool.or_true, Bool.false_or, Bool.true_or, Bool.and_true, Bool.true_and, Bool.not_true, Bool.not_false, Bool.and_false, Bool.false_and, Option.map_some, reduceCtorEq, and_true, true_and, and_self, ne_chs]
      simpa using q
  · have e : (a.w == b.w) = false := by simpa using hw
    rw [e]
    rw [decide_eq_false hw] at q
    simp only [wB, wS, wE, wA, wAnd, wOr, wAndT, wOrT, wP, wI, tru, eQ, exAt_eq, IAs.isNil, List.map_cons, List.map_nil, List.cons_append, List.nil_append, List.getElem?_cons_zero, List.getElem?_cons_succ, List.set_cons_zero, List.set_cons_succ, Bool.false_eq_true, if_false, if_true, if_pos, List.any_cons, List.any_nil, ofO_some, ofO_none, setMany, bindT, D.truth, D.isTy, D.isBox, bi_len_tup, bi_len_list, bi_len_str, bi_tuple_list, bi_tuple_tup, bi_list_list, bi_list_tup, bi_int_int, eq_int, ne_int, lt_int, le_int, gt_int, ge_int, Bool.or_false, Bool.or_true, Bool.false_or, Bool.true_or, Bool.and_true, Bool.true_and, Bool.not_true, Bool.not_false, Bool.and_false, Bool.false_and, Option.map_some, reduceCtorEq, and_true, true_and, and_self]
    exact q
theorem b_branches_of (m : Nat) {ds : List D} (f1 : ∀ j, m = j + 1 → T.fs "branches_of" = some (fsBrs j)) (h : fsBrs m ds n Q E) : wB T ir_branches_of (ent0 ["body", "rows", "found", "truth", "part", "path", "many", "names", "changes", "word"] ds) n (eQ Q E) := by
  obtain ⟨b, rfl, hm, h8, q⟩ := h
  unfold ir_branches_of ent0
  have hs : 2000 ≤ sizeLine := by rw [sizeLine_eq]; decide
  have add1 : ∀ i : Nat, binop .add (.int (i : Nat)) (.int 1) = some (.int ((i + 1 : Nat) : Int)) := fun i => rfl
  have two : ∀ (x0 : D) (a c : Bd), a.dep ≤ 8 → c.dep ≤ 8 → (∃ j, a.dep ≤ j ∧ c.dep ≤ j ∧ T.fs "branches_of" = some (fsBrs j)) → a.brs.length + c.brs.length ≤ 1000 →
      Q (.list ((a.brs.map fun r => (⟨true :: r.path, r.many + 1, r.lets, r.cs, r.w⟩ : Br)) ++ (c.brs.map fun r => (⟨false :: r.path, r.many + 1, r.lets, r.cs, r.w⟩ : Br)) |>.map Br.d)) n →
      forL (fun d r n k => ofO (bindT (.many [3, 4]) r d) fun r' => wI T (.ex (.call "branches_of" (.cons (.v 4) .nil))) r' n (fun ds n1 => forL (fun d r n k => ofO (bindT (.many [5, 6, 7, 8, 9]) r d) fun r' => ofO (owD r' 2) fun ys => wE T (.tup (.cons (.tup (.cons (.v 3) (.star (.v 5) .nil))) (.cons (.bin .add (.v 6) (.k (.int 1))) (.cons (.v 7) (.cons (.v 8) (.cons (.v 9) .nil)))))) r' n (fun d n1 => ys.length < sizeLine ∧ k (r'.set 2 (.ow (.list (ys ++ [d])))) n1) (fun x n => E x n)) ds r' n1 k) (fun x n => E x n))
        [.tup [.bl true, a.d], .tup [.bl false, c.d]] [.sh x0, .no, .ow (.list []), .no, .no, .no, .no, .no, .no, .no] n fun r n => wB T (.cons (.frz [2]) (.cons (.ret (.v 2)) .nil)) r n (eQ Q E) := by
    intro x0 a c ha hc ⟨j, ja, jc, fj⟩ hlen hq
    have inner : ∀ (tr : Bool) (pd : D) (rs : List Br) (acc : List D) (x1 x5 x6 x7 x8 x9 : Ent) (n : Nat) (k : List Ent → Nat → Prop), acc.length + rs.length ≤ 1000 → (∀ r ∈ rs, r.path.length ≤ 8 ∧ r.lets.length ≤ 8) →
        (∀ y5 y6 y7 y8 y9, k [.sh x0, x1, .ow (.list (acc ++ rs.map fun r => Br.d ⟨tr :: r.path, r.many + 1, r.lets, r.cs, r.w⟩)), .sh (.bl tr), .sh pd, y5, y6, y7, y8, y9] n) →
        forL (fun d r n k => ofO (bindT (.many [5, 6, 7, 8, 9]) r d) fun r' => ofO (owD r' 2) fun ys => wE T (.tup (.cons (.tup (.cons (.v 3) (.star (.v 5) .nil))) (.cons (.bin .add (.v 6) (.k (.int 1))) (.cons (.v 7) (.cons (.v 8) (.cons (.v 9) .nil)))))) r' n (fun d n1 => ys.length < sizeLine ∧ k (r'.set 2 (.ow (.list (ys ++ [d])))) n1) (fun x n => E x n)) (rs.map Br.d) [.sh x0, x1, .ow (.list acc), .sh (.bl tr), .sh pd, x5, x6, x7, x8, x9] n k := by
      intro tr pd rs
      induction rs with
      | nil =>
        intro acc x1 x5 x6 x7 x8 x9 n k _ _ hk
        simp only [List.map_nil, List.append_nil] at hk
        exact hk _ _ _ _ _
      | cons r rs ih =>
        intro acc x1 x5 x6 x7 x8 x9 n k hl hb hk
        obtain ⟨b1, b2⟩ := hb r (List.mem_cons_self ..)
        rw [List.length_cons] at hl
        rw [List.map_cons, forL]
        simp only [Br.d, wB, wS, wE, wA, wAnd, wOr, wAndT, wOrT, wP, wI, tru, eQ, exAt_eq, IAs.isNil, List.map_cons, List.map_nil, List.cons_append, List.nil_append, List.getElem?_cons_zero, List.getElem?_cons_succ, List.set_cons_zero, List.set_cons_succ, Bool.false_eq_true, if_false, if_true, if_pos, List.any_cons, List.any_nil, ofO_some, ofO_none, setMany, bindT, D.truth, D.isTy, D.isBox, bi_len_tup, bi_len_list, bi_len_str, bi_tuple_list, bi_tuple_tup, bi_list_list, bi_list_tup, bi_int_int, eq_int, ne_int, lt_int, le_int, gt_int, ge_int, Bool.or_false, Bool.or_true, Bool.false_or, Bool.true_or, Bool.and_true, Bool.true_and, Bool.not_true, Bool.not_false, Bool.and_false, Bool.false_and, Option.map_some, reduceCtorEq, and_true, true_and, and_self, owD, add1]
        refine ⟨by (try simp only [List.length_cons, List.length_append, List.length_map, List.length_nil]); omega, by (try simp only [List.length_cons, List.length_append, List.length_map, List.length_nil]); omega, by omega, ?_⟩
        refine ih (acc ++ [_]) _ _ _ _ _ _ n k (by rw [List.length_append, List.length_singleton]; omega) (fun r hr => hb r (List.mem_cons_of_mem _ hr)) fun y5 y6 y7 y8 y9 => ?_
        have := hk y5 y6 y7 y8 y9
        simpa [Br.d] using this
    rw [forL]
    simp only [wB, wS, wE, wA, wAnd, wOr, wAndT, wOrT, wP, wI, tru, eQ, exAt_eq, IAs.isNil, List.map_cons, List.map_nil, List.cons_append, List.nil_append, List.getElem?_cons_zero, List.getElem?_cons_succ, List.set_cons_zero, List.set_cons_succ, Bool.false_eq_true, if_false, if_true, if_pos, List.any_cons, List.any_nil, ofO_some, ofO_none, setMany, bindT, D.truth, D.isTy, D.isBox, bi_len_tup, bi_len_list, bi_len_str, bi_tuple_list, bi_tuple_tup, bi_list_list, bi_list_tup, bi_int_int, eq_int, ne_int, lt_int, le_int, gt_int, ge_int, Bool.or_false, Bool.or_true, Bool.false_or, Bool.true_or, Bool.and_true, Bool.true_and, Bool.not_true, Bool.not_false, Bool.and_false, Bool.false_and, Option.map_some, reduceCtorEq, and_true, true_and, and_self, fj]
    refine ⟨a, rfl, ja, ha, ?_⟩
    simp only [itemsD, wB, wS, wE, wA, wAnd, wOr, wAndT, wOrT, wP, wI, tru, eQ, exAt_eq, IAs.isNil, List.map_cons, List.map_nil, List.cons_append, List.nil_append, List.getElem?_cons_zero, List.getElem?_cons_succ, List.set_cons_zero, List.set_cons_succ, Bool.false_eq_true, if_false, if_true, if_pos, List.any_cons, List.any_nil, ofO_some, ofO_none, setMany, bindT, D.truth, D.isTy, D.isBox, bi_len_tup, bi_len_list, bi_len_str, bi_tuple_list, bi_tuple_tup, bi_list_list, bi_list_tup, bi_int_int, eq_int, ne_int, lt_int, le_int, gt_int, ge_int, Bool.or_false, Bool.or_true, Bool.false_or, Bool.true_or, Bool.and_true, Bool.true_and, Bool.not_true, Bool.not_false, Bool.and_false, Bool.false_and, Option.map_some, reduceCtorEq, and_true, true_and, and_self]
    refine inner true a.d a.brs [] _ _ _ _ _ _ n _ (by simp only [List.length_nil]; omega) (fun r hr => by have := Bd.brs_in hr; omega) fun y5 y6 y7 y8 y9 => ?_
    rw [forL]
    simp only [wB, wS, wE, wA, wAnd, wOr, wAndT, wOrT, wP, wI, tru, eQ, exAt_eq, IAs.isNil, List.map_cons, List.map_nil, List.cons_append, List.nil_append, List.getElem?_cons_zero, List.getElem?_cons_succ, List.set_cons_zero, List.set_cons_succ, Bool.false_eq_true, if_false, if_true, if_pos, List.any_cons, List.any_nil, ofO_some, ofO_none, setMany, bindT, D.truth, D.isTy, D.isBox, bi_len_tup, bi_len_list, bi_len_str, bi_tuple_list, bi_tuple_tup, bi_list_list, bi_list_tup, bi_int_int, eq_int, ne_int, lt_int, le_int, gt_int, ge_int, Bool.or_false, Bool.or_true, Bool.false_or, Bool.true_or, Bool.and_true, Bool.true_and, Bool.not_true, Bool.not_false, Bool.and_false, Bool.false_and, Option.map_some, reduceCtorEq, and_true, true_and, and_self, fj]
    refine ⟨c, rfl, jc, hc, ?_⟩
    simp only [itemsD, wB, wS, wE, wA, wAnd, wOr, wAndT, wOrT, wP, wI, tru, eQ, exAt_eq, IAs.isNil, List.map_cons, List.map_nil, List.cons_append, List.nil_append, List.getElem?_cons_zero, List.getElem?_cons_succ, List.set_cons_zero, List.set_cons_succ, Bool.false_eq_true, if_false, if_true, if_pos, List.any_cons, List.any_nil, ofO_some, ofO_none, setMany, bindT, D.truth, D.isTy, D.isBox, bi_len_tup, bi_len_list, bi_len_str, bi_tuple_list, bi_tuple_tup, bi_list_list, bi_list_tup, bi_int_int, eq_int, ne_int, lt_int, le_int, gt_int, ge_int, Bool.or_false, Bool.or_true, Bool.false_or, Bool.true_or, Bool.and_true, Bool.true_and, Bool.not_true, Bool.not_false, Bool.and_false, Bool.false_and, Option.map_some, reduceCtorEq, and_true, true_and, and_self]
    refine inner false c.d c.brs _ _ _ _ _ _ _ n _ (by simp only [List.length_append, List.length_map, List.length_nil]; omega) (fun r hr => by have := Bd.brs_in hr; omega) fun z5 z6 z7 z8 z9 => ?_
    simp only [forL, freeze, wB, wS, wE, wA, wAnd, wOr, wAndT, wOrT, wP, wI, tru, eQ, exAt_eq, IAs.isNil, List.map_cons, List.map_nil, List.cons_append, List.nil_append, List.getElem?_cons_zero, List.getElem?_cons_succ, List.set_cons_zero, List.set_cons_succ, Bool.false_eq_true, if_false, if_true, if_pos, List.any_cons, List.any_nil, ofO_some, ofO_none, setMany, bindT, D.truth, D.isTy, D.isBox, bi_len_tup, bi_len_list, bi_len_str, bi_tuple_list, bi_tuple_tup, bi_list_list, bi_list_tup, bi_int_int, eq_int, ne_int, lt_int, le_int, gt_int, ge_int, Bool.or_false, Bool.or_true, Bool.false_or, Bool.true_or, Bool.and_true, Bool.true_and, Bool.not_true, Bool.not_false, Bool.and_false, Bool.false_and, Option.map_some, reduceCtorEq, and_true, true_and, and_self]
    rw [List.map_append, List.map_map, List.map_map] at hq
    exact hq
  cases b with
  | say cs w =>
    simp only [Bd.d, wB, wS, wE, wA, wAnd, wOr, wAndT, wOrT, wP, wI, tru, eQ, exAt_eq, IAs.isNil, List.map_cons, List.map_nil, List.cons_append, List.nil_append, List.getElem?_cons_zero, List.getElem?_cons_succ, List.set_cons_zero, List.set_cons_succ, Bool.false_eq_true, if_false, if_true, if_pos, List.any_cons, List.any_nil, ofO_some, ofO_none, setMany, bindT, D.truth, D.isTy, D.isBox, bi_len_tup, bi_len_list, bi_len_str, bi_tuple_list, bi_tuple_tup, bi_list_list, bi_list_tup, bi_int_int, eq_int, ne_int, lt_int, le_int, gt_int, ge_int, Bool.or_false, Bool.or_true, Bool.false_or, Bool.true_or, Bool.and_true, Bool.true_and, Bool.not_true, Bool.not_false, Bool.and_false, Bool.false_and, Option.map_some, reduceCtorEq, and_true, true_and, and_self, ix0, ix1, ix2, eqw, k_ss, List.length_cons, List.length_nil, List.replicate]
    exact ⟨by omega, by omega, by omega, by omega, q⟩
  | lt x t f a =>
    rw [Bd.dep] at hm h8
    obtain ⟨j, rfl⟩ : ∃ j, m = j + 1 := ⟨m - 1, by omega⟩
    simp only [Bd.d, wB, wS, wE, wA, wAnd, wOr, wAndT, wOrT, wP, wI, tru, eQ, exAt_eq, IAs.isNil, List.map_cons, List.map_nil, List.cons_append, List.nil_append, List.getElem?_cons_zero, List.getElem?_cons_succ, List.set_cons_zero, List.set_cons_succ, Bool.false_eq_true, if_false, if_true, if_pos, List.any_cons, List.any_nil, ofO_some, ofO_none, setMany, bindT, D.truth, D.isTy, D.isBox, bi_len_tup, bi_len_list, bi_len_str, bi_tuple_list, bi_tuple_tup, bi_list_list, bi_list_tup, bi_int_int, eq_int, ne_int, lt_int, le_int, gt_int, ge_int, Bool.or_false, Bool.or_true, Bool.false_or, Bool.true_or, Bool.and_true, Bool.true_and, Bool.not_true, Bool.not_false, Bool.and_false, Bool.false_and, Option.map_some, reduceCtorEq, and_true, true_and, and_self, ix0, ix1, ix4, eqw, k_ls, k_ll, f1 j rfl, List.length_cons, List.length_nil, List.replicate]
    refine ⟨a, rfl, by omega, by omega, ?_⟩
    simp only [itemsD, wB, wS, wE, wA, wAnd, wOr, wAndT, wOrT, wP, wI, tru, eQ, exAt_eq, IAs.isNil, List.map_cons, List.map_nil, List.cons_append, List.nil_append, List.getElem?_cons_zero, List.getElem?_cons_succ, List.set_cons_zero, List.set_cons_succ, Bool.false_eq_true, if_false, if_true, if_pos, List.any_cons, List.any_nil, ofO_some, ofO_none, setMany, bindT, D.truth, D.isTy, D.isBox, bi_len_tup, bi_len_list, bi_len_str, bi_tuple_list, bi_tuple_tup, bi_list_list, bi_list_tup, bi_int_int, eq_int, ne_int, lt_int, le_int, gt_int, ge_int, Bool.or_false, Bool.or_true, Bool.false_or, Bool.true_or, Bool.and_true, Bool.true_and, Bool.not_true, Bool.not_false, Bool.and_false, Bool.false_and, Option.map_some, reduceCtorEq, and_true, true_and, and_self]
    refine compL_enc (g := fun r : Br => Br.d ⟨r.path, r.many + 1, x :: r.lets, r.cs, r.w⟩) (fun r hr n k hk => ?_) ?_
    · have hb := Bd.brs_in hr
      simp only [Br.d, wB, wS, wE, wA, wAnd, wOr, wAndT, wOrT, wP, wI, tru, eQ, exAt_eq, IAs.isNil, List.map_cons, List.map_nil, List.cons_append, List.nil_append, List.getElem?_cons_zero, List.getElem?_cons_succ, List.set_cons_zero, List.set_cons_succ, Bool.false_eq_true, if_false, if_true, if_pos, List.any_cons, List.any_nil, ofO_some, ofO_none, setMany, bindT, D.truth, D.isTy, D.isBox, bi_len_tup, bi_len_list, bi_len_str, bi_tuple_list, bi_tuple_tup, bi_list_list, bi_list_tup, bi_int_int, eq_int, ne_int, lt_int, le_int, gt_int, ge_int, Bool.or_false, Bool.or_true, Bool.false_or, Bool.true_or, Bool.and_true, Bool.true_and, Bool.not_true, Bool.not_false, Bool.and_false, Bool.false_and, Option.map_some, reduceCtorEq, and_true, true_and, and_self, add1, ix1]
      refine ⟨by (try simp only [List.length_cons, List.length_append, List.length_map, List.length_nil]); omega, by (try simp only [List.length_cons, List.length_append, List.length_map, List.length_nil]); omega, ?_⟩
      simpa [Br.d] using hk
    · rw [Bd.brs, List.map_map] at q
      exact q
  | has t a c =>
    have hl := Bd.brs_small h8
    rw [Bd.dep] at hm h8
    obtain ⟨j, rfl⟩ : ∃ j, m = j + 1 := ⟨m - 1, by omega⟩
    simp only [Bd.d, wB, wS, wE, wA, wAnd, wOr, wAndT, wOrT, wP, wI, tru, eQ, exAt_eq, IAs.isNil, List.map_cons, List.map_nil, List.cons_append, List.nil_append, List.getElem?_cons_zero, List.getElem?_cons_succ, List.set_cons_zero, List.set_cons_succ, Bool.false_eq_true, if_false, if_true, if_pos, List.any_cons, List.any_nil, ofO_some, ofO_none, setMany, bindT, D.truth, D.isTy, D.isBox, bi_len_tup, bi_len_list, bi_len_str, bi_tuple_list, bi_tuple_tup, bi_list_list, bi_list_tup, bi_int_int, eq_int, ne_int, lt_int, le_int, gt_int, ge_int, Bool.or_false, Bool.or_true, Bool.false_or, Bool.true_or, Bool.and_true, Bool.true_and, Bool.not_true, Bool.not_false, Bool.and_false, Bool.false_and, Option.map_some, reduceCtorEq, and_true, true_and, and_self, ix0, eqw, k_hs, k_hl, ixm1_4, ixm2_4, List.length_cons, List.length_nil, List.replicate, itemsD]
    refine ⟨by omega, by omega, by omega, by omega, ?_⟩
    rw [Bd.brs, List.length_append, List.length_map, List.length_map] at hl
    exact two _ a c (by omega) (by omega) ⟨j, by omega, by omega, f1 j rfl⟩ (by omega) (by simpa [Bd.brs] using q)
  | is t f v a c =>
    have hl := Bd.brs_small h8
    rw [Bd.dep] at hm h8
    obtain ⟨j, rfl⟩ : ∃ j, m = j + 1 := ⟨m - 1, by omega⟩
    simp only [Bd.d, wB, wS, wE, wA, wAnd, wOr, wAndT, wOrT, wP, wI, tru, eQ, exAt_eq, IAs.isNil, List.map_cons, List.map_nil, List.cons_append, List.nil_append, List.getElem?_cons_zero, List.getElem?_cons_succ, List.set_cons_zero, List.set_cons_succ, Bool.false_eq_true, if_false, if_true, if_pos, List.any_cons, List.any_nil, ofO_some, ofO_none, setMany, bindT, D.truth, D.isTy, D.isBox, bi_len_tup, bi_len_list, bi_len_str, bi_tuple_list, bi_tuple_tup, bi_list_list, bi_list_tup, bi_int_int, eq_int, ne_int, lt_int, le_int, gt_int, ge_int, Bool.or_false, Bool.or_true, Bool.false_or, Bool.true_or, Bool.and_true, Bool.true_and, Bool.not_true, Bool.not_false, Bool.and_false, Bool.false_and, Option.map_some, reduceCtorEq, and_true, true_and, and_self, ix0, eqw, k_is, k_il, ixm1_6, ixm2_6, List.length_cons, List.length_nil, List.replicate, itemsD]
    refine ⟨by omega, by omega, by omega, by omega, ?_⟩
    rw [Bd.brs, List.length_append, List.length_map, List.length_map] at hl
    exact two _ a c (by omega) (by omega) ⟨j, by omega, by omega, f1 j rfl⟩ (by omega) (by simpa [Bd.brs] using q)
end
end Dl

set_option Elab.async false
set_option linter.all false
set_option maxRecDepth 100000
set_option maxHeartbeats 4000000
/-! The program's own functions over Books, CALLs and LINES. -/
namespace Dl
open PySem PySem.Spec PyProof.Rows L2
def flK : Str → Str → Bool := fun c f => c == "Book" && (f == "own_fields" || f == "own_kinds")
theorem fl_kinds : flK "Book" "own_kinds" = true := by decide
theorem look_kinds (a b : D) : List.lookup (Str.ofString "own_kinds") [(Str.ofString "own_fields", a), (Str.ofString "own_kinds", b)] = some b := by rfl
/-- a CALL with its word -/
structure Ln where
  nm : Str
  as : List Int
  w : Str
def Ln.call (l : Ln) : D := .tup (.str l.nm :: l.as.map .int)
def Ln.d (l : Ln) : D := .tup [l.call, .str l.w]
def Ln.ok (ks : List Kd) (l : Ln) : Prop := ∃ k ∈ ks, k.nm = l.nm ∧ l.as.length = k.ps.length
theorem kd_ix0 (k : Kd) : getI k.d (.int 0) = some (.str k.nm) := ix0 _ _
theorem kd_ix1 (k : Kd) : getI k.d (.int 1) = some (.tup (k.ps.map .str)) := ix1 _ _ _
theorem kd_ix2 (k : Kd) : getI k.d (.int 2) = some k.bd.d := ix2 _ _ _ _
theorem br_ix0 (r : Br) : getI r.d (.int 0) = some (.tup (r.path.map .bl)) := ix0 _ _
theorem br_ix4 (r : Br) : getI r.d (.int 4) = some (.str r.w) := ix4 _ _ _ _ _ _
section
variable {T : Tab} {n : Nat} {Q : D → Nat → Prop} {E : QX}
theorem b_Book_contains {ds : List D} (g : T.fl = flK) (h : fsHas ds n Q E) : wB T ir_Book_contains (ent0 ["self", "x", "kind"] ds) n (eQ Q E) := by
  obtain ⟨fs, ks, x, rfl, q⟩ := h
  unfold ir_Book_contains ent0
  simp only [bookD, wB, wS, wE, wA, wAnd, wOr, wAndT, wOrT, wP, wI, tru, eQ, exAt_eq, IAs.isNil, List.map_cons, List.map_nil, List.cons_append, List.nil_append, List.getElem?_cons_zero, List.getElem?_cons_succ, List.set_cons_zero, List.set_cons_succ, Bool.false_eq_true, if_false, if_true, if_pos, List.any_cons, List.any_nil, ofO_some, ofO_none, setMany, bindT, D.truth, D.isTy, D.isBox, bi_len_tup, bi_len_list, bi_len_str, bi_tuple_list, bi_tuple_tup, bi_list_list, bi_list_tup, bi_int_int, eq_int, ne_int, lt_int, le_int, gt_int, ge_int, Bool.or_false, Bool.or_true, Bool.false_or, Bool.true_or, Bool.and_true, Bool.true_and, Bool.not_true, Bool.not_false, Bool.and_false, Bool.false_and, Option.map_some, reduceCtorEq, and_true, true_and, and_self, g, fl_kinds, look_kinds, List.length_cons, List.length_nil, List.replicate, itemsD]
  refine compL_enc (g := fun k : Kd => .str k.nm) (fun k hk n c hc => ?_) ?_
  · simp only [wB, wS, wE, wA, wAnd, wOr, wAndT, wOrT, wP, wI, tru, eQ, exAt_eq, IAs.isNil, List.map_cons, List.map_nil, List.cons_append, List.nil_append, List.getElem?_cons_zero, List.getElem?_cons_succ, List.set_cons_zero, List.set_cons_succ, Bool.false_eq_true, if_false, if_true, if_pos, List.any_cons, List.any_nil, ofO_some, ofO_none, setMany, bindT, D.truth, D.isTy, D.isBox, bi_len_tup, bi_len_list, bi_len_str, bi_tuple_list, bi_tuple_tup, bi_list_list, bi_list_tup, bi_int_int, eq_int, ne_int, lt_int, le_int, gt_int, ge_int, Bool.or_false, Bool.or_true, Bool.false_or, Bool.true_or, Bool.and_true, Bool.true_and, Bool.not_true, Bool.not_false, Bool.and_false, Bool.false_and, Option.map_some, reduceCtorEq, and_true, true_and, and_self, kd_ix0]
    exact hc
  · have e : (ks.map fun k : Kd => D.str k.nm) = (ks.map Kd.nm).map .str := by rw [List.map_map]; rfl
    simp only [List.nil_append]
    rw [e, in_strs_list (x := .str x) rfl]
    have e2 : hasS (ks.map Kd.nm) (.str x) = (ks.any fun k => k.nm == x) := by
      show (ks.map Kd.nm).contains x = _
      rw [Bool.eq_iff_iff, List.contains_iff_mem, List.any_eq_true, List.mem_map]
      constructor
      · rintro ⟨k, hk, e⟩
        exact ⟨k, hk, by rw [e]; exact beq_self_eq_true _⟩
      · rintro ⟨k, hk, e⟩
        exact ⟨k, hk, beq_iff_eq.mp e⟩
    rw [e2]
    exact q
theorem b_Book_getitem {ds : List D} (g : T.fl = flK) (h : fsGet ds n Q E) : wB T ir_Book_getitem (ent0 ["self", "at", "kind"] ds) n (eQ Q E) := by
  obtain ⟨fs, ks, k0, rfl, hm, nd, q⟩ := h
  unfold ir_Book_getitem ent0
  simp only [bookD, wB, wS, wE, wA, wAnd, wOr, wAndT, wOrT, wP, wI, tru, eQ, exAt_eq, IAs.isNil, List.map_cons, List.map_nil, List.cons_append, List.nil_append, List.getElem?_cons_zero, List.getElem?_cons_succ, List.set_cons_zero, List.set_cons_succ, Bool.false_eq_true, if_false, if_true, if_pos, List.any_cons, List.any_nil, ofO_some, ofO_none, setMany, bindT, D.truth, D.isTy, D.isBox, bi_len_tup, bi_len_list, bi_len_str, bi_tuple_list, bi_tuple_tup, bi_list_list, bi_list_tup, bi_int_int, eq_int, ne_int, lt_int, le_int, gt_int, ge_int, Bool.or_false, Bool.or_true, Bool.false_or, Bool.true_or, Bool.and_true, Bool.true_and, Bool.not_true, Bool.not_false, Bool.and_false, Bool.false_and, Option.map_some, reduceCtorEq, and_true, true_and, and_self, g, fl_kinds, look_kinds, List.length_cons, List.length_nil, List.replicate, itemsD]
  refine forL_enc (fun rest r n1 => n1 = n ∧ k0 ∈ rest ∧ (rest.map Kd.nm).Nodup ∧ ∃ x2, r = [.sh (bookD fs ks), .sh (.str k0.nm), x2]) ?_ ?_ ks _ _ ⟨rfl, hm, nd, .no, rfl⟩
  · rintro k rest r n1 ⟨rfl, hk, nd, x2, rfl⟩ c hc
    simp only [wB, wS, wE, wA, wAnd, wOr, wAndT, wOrT, wP, wI, tru, eQ, exAt_eq, IAs.isNil, List.map_cons, List.map_nil, List.cons_append, List.nil_append, List.getElem?_cons_zero, List.getElem?_cons_succ, List.set_cons_zero, List.set_cons_succ, Bool.false_eq_true, if_false, if_true, if_pos, List.any_cons, List.any_nil, ofO_some, ofO_none, setMany, bindT, D.truth, D.isTy, D.isBox, bi_len_tup, bi_len_list, bi_len_str, bi_tuple_list, bi_tuple_tup, bi_list_list, bi_list_tup, bi_int_int, eq_int, ne_int, lt_int, le_int, gt_int, ge_int, Bool.or_false, Bool.or_true, Bool.false_or, Bool.true_or, Bool.and_true, Bool.true_and, Bool.not_true, Bool.not_false, Bool.and_false, Bool.false_and, Option.map_some, reduceCtorEq, and_true, true_and, and_self, kd_ix0, eqw, isW_str]
    by_cases e : k.nm = k0.nm
    · have ek : k = k0 := by
        rcases List.mem_cons.mp hk with z | z
        · exact z.symm
        · rw [List.map_cons, List.nodup_cons] at nd
          exact absurd (List.mem_map.mpr ⟨k0, z, e.symm⟩) nd.1
      subst ek
      rw [beq_self_eq_true]
      simp only [wB, wS, wE, wA, wAnd, wOr, wAndT, wOrT, wP, wI, tru, eQ, exAt_eq, IAs.isNil, List.map_cons, List.map_nil, List.cons_append, List.nil_append, List.getElem?_cons_zero, List.getElem?_cons_succ, List.set_cons_zero, List.set_cons_succ, Bool.false_eq_true, if_false, if_true, if_pos, List.any_cons, List.any_nil, ofO_some, ofO_none, setMany, bindT, D.truth, D.isTy, D.isBox, bi_len_tup, bi_len_list, bi_len_str, bi_tuple_list, bi_tuple_tup, bi_list_list, bi_list_tup, bi_int_int, eq_int, ne_int, lt_int, le_int, gt_int, ge_int, Bool.or_false, Bool.or_true, Bool.false_or, Bool.true_or, Bool.and_true, Bool.true_and, Bool.not_true, Bool.not_false, Bool.and_false, Bool.false_and, Option.map_some, reduceCtorEq, and_true, true_and, and_self]
      exact q
    · have eb : (k.nm == k0.nm) = false := by simpa using e
      rw [eb]
      simp only [wB, wS, wE, wA, wAnd, wOr, wAndT, wOrT, wP, wI, tru, eQ, exAt_eq, IAs.isNil, List.map_cons, List.map_nil, List.cons_append, List.nil_append, List.getElem?_cons_zero, List.getElem?_cons_succ, List.set_cons_zero, List.set_cons_succ, Bool.false_eq_true, if_false, if_true, if_pos, List.any_cons, List.any_nil, ofO_some, ofO_none, setMany, bindT, D.truth, D.isTy, D.isBox, bi_len_tup, bi_len_list, bi_len_str, bi_tuple_list, bi_tuple_tup, bi_list_list, bi_list_tup, bi_int_int, eq_int, ne_int, lt_int, le_int, gt_int, ge_int, Bool.or_false, Bool.or_true, Bool.false_or, Bool.true_or, Bool.and_true, Bool.true_and, Bool.not_true, Bool.not_false, Bool.and_false, Bool.false_and, Option.map_some, reduceCtorEq, and_true, true_and, and_self]
      rw [List.map_cons, List.nodup_cons] at nd
      refine hc _ _ ⟨rfl, ?_, nd.2, _, rfl⟩
      rcases List.mem_cons.mp hk with z | z
      · exact absurd (by rw [z]) e
      · exact z
  · rintro r n1 ⟨_, hk, _⟩
    cases hk
theorem b_hiding {ds : List D} (m : T.me "Book" "__getitem__" = some fsGet) (f1 : T.fs "branches_of" = some (fsBrs 8)) (f2 : T.fs "hides" = some fsHides) (h : fsHiding ds n Q E) : wB T ir_hiding (ent0 ["book", "name", "branches", "one", "other"] ds) n (eQ Q E) := by
  obtain ⟨fs, ks, k, rfl, hk, ok, q⟩ := h
  have kok := ok.ok k hk
  unfold ir_hiding ent0
  simp only [bookD, wB, wS, wE, wA, wAnd, wOr, wAndT, wOrT, wP, wI, tru, eQ, exAt_eq, IAs.isNil, List.map_cons, List.map_nil, List.cons_append, List.nil_append, List.getElem?_cons_zero, List.getElem?_cons_succ, List.set_cons_zero, List.set_cons_succ, Bool.false_eq_true, if_false, if_true, if_pos, List.any_cons, List.any_nil, ofO_some, ofO_none, setMany, bindT, D.truth, D.isTy, D.isBox, bi_len_tup, bi_len_list, bi_len_str, bi_tuple_list, bi_tuple_tup, bi_list_list, bi_list_tup, bi_int_int, eq_int, ne_int, lt_int, le_int, gt_int, ge_int, Bool.or_false, Bool.or_true, Bool.false_or, Bool.true_or, Bool.and_true, Bool.true_and, Bool.not_true, Bool.not_false, Bool.and_false, Bool.false_and, Option.map_some, reduceCtorEq, and_true, true_and, and_self, m, f1, f2, List.length_cons, List.length_nil, List.replicate]
  refine ⟨fs, ks, k, rfl, hk, ok.nd, ?_⟩
  simp only [wB, wS, wE, wA, wAnd, wOr, wAndT, wOrT, wP, wI, tru, eQ, exAt_eq, IAs.isNil, List.map_cons, List.map_nil, List.cons_append, List.nil_append, List.getElem?_cons_zero, List.getElem?_cons_succ, List.set_cons_zero, List.set_cons_succ, Bool.false_eq_true, if_false, if_true, if_pos, List.any_cons, List.any_nil, ofO_some, ofO_none, setMany, bindT, D.truth, D.isTy, D.isBox, bi_len_tup, bi_len_list, bi_len_str, bi_tuple_list, bi_tuple_tup, bi_list_list, bi_list_tup, bi_int_int, eq_int, ne_int, lt_int, le_int, gt_int, ge_int, Bool.or_false, Bool.or_true, Bool.false_or, Bool.true_or, Bool.and_true, Bool.true_and, Bool.not_true, Bool.not_false, Bool.and_false, Bool.false_and, Option.map_some, reduceCtorEq, and_true, true_and, and_self, kd_ix2]
  refine ⟨k.bd, rfl, kok.dep, kok.dep, ?_⟩
  simp only [wB, wS, wE, wA, wAnd, wOr, wAndT, wOrT, wP, wI, tru, eQ, exAt_eq, IAs.isNil, List.map_cons, List.map_nil, List.cons_append, List.nil_append, List.getElem?_cons_zero, List.getElem?_cons_succ, List.set_cons_zero, List.set_cons_succ, Bool.false_eq_true, if_false, if_true, if_pos, List.any_cons, List.any_nil, ofO_some, ofO_none, setMany, bindT, D.truth, D.isTy, D.isBox, bi_len_tup, bi_len_list, bi_len_str, bi_tuple_list, bi_tuple_tup, bi_list_list, bi_list_tup, bi_int_int, eq_int, ne_int, lt_int, le_int, gt_int, ge_int, Bool.or_false, Bool.or_true, Bool.false_or, Bool.true_or, Bool.and_true, Bool.true_and, Bool.not_true, Bool.not_false, Bool.and_false, Bool.false_and, Option.map_some, reduceCtorEq, and_true, true_and, and_self, itemsD]
  have nd : ∀ (x : Str), hidD (some (⟨[], 0, [], [], x⟩, ⟨[], 0, [], [], x⟩)) = .tup [.str x, .tup [], .tup []] := fun _ => rfl
  refine forL_enc (fun rest r n1 => n1 = n ∧ (∀ o ∈ rest, o ∈ k.bd.brs) ∧ hidP k.bd = (rest.findSome? fun o => k.bd.brs.findSome? fun q => if hidesP o q = true then some (o, q) else none) ∧ ∃ x3 x4, r = [.sh (bookD fs ks), .sh (.str k.nm), .sh (.list (k.bd.brs.map Br.d)), x3, x4]) ?_ ?_ k.bd.brs _ _ ⟨rfl, fun _ h => h, rfl, .no, .no, rfl⟩
  · rintro o rest r n1 ⟨rfl, hin, hp, x3, x4, rfl⟩ c hc
    simp only [wB, wS, wE, wA, wAnd, wOr, wAndT, wOrT, wP, wI, tru, eQ, exAt_eq, IAs.isNil, List.map_cons, List.map_nil, List.cons_append, List.nil_append, List.getElem?_cons_zero, List.getElem?_cons_succ, List.set_cons_zero, List.set_cons_succ, Bool.false_eq_true, if_false, if_true, if_pos, List.any_cons, List.any_nil, ofO_some, ofO_none, setMany, bindT, D.truth, D.isTy, D.isBox, bi_len_tup, bi_len_list, bi_len_str, bi_tuple_list, bi_tuple_tup, bi_list_list, bi_list_tup, bi_int_int, eq_int, ne_int, lt_int, le_int, gt_int, ge_int, Bool.or_false, Bool.or_true, Bool.false_or, Bool.true_or, Bool.and_true, Bool.true_and, Bool.not_true, Bool.not_false, Bool.and_false, Bool.false_and, Option.map_some, reduceCtorEq, and_true, true_and, and_self, itemsD]
    have ho := hin o (List.mem_cons_self ..)
    rw [List.findSome?_cons] at hp
    refine forL_enc (fun rest2 r n2 => n2 = n1 ∧ (k.bd.brs.findSome? fun q => if hidesP o q = true then some (o, q) else none) = (rest2.findSome? fun q => if hidesP o q = true then some (o, q) else none) ∧ ∃ x4, r = [.sh (bookD fs ks), .sh (.str k.nm), .sh (.list (k.bd.brs.map Br.d)), .sh o.d, x4]) ?_ ?_ k.bd.brs _ _ ⟨rfl, rfl, x4, rfl⟩
    · rintro p rest2 r n2 ⟨rfl, hp2, x4, rfl⟩ c2 hc2
      simp only [wB, wS, wE, wA, wAnd, wOr, wAndT, wOrT, wP, wI, tru, eQ, exAt_eq, IAs.isNil, List.map_cons, List.map_nil, List.cons_append, List.nil_append, List.getElem?_cons_zero, List.getElem?_cons_succ, List.set_cons_zero, List.set_cons_succ, Bool.false_eq_true, if_false, if_true, if_pos, List.any_cons, List.any_nil, ofO_some, ofO_none, setMany, bindT, D.truth, D.isTy, D.isBox, bi_len_tup, bi_len_list, bi_len_str, bi_tuple_list, bi_tuple_tup, bi_list_list, bi_list_tup, bi_int_int, eq_int, ne_int, lt_int, le_int, gt_int, ge_int, Bool.or_false, Bool.or_true, Bool.false_or, Bool.true_or, Bool.and_true, Bool.true_and, Bool.not_true, Bool.not_false, Bool.and_false, Bool.false_and, Option.map_some, reduceCtorEq, and_true, true_and, and_self, f2]
      refine ⟨o, p, rfl, Bd.brs_says kok.sz ho, ?_⟩
      rw [List.findSome?_cons] at hp2
      cases hh : hidesP o p with
      | true =>
        rw [hh, if_pos rfl] at hp2
        rw [hp2] at hp
        simp only [wB, wS, wE, wA, wAnd, wOr, wAndT, wOrT, wP, wI, tru, eQ, exAt_eq, IAs.isNil, List.map_cons, List.map_nil, List.cons_append, List.nil_append, List.getElem?_cons_zero, List.getElem?_cons_succ, List.set_cons_zero, List.set_cons_succ, Bool.false_eq_true, if_false, if_true, if_pos, List.any_cons, List.any_nil, ofO_some, ofO_none, setMany, bindT, D.truth, D.isTy, D.isBox, bi_len_tup, bi_len_list, bi_len_str, bi_tuple_list, bi_tuple_tup, bi_list_list, bi_list_tup, bi_int_int, eq_int, ne_int, lt_int, le_int, gt_int, ge_int, Bool.or_false, Bool.or_true, Bool.false_or, Bool.true_or, Bool.and_true, Bool.true_and, Bool.not_true, Bool.not_false, Bool.and_false, Bool.false_and, Option.map_some, reduceCtorEq, and_true, true_and, and_self, br_ix0, br_ix4]
        rw [hp] at q
        exact ⟨by (try simp only [List.length_cons, List.length_nil]); rw [sizeLine_eq]; decide, q⟩
      | false =>
        rw [hh, if_neg (by decide)] at hp2
        simp only [wB, wS, wE, wA, wAnd, wOr, wAndT, wOrT, wP, wI, tru, eQ, exAt_eq, IAs.isNil, List.map_cons, List.map_nil, List.cons_append, List.nil_append, List.getElem?_cons_zero, List.getElem?_cons_succ, List.set_cons_zero, List.set_cons_succ, Bool.false_eq_true, if_false, if_true, if_pos, List.any_cons, List.any_nil, ofO_some, ofO_none, setMany, bindT, D.truth, D.isTy, D.isBox, bi_len_tup, bi_len_list, bi_len_str, bi_tuple_list, bi_tuple_tup, bi_list_list, bi_list_tup, bi_int_int, eq_int, ne_int, lt_int, le_int, gt_int, ge_int, Bool.or_false, Bool.or_true, Bool.false_or, Bool.true_or, Bool.and_true, Bool.true_and, Bool.not_true, Bool.not_false, Bool.and_false, Bool.false_and, Option.map_some, reduceCtorEq, and_true, true_and, and_self]
        exact hc2 _ _ ⟨rfl, hp2, _, rfl⟩
    · rintro r n2 ⟨rfl, hp2, x4, rfl⟩
      rw [hp2] at hp
      exact hc _ _ ⟨rfl, fun o ho => hin o (List.mem_cons_of_mem _ ho), hp, _, _, rfl⟩
  · rintro r n1 ⟨rfl, _, hp, x3, x4, rfl⟩
    rw [hp] at q
    exact q
theorem b_is_telling {ds : List D} (f1 : T.fs "hiding" = some fsHiding) (h : fsTelling ds n Q E) : wB T ir_is_telling (ent0 ["book", "name"] ds) n (eQ Q E) := by
  obtain ⟨fs, ks, k, rfl, hk, ok, q⟩ := h
  unfold ir_is_telling ent0
  simp only [bookD, wB, wS, wE, wA, wAnd, wOr, wAndT, wOrT, wP, wI, tru, eQ, exAt_eq, IAs.isNil, List.map_cons, List.map_nil, List.cons_append, List.nil_append, List.getElem?_cons_zero, List.getElem?_cons_succ, List.set_cons_zero, List.set_cons_succ, Bool.false_eq_true, if_false, if_true, if_pos, List.any_cons, List.any_nil, ofO_some, ofO_none, setMany, bindT, D.truth, D.isTy, D.isBox, bi_len_tup, bi_len_list, bi_len_str, bi_tuple_list, bi_tuple_tup, bi_list_list, bi_list_tup, bi_int_int, eq_int, ne_int, lt_int, le_int, gt_int, ge_int, Bool.or_false, Bool.or_true, Bool.false_or, Bool.true_or, Bool.and_true, Bool.true_and, Bool.not_true, Bool.not_false, Bool.and_false, Bool.false_and, Option.map_some, reduceCtorEq, and_true, true_and, and_self, f1, List.length_cons, List.length_nil, List.replicate]
  refine ⟨fs, ks, k, rfl, hk, ok, ?_⟩
  unfold tellP at q
  cases hp : hidP k.bd with
  | none =>
    rw [hp] at q
    exact q
  | some p =>
    rw [hp] at q
    exact q
theorem ints_map (l : List Int) : intsD (l.map .int) = some l := by
  induction l with
  | nil => rfl
  | cons i l ih => rw [List.map_cons, intsD, ih]; rfl
theorem b_length_of {ds : List D} (m : T.me "Book" "__getitem__" = some fsGet) (f1 : T.fs "branches_of" = some (fsBrs 8)) (h : fsLength ds n Q E) : wB T ir_length_of (ent0 ["book", "name", "path", "many", "lets", "changes", "word"] ds) n (eQ Q E) := by
  obtain ⟨fs, ks, k, rfl, hk, ok, q⟩ := h
  have kok := ok.ok k hk
  unfold ir_length_of ent0
  simp only [bookD, wB, wS, wE, wA, wAnd, wOr, wAndT, wOrT, wP, wI, tru, eQ, exAt_eq, IAs.isNil, List.map_cons, List.map_nil, List.cons_append, List.nil_append, List.getElem?_cons_zero, List.getElem?_cons_succ, List.set_cons_zero, List.set_cons_succ, Bool.false_eq_true, if_false, if_true, if_pos, List.any_cons, List.any_nil, ofO_some, ofO_none, setMany, bindT, D.truth, D.isTy, D.isBox, bi_len_tup, bi_len_list, bi_len_str, bi_tuple_list, bi_tuple_tup, bi_list_list, bi_list_tup, bi_int_int, eq_int, ne_int, lt_int, le_int, gt_int, ge_int, Bool.or_false, Bool.or_true, Bool.false_or, Bool.true_or, Bool.and_true, Bool.true_and, Bool.not_true, Bool.not_false, Bool.and_false, Bool.false_and, Option.map_some, reduceCtorEq, and_true, true_and, and_self, m, f1, List.length_cons, List.length_nil, List.replicate]
  refine ⟨fs, ks, k, rfl, hk, ok.nd, ?_⟩
  simp only [wB, wS, wE, wA, wAnd, wOr, wAndT, wOrT, wP, wI, tru, eQ, exAt_eq, IAs.isNil, List.map_cons, List.map_nil, List.cons_append, List.nil_append, List.getElem?_cons_zero, List.getElem?_cons_succ, List.set_cons_zero, List.set_cons_succ, Bool.false_eq_true, if_false, if_true, if_pos, List.any_cons, List.any_nil, ofO_some, ofO_none, setMany, bindT, D.truth, D.isTy, D.isBox, bi_len_tup, bi_len_list, bi_len_str, bi_tuple_list, bi_tuple_tup, bi_list_list, bi_list_tup, bi_int_int, eq_int, ne_int, lt_int, le_int, gt_int, ge_int, Bool.or_false, Bool.or_true, Bool.false_or, Bool.true_or, Bool.and_true, Bool.true_and, Bool.not_true, Bool.not_false, Bool.and_false, Bool.false_and, Option.map_some, reduceCtorEq, and_true, true_and, and_self, kd_ix2]
  refine ⟨k.bd, rfl, kok.dep, kok.dep, ?_⟩
  simp only [wB, wS, wE, wA, wAnd, wOr, wAndT, wOrT, wP, wI, tru, eQ, exAt_eq, IAs.isNil, List.map_cons, List.map_nil, List.cons_append, List.nil_append, List.getElem?_cons_zero, List.getElem?_cons_succ, List.set_cons_zero, List.set_cons_succ, Bool.false_eq_true, if_false, if_true, if_pos, List.any_cons, List.any_nil, ofO_some, ofO_none, setMany, bindT, D.truth, D.isTy, D.isBox, bi_len_tup, bi_len_list, bi_len_str, bi_tuple_list, bi_tuple_tup, bi_list_list, bi_list_tup, bi_int_int, eq_int, ne_int, lt_int, le_int, gt_int, ge_int, Bool.or_false, Bool.or_true, Bool.false_or, Bool.true_or, Bool.and_true, Bool.true_and, Bool.not_true, Bool.not_false, Bool.and_false, Bool.false_and, Option.map_some, reduceCtorEq, and_true, true_and, and_self, itemsD]
  refine compL_enc (g := fun r : Br => .int (r.many : Int)) (fun r hr n c hc => ?_) ?_
  · simp only [Br.d, wB, wS, wE, wA, wAnd, wOr, wAndT, wOrT, wP, wI, tru, eQ, exAt_eq, IAs.isNil, List.map_cons, List.map_nil, List.cons_append, List.nil_append, List.getElem?_cons_zero, List.getElem?_cons_succ, List.set_cons_zero, List.set_cons_succ, Bool.false_eq_true, if_false, if_true, if_pos, List.any_cons, List.any_nil, ofO_some, ofO_none, setMany, bindT, D.truth, D.isTy, D.isBox, bi_len_tup, bi_len_list, bi_len_str, bi_tuple_list, bi_tuple_tup, bi_list_list, bi_list_tup, bi_int_int, eq_int, ne_int, lt_int, le_int, gt_int, ge_int, Bool.or_false, Bool.or_true, Bool.false_or, Bool.true_or, Bool.and_true, Bool.true_and, Bool.not_true, Bool.not_false, Bool.and_false, Bool.false_and, Option.map_some, reduceCtorEq, and_true, true_and, and_self]
    exact hc
  · have e : (k.bd.brs.map fun r : Br => D.int (r.many : Int)) = (k.bd.brs.map fun r => (r.many : Int)).map .int := by rw [List.map_map]; rfl
    simp only [List.nil_append]
    rw [e, ints_map]
    simp only [wB, wS, wE, wA, wAnd, wOr, wAndT, wOrT, wP, wI, tru, eQ, exAt_eq, IAs.isNil, List.map_cons, List.map_nil, List.cons_append, List.nil_append, List.getElem?_cons_zero, List.getElem?_cons_succ, List.set_cons_zero, List.set_cons_succ, Bool.false_eq_true, if_false, if_true, if_pos, List.any_cons, List.any_nil, ofO_some, ofO_none, setMany, bindT, D.truth, D.isTy, D.isBox, bi_len_tup, bi_len_list, bi_len_str, bi_tuple_list, bi_tuple_tup, bi_list_list, bi_list_tup, bi_int_int, eq_int, ne_int, lt_int, le_int, gt_int, ge_int, Bool.or_false, Bool.or_true, Bool.false_or, Bool.true_or, Bool.and_true, Bool.true_and, Bool.not_true, Bool.not_false, Bool.and_false, Bool.false_and, Option.map_some, reduceCtorEq, and_true, true_and, and_self]
    refine ⟨?_, q⟩
    intro z
    exact k.bd.brs_ne (List.map_eq_nil_iff.mp z)
end
end Dl

set_option Elab.async false
set_option linter.all false
set_option maxRecDepth 100000
set_option maxHeartbeats 4000000
/-! CALLs, LINES, how many calls at most; a Book made. -/
namespace Dl
open PySem PySem.Spec PyProof.Rows L2
def fsIsCall : FS := fun ds n Q _ => ∃ fs ks, ∃ l : Ln, ds = [bookD fs ks, l.call] ∧ l.ok ks ∧ (ks.map Kd.nm).Nodup ∧ Q (.bl true) n
def fsCalled : FS := fun ds n Q _ => ∃ fs ks, ∃ l : Ln, ∃ x, ds = [bookD fs ks, x] ∧ x.dp 2 = true ∧ tupD x = l.call ∧ l.ok ks ∧ (ks.map Kd.nm).Nodup ∧ Q l.call n
/-- a LINE with lists or tuples -/
structure Mx where
  b : Bool
  c : D
  l : Ln
def Mx.d (m : Mx) : D := if m.b = true then .tup [m.c, .str m.l.w] else .list [m.c, .str m.l.w]
def Mx.ok (m : Mx) : Prop := m.c.dp 2 = true ∧ tupD m.c = m.l.call
def Mixed (x : D) (ls : List Ln) : Prop := ∃ zs : List Mx, ls = zs.map Mx.l ∧ (x = .tup (zs.map Mx.d) ∨ x = .list (zs.map Mx.d)) ∧ ∀ z ∈ zs, z.ok
def fsLined : FS := fun ds n Q _ => ∃ fs ks ls x, ds = [bookD fs ks, x] ∧ Mixed x ls ∧ (∀ l ∈ ls, l.ok ks) ∧ (ks.map Kd.nm).Nodup ∧ Q (.tup (ls.map Ln.d)) n
def kOf (ks : List Kd) (x : Str) : Option Kd := ks.find? fun k => k.nm == x
def szOf (ks : List Kd) (x : Str) : Int := match kOf ks x with
  | some k => lenP k.bd
  | none => 0
def teOf (ks : List Kd) (x : Str) : Bool := match kOf ks x with
  | some k => tellP k.bd
  | none => true
def bndGo (ks : List Kd) : Nat → Int → Int → List Ln → Int
  | _, best, _, [] => best
  | p, best, hid, l :: ls => bndGo ks (p + 1) (max best (min ((p : Int) + 1) (1 + szOf ks l.nm + hid))) (hid + if teOf ks l.nm = true then 0 else szOf ks l.nm) ls
def bndP (ks : List Kd) (ls : List Ln) : Int := bndGo ks 0 0 0 ls
def fsBound : FS := fun ds n Q _ => ∃ fs ks ls, ds = [bookD fs ks, .tup (ls.map Ln.d)] ∧ KsOk fs ks ∧ (∀ l ∈ ls, l.ok ks) ∧ Q (.int (bndP ks ls)) n
def fsMost : FS := fun ds n Q _ => ∃ fs ks ls x, ds = [bookD fs ks, x] ∧ Mixed x ls ∧ KsOk fs ks ∧ (∀ l ∈ ls, l.ok ks) ∧ Q (.int (bndP ks ls)) n
theorem kOf_of {ks : List Kd} {k : Kd} (h : k ∈ ks) (nd : (ks.map Kd.nm).Nodup) : kOf ks k.nm = some k := by
  unfold kOf
  induction ks with
  | nil => cases h
  | cons x ks ih =>
    rw [List.map_cons, List.nodup_cons] at nd
    rw [List.find?_cons]
    rcases List.mem_cons.mp h with z | z
    · subst z
      rw [beq_self_eq_true]
    · have : (x.nm == k.nm) = false := by
        rw [beq_eq_false_iff_ne]
        intro e
        exact nd.1 (List.mem_map.mpr ⟨k, z, e.symm⟩)
      rw [this]
      exact ih z nd.2
theorem call_ix0 (l : Ln) : getI l.call (.int 0) = some (.str l.nm) := ix0 _ _
section
variable {T : Tab} {n : Nat} {Q : D → Nat → Prop} {E : QX}
theorem all_bools (xs : List Bool) : biD .all [.list (xs.map .bl)] = some (.bl (xs.all id)) := by
  have e : bools (xs.map .bl) = some xs := by
    induction xs with
    | nil => rfl
    | cons x xs ih => rw [List.map_cons, bools, ih]; rfl
  show (bools (xs.map .bl)).map _ = _
  rw [e]
  rfl
theorem slc1 (a : D) (r : List D) : slcD (.tup (a :: r)) (some 1) none = some (.tup r) := by
  show some (D.tup (cutD (a :: r) (some 1) none)) = _
  congr 2
  unfold cutD
  have e1 : HT.sIx (a :: r).length 0 (some 1) = 1 := by
    have := HT.sIx_nat (a :: r).length 0 1
    rw [show ((1 : Nat) : Int) = 1 from rfl] at this
    rw [this, List.length_cons]
    omega
  have e2 : HT.sIx (a :: r).length (a :: r).length none = (a :: r).length := HT.sIx_none ..
  rw [e1, e2, List.drop_succ_cons, List.drop_zero, List.length_cons, Nat.add_sub_cancel, List.take_length]
theorem b_is_call {ds : List D} (m1 : T.me "Book" "__getitem__" = some fsGet) (m2 : T.me "Book" "__contains__" = some fsHas) (f1 : T.fs "is_number" = some fsNum) (h : fsIsCall ds n Q E) : wB T ir_is_call (ent0 ["book", "thing", "part"] ds) n (eQ Q E) := by
  obtain ⟨fs, ks, l, rfl, ⟨k, hk, en, ea⟩, nd, q⟩ := h
  unfold ir_is_call
  have l0 : ((((D.str l.nm :: l.as.map D.int).length : Nat) : Int) == 0) = false := by
    rw [beq_eq_false_iff_ne, List.length_cons]
    omega
  have e1 : ((((D.str l.nm :: l.as.map D.int).length : Nat) : Int) - 1 == (k.ps.length : Int)) = true := by
    rw [List.length_cons, List.length_map, ea, beq_iff_eq]
    omega
  show wB T _ ([.sh (bookD fs ks), .sh l.call, .no] : List Ent) n (eQ Q E)
  simp only [bookD, Ln.call, wB, wS, wE, wA, wAnd, wOr, wAndT, wOrT, wP, wI, tru, eQ, exAt_eq, IAs.isNil, List.map_cons, List.map_nil, List.cons_append, List.nil_append, List.getElem?_cons_zero, List.getElem?_cons_succ, List.set_cons_zero, List.set_cons_succ, Bool.false_eq_true, if_false, if_true, if_pos, List.any_cons, List.any_nil, ofO_some, ofO_none, setMany, bindT, D.truth, D.isTy, D.isBox, bi_len_tup, bi_len_list, bi_len_str, bi_tuple_list, bi_tuple_tup, bi_list_list, bi_list_tup, bi_int_int, eq_int, ne_int, lt_int, le_int, gt_int, ge_int, Bool.or_false, Bool.or_true, Bool.false_or, Bool.true_or, Bool.and_true, Bool.true_and, Bool.not_true, Bool.not_false, Bool.and_false, Bool.false_and, Option.map_some, reduceCtorEq, and_true, true_and, and_self, m1, m2, f1, l0, ix0]
  refine ⟨fs, ks, l.nm, rfl, ?_⟩
  have hb : (ks.any fun k => k.nm == l.nm) = true := List.any_eq_true.mpr ⟨k, hk, by rw [en]; exact beq_self_eq_true _⟩
  rw [hb]
  simp only [wB, wS, wE, wA, wAnd, wOr, wAndT, wOrT, wP, wI, tru, eQ, exAt_eq, IAs.isNil, List.map_cons, List.map_nil, List.cons_append, List.nil_append, List.getElem?_cons_zero, List.getElem?_cons_succ, List.set_cons_zero, List.set_cons_succ, Bool.false_eq_true, if_false, if_true, if_pos, List.any_cons, List.any_nil, ofO_some, ofO_none, setMany, bindT, D.truth, D.isTy, D.isBox, bi_len_tup, bi_len_list, bi_len_str, bi_tuple_list, bi_tuple_tup, bi_list_list, bi_list_tup, bi_int_int, eq_int, ne_int, lt_int, le_int, gt_int, ge_int, Bool.or_false, Bool.or_true, Bool.false_or, Bool.true_or, Bool.and_true, Bool.true_and, Bool.not_true, Bool.not_false, Bool.and_false, Bool.false_and, Option.map_some, reduceCtorEq, and_true, true_and, and_self]
  refine ⟨fs, ks, k, by rw [en]; rfl, hk, nd, ?_⟩
  have eb : binop .sub (.int ((D.str l.nm :: l.as.map D.int).length : Nat)) (.int 1) = some (.int (((D.str l.nm :: l.as.map D.int).length : Int) - 1)) := rfl
  simp only [wB, wS, wE, wA, wAnd, wOr, wAndT, wOrT, wP, wI, tru, eQ, exAt_eq, IAs.isNil, List.map_cons, List.map_nil, List.cons_append, List.nil_append, List.getElem?_cons_zero, List.getElem?_cons_succ, List.set_cons_zero, List.set_cons_succ, Bool.false_eq_true, if_false, if_true, if_pos, List.any_cons, List.any_nil, ofO_some, ofO_none, setMany, bindT, D.truth, D.isTy, D.isBox, bi_len_tup, bi_len_list, bi_len_str, bi_tuple_list, bi_tuple_tup, bi_list_list, bi_list_tup, bi_int_int, eq_int, ne_int, lt_int, le_int, gt_int, ge_int, Bool.or_false, Bool.or_true, Bool.false_or, Bool.true_or, Bool.and_true, Bool.true_and, Bool.not_true, Bool.not_false, Bool.and_false, Bool.false_and, Option.map_some, reduceCtorEq, and_true, true_and, and_self, kd_ix1, eb, List.length_map, e1, slc1, itemsD]
  refine compL_enc (g := fun _ : Int => .bl true) (fun i _ n c hc => ?_) ?_
  · exact ⟨.int i, rfl, rfl, hc⟩
  · have e : (l.as.map fun _ : Int => D.bl true) = (l.as.map fun _ => true).map .bl := by rw [List.map_map]; rfl
    simp only [List.nil_append]
    rw [e, all_bools]
    have e2 : ((l.as.map fun _ : Int => true).all id) = true := by simp
    rw [e2]
    exact q
theorem b_called {ds : List D} (f1 : T.fs "tupled" = some (fsTupled 2)) (f2 : T.fs "is_call" = some fsIsCall) (h : fsCalled ds n Q E) : wB T ir_called (ent0 ["book", "call", "own"] ds) n (eQ Q E) := by
  obtain ⟨fs, ks, l, x, rfl, hd, ht, hl, nd, q⟩ := h
  unfold ir_called ent0
  simp only [bookD, wB, wS, wE, wA, wAnd, wOr, wAndT, wOrT, wP, wI, tru, eQ, exAt_eq, IAs.isNil, List.map_cons, List.map_nil, List.cons_append, List.nil_append, List.getElem?_cons_zero, List.getElem?_cons_succ, List.set_cons_zero, List.set_cons_succ, Bool.false_eq_true, if_false, if_true, if_pos, List.any_cons, List.any_nil, ofO_some, ofO_none, setMany, bindT, D.truth, D.isTy, D.isBox, bi_len_tup, bi_len_list, bi_len_str, bi_tuple_list, bi_tuple_tup, bi_list_list, bi_list_tup, bi_int_int, eq_int, ne_int, lt_int, le_int, gt_int, ge_int, Bool.or_false, Bool.or_true, Bool.false_or, Bool.true_or, Bool.and_true, Bool.true_and, Bool.not_true, Bool.not_false, Bool.and_false, Bool.false_and, Option.map_some, reduceCtorEq, and_true, true_and, and_self, f1, f2, List.length_cons, List.length_nil, List.replicate]
  refine ⟨x, rfl, hd, ?_⟩
  rw [ht]
  simp only [wB, wS, wE, wA, wAnd, wOr, wAndT, wOrT, wP, wI, tru, eQ, exAt_eq, IAs.isNil, List.map_cons, List.map_nil, List.cons_append, List.nil_append, List.getElem?_cons_zero, List.getElem?_cons_succ, List.set_cons_zero, List.set_cons_succ, Bool.false_eq_true, if_false, if_true, if_pos, List.any_cons, List.any_nil, ofO_some, ofO_none, setMany, bindT, D.truth, D.isTy, D.isBox, bi_len_tup, bi_len_list, bi_len_str, bi_tuple_list, bi_tuple_tup, bi_list_list, bi_list_tup, bi_int_int, eq_int, ne_int, lt_int, le_int, gt_int, ge_int, Bool.or_false, Bool.or_true, Bool.false_or, Bool.true_or, Bool.and_true, Bool.true_and, Bool.not_true, Bool.not_false, Bool.and_false, Bool.false_and, Option.map_some, reduceCtorEq, and_true, true_and, and_self]
  refine ⟨fs, ks, l, rfl, hl, nd, ?_⟩
  simp only [wB, wS, wE, wA, wAnd, wOr, wAndT, wOrT, wP, wI, tru, eQ, exAt_eq, IAs.isNil, List.map_cons, List.map_nil, List.cons_append, List.nil_append, List.getElem?_cons_zero, List.getElem?_cons_succ, List.set_cons_zero, List.set_cons_succ, Bool.false_eq_true, if_false, if_true, if_pos, List.any_cons, List.any_nil, ofO_some, ofO_none, setMany, bindT, D.truth, D.isTy, D.isBox, bi_len_tup, bi_len_list, bi_len_str, bi_tuple_list, bi_tuple_tup, bi_list_list, bi_list_tup, bi_int_int, eq_int, ne_int, lt_int, le_int, gt_int, ge_int, Bool.or_false, Bool.or_true, Bool.false_or, Bool.true_or, Bool.and_true, Bool.true_and, Bool.not_true, Bool.not_false, Bool.and_false, Bool.false_and, Option.map_some, reduceCtorEq, and_true, true_and, and_self]
  exact q
theorem b_lined {ds : List D} (f1 : T.fs "called" = some fsCalled) (h : fsLined ds n Q E) : wB T ir_lined (ent0 ["book", "lines", "call", "word"] ds) n (eQ Q E) := by
  obtain ⟨fs, ks, ls, x, rfl, ⟨zs, rfl, hx, hz⟩, hl, nd, q⟩ := h
  unfold ir_lined ent0
  have key : ∀ (y : D), compL (fun d m k => ofO (bindT (.many [2, 3]) [.sh (bookD fs ks), .sh y, .no, .no] d) fun r' => wE T (.k (.bl true)) r' m (tru fun z m1 => if z = true then wE T (.tup (.cons (.call "called" (.cons (.v 0) (.cons (.v 2) .nil))) (.cons (.v 3) .nil))) r' m1 (fun y m2 => k (some y) m2) noX else k none m1) noX) (zs.map Mx.d) [] n fun xs n2 => ofO (biD .tuple [.list xs]) fun z => Q z n2 := by
    intro y
    refine compL_enc (g := fun z : Mx => z.l.d) (fun z hzm n c hc => ?_) ?_
    · obtain ⟨z1, z2⟩ := hz z hzm
      unfold Mx.d
      cases z.b with
      | true =>
        rw [if_pos rfl]
        simp only [wB, wS, wE, wA, wAnd, wOr, wAndT, wOrT, wP, wI, tru, eQ, exAt_eq, IAs.isNil, List.map_cons, List.map_nil, List.cons_append, List.nil_append, List.getElem?_cons_zero, List.getElem?_cons_succ, List.set_cons_zero, List.set_cons_succ, Bool.false_eq_true, if_false, if_true, if_pos, List.any_cons, List.any_nil, ofO_some, ofO_none, setMany, bindT, D.truth, D.isTy, D.isBox, bi_len_tup, bi_len_list, bi_len_str, bi_tuple_list, bi_tuple_tup, bi_list_list, bi_list_tup, bi_int_int, eq_int, ne_int, lt_int, le_int, gt_int, ge_int, Bool.or_false, Bool.or_true, Bool.false_or, Bool.true_or, Bool.and_true, Bool.true_and, Bool.not_true, Bool.not_false, Bool.and_false, Bool.false_and, Option.map_some, reduceCtorEq, and_true, true_and, and_self, f1]
        exact ⟨fs, ks, z.l, z.c, rfl, z1, z2, hl _ (List.mem_map.mpr ⟨z, hzm, rfl⟩), nd, by (try simp only [List.length_cons, List.length_nil]); rw [sizeLine_eq]; decide, hc⟩
      | false =>
        rw [if_neg (by decide)]
        simp only [wB, wS, wE, wA, wAnd, wOr, wAndT, wOrT, wP, wI, tru, eQ, exAt_eq, IAs.isNil, List.map_cons, List.map_nil, List.cons_append, List.nil_append, List.getElem?_cons_zero, List.getElem?_cons_succ, List.set_cons_zero, List.set_cons_succ, Bool.false_eq_true, if_false, if_true, if_pos, List.any_cons, List.any_nil, ofO_some, ofO_none, setMany, bindT, D.truth, D.isTy, D.isBox, bi_len_tup, bi_len_list, bi_len_str, bi_tuple_list, bi_tuple_tup, bi_list_list, bi_list_tup, bi_int_int, eq_int, ne_int, lt_int, le_int, gt_int, ge_int, Bool.or_false, Bool.or_true, Bool.false_or, Bool.true_or, Bool.and_true, Bool.true_and, Bool.not_true, Bool.not_false, Bool.and_false, Bool.false_and, Option.map_some, reduceCtorEq, and_true, true_and, and_self, f1]
        exact ⟨fs, ks, z.l, z.c, rfl, z1, z2, hl _ (List.mem_map.mpr ⟨z, hzm, rfl⟩), nd, by (try simp only [List.length_cons, List.length_nil]); rw [sizeLine_eq]; decide, hc⟩
    · rw [List.map_map] at q
      exact q
  rcases hx with rfl | rfl
  · simp only [wB, wS, wE, wA, wAnd, wOr, wAndT, wOrT, wP, wI, tru, eQ, exAt_eq, IAs.isNil, List.map_cons, List.map_nil, List.cons_append, List.nil_append, List.getElem?_cons_zero, List.getElem?_cons_succ, List.set_cons_zero, List.set_cons_succ, Bool.false_eq_true, if_false, if_true, if_pos, List.any_cons, List.any_nil, ofO_some, ofO_none, setMany, bindT, D.truth, D.isTy, D.isBox, bi_len_tup, bi_len_list, bi_len_str, bi_tuple_list, bi_tuple_tup, bi_list_list, bi_list_tup, bi_int_int, eq_int, ne_int, lt_int, le_int, gt_int, ge_int, Bool.or_false, Bool.or_true, Bool.false_or, Bool.true_or, Bool.and_true, Bool.true_and, Bool.not_true, Bool.not_false, Bool.and_false, Bool.false_and, Option.map_some, reduceCtorEq, and_true, true_and, and_self, List.length_cons, List.length_nil, List.replicate, itemsD]
    exact key _
  · simp only [wB, wS, wE, wA, wAnd, wOr, wAndT, wOrT, wP, wI, tru, eQ, exAt_eq, IAs.isNil, List.map_cons, List.map_nil, List.cons_append, List.nil_append, List.getElem?_cons_zero, List.getElem?_cons_succ, List.set_cons_zero, List.set_cons_succ, Bool.false_eq_true, if_false, if_true, if_pos, List.any_cons, List.any_nil, ofO_some, ofO_none, setMany, bindT, D.truth, D.isTy, D.isBox, bi_len_tup, bi_len_list, bi_len_str, bi_tuple_list, bi_tuple_tup, bi_list_list, bi_list_tup, bi_int_int, eq_int, ne_int, lt_int, le_int, gt_int, ge_int, Bool.or_false, Bool.or_true, Bool.false_or, Bool.true_or, Bool.and_true, Bool.true_and, Bool.not_true, Bool.not_false, Bool.and_false, Bool.false_and, Option.map_some, reduceCtorEq, and_true, true_and, and_self, List.length_cons, List.length_nil, List.replicate, itemsD]
    exact key _
theorem b_bound_of {ds : List D} (f1 : T.fs "length_of" = some fsLength) (f2 : T.fs "is_telling" = some fsTelling) (h : fsBound ds n Q E) : wB T ir_bound_of (ent0 ["book", "lines", "best", "hidden", "place", "call", "word", "size"] ds) n (eQ Q E) := by
  obtain ⟨fs, ks, ls, rfl, ok, hl, q⟩ := h
  unfold ir_bound_of ent0
  simp only [wB, wS, wE, wA, wAnd, wOr, wAndT, wOrT, wP, wI, tru, eQ, exAt_eq, IAs.isNil, List.map_cons, List.map_nil, List.cons_append, List.nil_append, List.getElem?_cons_zero, List.getElem?_cons_succ, List.set_cons_zero, List.set_cons_succ, Bool.false_eq_true, if_false, if_true, if_pos, List.any_cons, List.any_nil, ofO_some, ofO_none, setMany, bindT, D.truth, D.isTy, D.isBox, bi_len_tup, bi_len_list, bi_len_str, bi_tuple_list, bi_tuple_tup, bi_list_list, bi_list_tup, bi_int_int, eq_int, ne_int, lt_int, le_int, gt_int, ge_int, Bool.or_false, Bool.or_true, Bool.false_or, Bool.true_or, Bool.and_true, Bool.true_and, Bool.not_true, Bool.not_false, Bool.and_false, Bool.false_and, Option.map_some, reduceCtorEq, and_true, true_and, and_self, List.length_cons, List.length_nil, List.replicate]
  refine forL_enumE (fun i rest r n1 => n1 = n ∧ (∀ l ∈ rest, l.ok ks) ∧ ∃ (best hid : Int) (x4 x5 x6 x7 : Ent), bndP ks ls = bndGo ks i best hid rest ∧ r = [.sh (bookD fs ks), .sh (.tup (ls.map Ln.d)), .sh (.int best), .sh (.int hid), x4, x5, x6, x7]) ?_ ?_ 0 ls _ _ ⟨rfl, hl, 0, 0, .no, .no, .no, .no, rfl, rfl⟩
  · rintro i l rest r n1 ⟨rfl, hr, best, hid, x4, x5, x6, x7, hb, rfl⟩ c hc
    obtain ⟨k, hk, en, _⟩ := hr l (List.mem_cons_self ..)
    have ek : kOf ks l.nm = some k := by rw [← en]; exact kOf_of hk ok.nd
    simp only [Ln.d, wB, wS, wE, wA, wAnd, wOr, wAndT, wOrT, wP, wI, tru, eQ, exAt_eq, IAs.isNil, List.map_cons, List.map_nil, List.cons_append, List.nil_append, List.getElem?_cons_zero, List.getElem?_cons_succ, List.set_cons_zero, List.set_cons_succ, Bool.false_eq_true, if_false, if_true, if_pos, List.any_cons, List.any_nil, ofO_some, ofO_none, setMany, bindT, D.truth, D.isTy, D.isBox, bi_len_tup, bi_len_list, bi_len_str, bi_tuple_list, bi_tuple_tup, bi_list_list, bi_list_tup, bi_int_int, eq_int, ne_int, lt_int, le_int, gt_int, ge_int, Bool.or_false, Bool.or_true, Bool.false_or, Bool.true_or, Bool.and_true, Bool.true_and, Bool.not_true, Bool.not_false, Bool.and_false, Bool.false_and, Option.map_some, reduceCtorEq, and_true, true_and, and_self, f1, f2, call_ix0]
    refine ⟨fs, ks, k, by rw [en], hk, ok, ?_⟩
    have a1 : binop .add (.int (i : Nat)) (.int 1) = some (.int ((i : Int) + 1)) := rfl
    have a2 : binop .add (.int 1) (.int (lenP k.bd)) = some (.int (1 + lenP k.bd)) := rfl
    have a3 : binop .add (.int (1 + lenP k.bd)) (.int hid) = some (.int (1 + lenP k.bd + hid)) := rfl
    simp only [wB, wS, wE, wA, wAnd, wOr, wAndT, wOrT, wP, wI, tru, eQ, exAt_eq, IAs.isNil, List.map_cons, List.map_nil, List.cons_append, List.nil_append, List.getElem?_cons_zero, List.getElem?_cons_succ, List.set_cons_zero, List.set_cons_succ, Bool.false_eq_true, if_false, if_true, if_pos, List.any_cons, List.any_nil, ofO_some, ofO_none, setMany, bindT, D.truth, D.isTy, D.isBox, bi_len_tup, bi_len_list, bi_len_str, bi_tuple_list, bi_tuple_tup, bi_list_list, bi_list_tup, bi_int_int, eq_int, ne_int, lt_int, le_int, gt_int, ge_int, Bool.or_false, Bool.or_true, Bool.false_or, Bool.true_or, Bool.and_true, Bool.true_and, Bool.not_true, Bool.not_false, Bool.and_false, Bool.false_and, Option.map_some, reduceCtorEq, and_true, true_and, and_self, a1, a2, a3]
    refine ⟨fs, ks, k, by rw [en], hk, ok, ?_⟩
    rw [bndGo] at hb
    have es : szOf ks l.nm = lenP k.bd := by unfold szOf; rw [ek]
    have et : teOf ks l.nm = tellP k.bd := by unfold teOf; rw [ek]
    rw [es, et] at hb
    cases ht : tellP k.bd with
    | true =>
      rw [ht, if_pos rfl] at hb
      simp only [wB, wS, wE, wA, wAnd, wOr, wAndT, wOrT, wP, wI, tru, eQ, exAt_eq, IAs.isNil, List.map_cons, List.map_nil, List.cons_append, List.nil_append, List.getElem?_cons_zero, List.getElem?_cons_succ, List.set_cons_zero, List.set_cons_succ, Bool.false_eq_true, if_false, if_true, if_pos, List.any_cons, List.any_nil, ofO_some, ofO_none, setMany, bindT, D.truth, D.isTy, D.isBox, bi_len_tup, bi_len_list, bi_len_str, bi_tuple_list, bi_tuple_tup, bi_list_list, bi_list_tup, bi_int_int, eq_int, ne_int, lt_int, le_int, gt_int, ge_int, Bool.or_false, Bool.or_true, Bool.false_or, Bool.true_or, Bool.and_true, Bool.true_and, Bool.not_true, Bool.not_false, Bool.and_false, Bool.false_and, Option.map_some, reduceCtorEq, and_true, true_and, and_self]
      exact hc _ _ ⟨rfl, fun l hl => hr l (List.mem_cons_of_mem _ hl), _, _, _, _, _, _, hb, rfl⟩
    | false =>
      rw [ht, if_neg (by decide)] at hb
      simp only [wB, wS, wE, wA, wAnd, wOr, wAndT, wOrT, wP, wI, tru, eQ, exAt_eq, IAs.isNil, List.map_cons, List.map_nil, List.cons_append, List.nil_append, List.getElem?_cons_zero, List.getElem?_cons_succ, List.set_cons_zero, List.set_cons_succ, Bool.false_eq_true, if_false, if_true, if_pos, List.any_cons, List.any_nil, ofO_some, ofO_none, setMany, bindT, D.truth, D.isTy, D.isBox, bi_len_tup, bi_len_list, bi_len_str, bi_tuple_list, bi_tuple_tup, bi_list_list, bi_list_tup, bi_int_int, eq_int, ne_int, lt_int, le_int, gt_int, ge_int, Bool.or_false, Bool.or_true, Bool.false_or, Bool.true_or, Bool.and_true, Bool.true_and, Bool.not_true, Bool.not_false, Bool.and_false, Bool.false_and, Option.map_some, reduceCtorEq, and_true, true_and, and_self]
      exact hc _ _ ⟨rfl, fun l hl => hr l (List.mem_cons_of_mem _ hl), _, _, _, _, _, _, hb, rfl⟩
  · rintro i r n1 ⟨rfl, _, best, hid, x4, x5, x6, x7, hb, rfl⟩
    rw [bndGo] at hb
    rw [hb] at q
    simp only [wB, wS, wE, wA, wAnd, wOr, wAndT, wOrT, wP, wI, tru, eQ, exAt_eq, IAs.isNil, List.map_cons, List.map_nil, List.cons_append, List.nil_append, List.getElem?_cons_zero, List.getElem?_cons_succ, List.set_cons_zero, List.set_cons_succ, Bool.false_eq_true, if_false, if_true, if_pos, List.any_cons, List.any_nil, ofO_some, ofO_none, setMany, bindT, D.truth, D.isTy, D.isBox, bi_len_tup, bi_len_list, bi_len_str, bi_tuple_list, bi_tuple_tup, bi_list_list, bi_list_tup, bi_int_int, eq_int, ne_int, lt_int, le_int, gt_int, ge_int, Bool.or_false, Bool.or_true, Bool.false_or, Bool.true_or, Bool.and_true, Bool.true_and, Bool.not_true, Bool.not_false, Bool.and_false, Bool.false_and, Option.map_some, reduceCtorEq, and_true, true_and, and_self]
    exact q
theorem b_most_calls {ds : List D} (f1 : T.fs "bound_of" = some fsBound) (f2 : T.fs "lined" = some fsLined) (h : fsMost ds n Q E) : wB T ir_most_calls (ent0 ["book", "lines"] ds) n (eQ Q E) := by
  obtain ⟨fs, ks, ls, x, rfl, hx, ok, hl, q⟩ := h
  unfold ir_most_calls ent0
  simp only [wB, wS, wE, wA, wAnd, wOr, wAndT, wOrT, wP, wI, tru, eQ, exAt_eq, IAs.isNil, List.map_cons, List.map_nil, List.cons_append, List.nil_append, List.getElem?_cons_zero, List.getElem?_cons_succ, List.set_cons_zero, List.set_cons_succ, Bool.false_eq_true, if_false, if_true, if_pos, List.any_cons, List.any_nil, ofO_some, ofO_none, setMany, bindT, D.truth, D.isTy, D.isBox, bi_len_tup, bi_len_list, bi_len_str, bi_tuple_list, bi_tuple_tup, bi_list_list, bi_list_tup, bi_int_int, eq_int, ne_int, lt_int, le_int, gt_int, ge_int, Bool.or_false, Bool.or_true, Bool.false_or, Bool.true_or, Bool.and_true, Bool.true_and, Bool.not_true, Bool.not_false, Bool.and_false, Bool.false_and, Option.map_some, reduceCtorEq, and_true, true_and, and_self, f1, f2, List.length_cons, List.length_nil, List.replicate]
  exact ⟨fs, ks, ls, x, rfl, hx, hl, ok.nd, fs, ks, ls, rfl, ok, hl, q⟩
end
/-! ### a Book is made -/
def fsBookC : FS := fun ds n Q _ => ∃ fs ks a b, ds = [a, b] ∧ a.dp 1 = true ∧ tupD a = .tup (fs.map .str) ∧ b.dp 14 = true ∧ tupD b = .tup (ks.map Kd.d) ∧ FOk fs ∧ KsOk fs ks ∧ Q (bookD fs ks) n
section
variable {T : Tab} {n : Nat} {Q : D → Nat → Prop} {E : QX}
theorem cut_take (xs : List D) (i : Nat) : cutD xs none (some (i : Int)) = xs.take i := by
  unfold cutD
  have e1 : HT.sIx xs.length 0 none = 0 := HT.sIx_none ..
  rw [e1, show HT.sIx xs.length xs.length (some (i : Int)) = min i xs.length from HT.sIx_nat ..]
  rw [List.drop_zero, Nat.sub_zero]
  by_cases h : i ≤ xs.length
  · rw [Nat.min_eq_left h]
  · rw [Nat.min_eq_right (by omega), List.take_length, List.take_of_length_le (by omega)]
theorem b_Book_init {ds : List D} {o : Addr} (f1 : T.fs "tupled" = some (fsTupled 14)) (f2 : T.fs "are_names" = some fsNames) (f3 : T.fs "is_kind_of" = some (fsKind 20)) (g1 : T.gv "MOST_FIELDS" = some (.int 2)) (h : fsBookC ds n Q noX) :
    wB T ir_Book_init (ent0 ["self", "fields", "kinds", "own", "rows", "place", "kind", "names", "name"] (.pin o :: ds)) n ⟨fun r n => ∃ d1 d2, r[0]? = some (.sh (.pin o)) ∧ r[3]? = some (.sh d1) ∧ r[4]? = some (.sh d2) ∧ Q (.obj "Book" [("own_fields", d1), ("own_kinds", d2)]) n, fun _ _ => False, fun _ _ => False, fun _ _ => False, fun x _ n => False⟩ := by
  obtain ⟨fs, ks, a, b, rfl, ha, hta, hb, htb, fok, kok, q⟩ := h
  unfold ir_Book_init ent0
  simp only [wB, wS, wE, wA, wAnd, wOr, wAndT, wOrT, wP, wI, tru, eQ, exAt_eq, IAs.isNil, List.map_cons, List.map_nil, List.cons_append, List.nil_append, List.getElem?_cons_zero, List.getElem?_cons_succ, List.set_cons_zero, List.set_cons_succ, Bool.false_eq_true, if_false, if_true, if_pos, List.any_cons, List.any_nil, ofO_some, ofO_none, setMany, bindT, D.truth, D.isTy, D.isBox, bi_len_tup, bi_len_list, bi_len_str, bi_tuple_list, bi_tuple_tup, bi_list_list, bi_list_tup, bi_int_int, eq_int, ne_int, lt_int, le_int, gt_int, ge_int, Bool.or_false, Bool.or_true, Bool.false_or, Bool.true_or, Bool.and_true, Bool.true_and, Bool.not_true, Bool.not_false, Bool.and_false, Bool.false_and, Option.map_some, reduceCtorEq, and_true, true_and, and_self, f1, f2, f3, g1, List.length_cons, List.length_nil, List.replicate]
  refine ⟨a, rfl, dp_mono (by decide) a ha, ?_⟩
  rw [hta]
  simp only [wB, wS, wE, wA, wAnd, wOr, wAndT, wOrT, wP, wI, tru, eQ, exAt_eq, IAs.isNil, List.map_cons, List.map_nil, List.cons_append, List.nil_append, List.getElem?_cons_zero, List.getElem?_cons_succ, List.set_cons_zero, List.set_cons_succ, Bool.false_eq_true, if_false, if_true, if_pos, List.any_cons, List.any_nil, ofO_some, ofO_none, setMany, bindT, D.truth, D.isTy, D.isBox, bi_len_tup, bi_len_list, bi_len_str, bi_tuple_list, bi_tuple_tup, bi_list_list, bi_list_tup, bi_int_int, eq_int, ne_int, lt_int, le_int, gt_int, ge_int, Bool.or_false, Bool.or_true, Bool.false_or, Bool.true_or, Bool.and_true, Bool.true_and, Bool.not_true, Bool.not_false, Bool.and_false, Bool.false_and, Option.map_some, reduceCtorEq, and_true, true_and, and_self, f1]
  refine ⟨b, rfl, hb, ?_⟩
  rw [htb]
  simp only [wB, wS, wE, wA, wAnd, wOr, wAndT, wOrT, wP, wI, tru, eQ, exAt_eq, IAs.isNil, List.map_cons, List.map_nil, List.cons_append, List.nil_append, List.getElem?_cons_zero, List.getElem?_cons_succ, List.set_cons_zero, List.set_cons_succ, Bool.false_eq_true, if_false, if_true, if_pos, List.any_cons, List.any_nil, ofO_some, ofO_none, setMany, bindT, D.truth, D.isTy, D.isBox, bi_len_tup, bi_len_list, bi_len_str, bi_tuple_list, bi_tuple_tup, bi_list_list, bi_list_tup, bi_int_int, eq_int, ne_int, lt_int, le_int, gt_int, ge_int, Bool.or_false, Bool.or_true, Bool.false_or, Bool.true_or, Bool.and_true, Bool.true_and, Bool.not_true, Bool.not_false, Bool.and_false, Bool.false_and, Option.map_some, reduceCtorEq, and_true, true_and, and_self, f2, g1]
  refine ⟨_, 1, 2, 1, rfl, by decide, by rw [D.dp]; exact strs_dps fs 0, ?_⟩
  rw [names_tup (by have := fok.pos; omega) (by have := fok.len; omega) fok.nd fok.nm]
  simp only [wB, wS, wE, wA, wAnd, wOr, wAndT, wOrT, wP, wI, tru, eQ, exAt_eq, IAs.isNil, List.map_cons, List.map_nil, List.cons_append, List.nil_append, List.getElem?_cons_zero, List.getElem?_cons_succ, List.set_cons_zero, List.set_cons_succ, Bool.false_eq_true, if_false, if_true, if_pos, List.any_cons, List.any_nil, ofO_some, ofO_none, setMany, bindT, D.truth, D.isTy, D.isBox, bi_len_tup, bi_len_list, bi_len_str, bi_tuple_list, bi_tuple_tup, bi_list_list, bi_list_tup, bi_int_int, eq_int, ne_int, lt_int, le_int, gt_int, ge_int, Bool.or_false, Bool.or_true, Bool.false_or, Bool.true_or, Bool.and_true, Bool.true_and, Bool.not_true, Bool.not_false, Bool.and_false, Bool.false_and, Option.map_some, reduceCtorEq, and_true, true_and, and_self]
  refine forL_enumE (fun i rest r n1 => n1 = n ∧ (∀ k ∈ rest, Kd.ok fs k) ∧ ∃ (x5 x6 : Ent), r = [.sh (.pin o), .sh a, .sh b, .sh (.tup (fs.map .str)), .sh (.tup (ks.map Kd.d)), x5, x6, .no, .no]) ?_ ?_ 0 ks _ _ ⟨rfl, kok.ok, .no, .no, rfl⟩
  · rintro i k rest r n1 ⟨rfl, hr, x5, x6, rfl⟩ c hc
    simp only [wB, wS, wE, wA, wAnd, wOr, wAndT, wOrT, wP, wI, tru, eQ, exAt_eq, IAs.isNil, List.map_cons, List.map_nil, List.cons_append, List.nil_append, List.getElem?_cons_zero, List.getElem?_cons_succ, List.set_cons_zero, List.set_cons_succ, Bool.false_eq_true, if_false, if_true, if_pos, List.any_cons, List.any_nil, ofO_some, ofO_none, setMany, bindT, D.truth, D.isTy, D.isBox, bi_len_tup, bi_len_list, bi_len_str, bi_tuple_list, bi_tuple_tup, bi_list_list, bi_list_tup, bi_int_int, eq_int, ne_int, lt_int, le_int, gt_int, ge_int, Bool.or_false, Bool.or_true, Bool.false_or, Bool.true_or, Bool.and_true, Bool.true_and, Bool.not_true, Bool.not_false, Bool.and_false, Bool.false_and, Option.map_some, reduceCtorEq, and_true, true_and, and_self, f3]
    refine ⟨fs, k.d, rfl, dp_mono (by decide) _ (Kd.dp (hr k (List.mem_cons_self ..)).dep), ?_⟩
    rw [Kd.kindD (hr k (List.mem_cons_self ..))]
    simp only [wB, wS, wE, wA, wAnd, wOr, wAndT, wOrT, wP, wI, tru, eQ, exAt_eq, IAs.isNil, List.map_cons, List.map_nil, List.cons_append, List.nil_append, List.getElem?_cons_zero, List.getElem?_cons_succ, List.set_cons_zero, List.set_cons_succ, Bool.false_eq_true, if_false, if_true, if_pos, List.any_cons, List.any_nil, ofO_some, ofO_none, setMany, bindT, D.truth, D.isTy, D.isBox, bi_len_tup, bi_len_list, bi_len_str, bi_tuple_list, bi_tuple_tup, bi_list_list, bi_list_tup, bi_int_int, eq_int, ne_int, lt_int, le_int, gt_int, ge_int, Bool.or_false, Bool.or_true, Bool.false_or, Bool.true_or, Bool.and_true, Bool.true_and, Bool.not_true, Bool.not_false, Bool.and_false, Bool.false_and, Option.map_some, reduceCtorEq, and_true, true_and, and_self]
    exact hc _ _ ⟨rfl, fun k hk => hr k (List.mem_cons_of_mem _ hk), _, _, rfl⟩
  · rintro i r n1 ⟨rfl, _, x5, x6, rfl⟩
    simp only [wB, wS, wE, wA, wAnd, wOr, wAndT, wOrT, wP, wI, tru, eQ, exAt_eq, IAs.isNil, List.map_cons, List.map_nil, List.cons_append, List.nil_append, List.getElem?_cons_zero, List.getElem?_cons_succ, List.set_cons_zero, List.set_cons_succ, Bool.false_eq_true, if_false, if_true, if_pos, List.any_cons, List.any_nil, ofO_some, ofO_none, setMany, bindT, D.truth, D.isTy, D.isBox, bi_len_tup, bi_len_list, bi_len_str, bi_tuple_list, bi_tuple_tup, bi_list_list, bi_list_tup, bi_int_int, eq_int, ne_int, lt_int, le_int, gt_int, ge_int, Bool.or_false, Bool.or_true, Bool.false_or, Bool.true_or, Bool.and_true, Bool.true_and, Bool.not_true, Bool.not_false, Bool.and_false, Bool.false_and, Option.map_some, reduceCtorEq, and_true, true_and, and_self, itemsD]
    refine compL_enc (g := fun k : Kd => .str k.nm) (fun k hk n c hc => ?_) ?_
    · simp only [wB, wS, wE, wA, wAnd, wOr, wAndT, wOrT, wP, wI, tru, eQ, exAt_eq, IAs.isNil, List.map_cons, List.map_nil, List.cons_append, List.nil_append, List.getElem?_cons_zero, List.getElem?_cons_succ, List.set_cons_zero, List.set_cons_succ, Bool.false_eq_true, if_false, if_true, if_pos, List.any_cons, List.any_nil, ofO_some, ofO_none, setMany, bindT, D.truth, D.isTy, D.isBox, bi_len_tup, bi_len_list, bi_len_str, bi_tuple_list, bi_tuple_tup, bi_list_list, bi_list_tup, bi_int_int, eq_int, ne_int, lt_int, le_int, gt_int, ge_int, Bool.or_false, Bool.or_true, Bool.false_or, Bool.true_or, Bool.and_true, Bool.true_and, Bool.not_true, Bool.not_false, Bool.and_false, Bool.false_and, Option.map_some, reduceCtorEq, and_true, true_and, and_self, kd_ix0]
      exact hc
    · have e : (ks.map fun k : Kd => D.str k.nm) = (ks.map Kd.nm).map .str := by rw [List.map_map]; rfl
      simp only [List.nil_append]
      rw [e]
      refine forL_enumE (fun i rest r n2 => n2 = n1 ∧ (ks.map Kd.nm).drop i = rest ∧ ∃ (x5 x6 x8 : Ent), r = [.sh (.pin o), .sh a, .sh b, .sh (.tup (fs.map .str)), .sh (.tup (ks.map Kd.d)), x5, x6, .sh (.list ((ks.map Kd.nm).map .str)), x8]) ?_ ?_ 0 (ks.map Kd.nm) _ _ ⟨rfl, rfl, x5, _, .no, rfl⟩
      · rintro i x rest r n2 ⟨rfl, hr, x5, x6, x8, rfl⟩ c hc
        have es : slcD (.list ((ks.map Kd.nm).map .str)) none (some (i : Int)) = some (.list (((ks.map Kd.nm).take i).map .str)) := by
          show some (D.list (cutD _ none (some (i : Int)))) = _
          rw [cut_take, List.map_take]
        simp only [wB, wS, wE, wA, wAnd, wOr, wAndT, wOrT, wP, wI, tru, eQ, exAt_eq, IAs.isNil, List.map_cons, List.map_nil, List.cons_append, List.nil_append, List.getElem?_cons_zero, List.getElem?_cons_succ, List.set_cons_zero, List.set_cons_succ, Bool.false_eq_true, if_false, if_true, if_pos, List.any_cons, List.any_nil, ofO_some, ofO_none, setMany, bindT, D.truth, D.isTy, D.isBox, bi_len_tup, bi_len_list, bi_len_str, bi_tuple_list, bi_tuple_tup, bi_list_list, bi_list_tup, bi_int_int, eq_int, ne_int, lt_int, le_int, gt_int, ge_int, Bool.or_false, Bool.or_true, Bool.false_or, Bool.true_or, Bool.and_true, Bool.true_and, Bool.not_true, Bool.not_false, Bool.and_false, Bool.false_and, Option.map_some, reduceCtorEq, and_true, true_and, and_self, es]
        rw [in_strs_list (x := .str x) rfl]
        have hn : hasS ((ks.map Kd.nm).take i) (.str x) = false := by
          show ((ks.map Kd.nm).take i).contains x = false
          rw [Bool.eq_false_iff]
          intro hc
          rw [List.contains_iff_mem] at hc
          have nd := kok.nd
          rw [← List.take_append_drop i (ks.map Kd.nm), List.nodup_append, hr] at nd
          exact nd.2.2 x hc x (List.mem_cons_self ..) rfl
        rw [hn]
        simp only [wB, wS, wE, wA, wAnd, wOr, wAndT, wOrT, wP, wI, tru, eQ, exAt_eq, IAs.isNil, List.map_cons, List.map_nil, List.cons_append, List.nil_append, List.getElem?_cons_zero, List.getElem?_cons_succ, List.set_cons_zero, List.set_cons_succ, Bool.false_eq_true, if_false, if_true, if_pos, List.any_cons, List.any_nil, ofO_some, ofO_none, setMany, bindT, D.truth, D.isTy, D.isBox, bi_len_tup, bi_len_list, bi_len_str, bi_tuple_list, bi_tuple_tup, bi_list_list, bi_list_tup, bi_int_int, eq_int, ne_int, lt_int, le_int, gt_int, ge_int, Bool.or_false, Bool.or_true, Bool.false_or, Bool.true_or, Bool.and_true, Bool.true_and, Bool.not_true, Bool.not_false, Bool.and_false, Bool.false_and, Option.map_some, reduceCtorEq, and_true, true_and, and_self]
        refine hc _ _ ⟨rfl, ?_, _, _, _, rfl⟩
        have := congrArg List.tail hr
        rw [List.tail_drop] at this
        exact this
      · rintro i r n2 ⟨rfl, _, x5, x6, x8, rfl⟩
        exact ⟨_, _, rfl, rfl, rfl, q⟩
end
end Dl

set_option Elab.async false
set_option linter.all false
set_option maxRecDepth 100000
set_option maxHeartbeats 4000000
/-! What is drawn. -/
namespace Dl
open PySem PySem.Spec PyProof.Rows L2
def B9 : Nat := 1000000000
def fsTake : FS := fun ds n Q _ => ∃ m : Int, ds = [.box, .int m] ∧ 0 < m ∧ m ≤ 1000 ∧ n < B9 ∧ ∀ r : Int, 0 ≤ r → r < m → Q (.int r) (n + 1)
def fsOf : FS := fun ds n Q _ => ∃ x xs, ds = [.box, x] ∧ (x = .list xs ∨ x = .tup xs ∨ ∃ z, x = .str z ∧ xs = signs z) ∧ 0 < xs.length ∧ xs.length ≤ 1000 ∧ n < B9 ∧ ∀ d ∈ xs, Q d (n + 1)
theorem forL_rule {F : D → List Ent → Nat → (List Ent → Nat → Prop) → Prop} {Q : List Ent → Nat → Prop} (I : List D → List Ent → Nat → Prop) (turn : ∀ d rest r n, I (d :: rest) r n → ∀ k : List Ent → Nat → Prop, (∀ r' n', I rest r' n' → k r' n') → F d r n k) (fin : ∀ r n, I [] r n → Q r n) : ∀ (ds : List D) (r : List Ent) (n : Nat), I ds r n → forL F ds r n Q
  | [], r, n, h => fin r n h
  | d :: ds, r, n, h => turn d ds r n h _ fun r' n' h' => forL_rule I turn fin ds r' n' h'
theorem compL_rule {F : D → Nat → (Option D → Nat → Prop) → Prop} {Q : List D → Nat → Prop} (I : List D → List D → Nat → Prop) (turn : ∀ d rest acc n, I (d :: rest) acc n → ∀ k : Option D → Nat → Prop, (∀ y n', I rest (acc ++ [y]) n' → k (some y) n') → F d n k) (fin : ∀ acc n, I [] acc n → Q acc n) : ∀ (ds acc : List D) (n : Nat), I ds acc n → compL F ds acc n Q
  | [], acc, n, h => fin acc n h
  | d :: ds, acc, n, h => turn d ds acc n h _ fun y n' h' => compL_rule I turn fin ds (acc ++ [y]) n' h'
theorem strsD_map (zs : List Str) : strsD (zs.map .str) = some zs := by
  induction zs with
  | nil => rfl
  | cons z zs ih => rw [List.map_cons, strsD, ih]; rfl
theorem atI_of {α : Type} {xs : List α} {i : Int} (h0 : 0 ≤ i) (h1 : i < xs.length) : ∃ v ∈ xs, L2.atI xs i = some v := by
  have hj : i.toNat < xs.length := by omega
  refine ⟨xs[i.toNat], List.getElem_mem hj, ?_⟩
  unfold L2.atI L2.ixN
  rw [if_pos h0, if_pos h1]
  exact List.getElem?_eq_getElem hj
theorem sum_ones : ∀ {zs : List Str}, (∀ z ∈ zs, z.length = 1) → (zs.map (·.length)).sum = zs.length
  | [], _ => rfl
  | z :: zs, h => by
    rw [List.map_cons, List.sum_cons, h z (List.mem_cons_self ..), sum_ones fun y hy => h y (List.mem_cons_of_mem _ hy), List.length_cons]
    omega
theorem iota_len (lo : Int) : ∀ k, (iotaI lo k).length = k
  | 0 => rfl
  | k + 1 => by rw [iotaI, List.length_cons, iota_len]
theorem join_small {zs : List Str} (h : ∀ z ∈ zs, z.length = 1) (l : zs.length ≤ 1000) : ∃ w, joinD "" (.list (zs.map .str)) = some (.str w) ∧ w.length ≤ zs.length := by
  have e0 : (Str.ofString "").length = 0 := rfl
  refine ⟨Txt.join (Str.ofString "") zs, ?_, ?_⟩
  · have e : joinD (Str.ofString "") (.list (zs.map .str)) = (match strsD (zs.map .str) with
      | some ys => if (ys.map (·.length)).sum + ys.length * (Str.ofString "").length ≤ 16777216 then some (.str (Txt.join (Str.ofString "") ys)) else none
      | none => none) := rfl
    rw [e, strsD_map]
    simp only
    rw [if_pos]
    rw [sum_ones h, e0]
    omega
  · rw [TL.join_eq]
    have := join_len (Str.ofString "") zs
    rw [sum_ones h, e0] at this
    omega
theorem add_str {a c : Str} (h : a.length + c.length ≤ sizeLine) : binop .add (.str a) (.str c) = some (.str (a ++ c)) := by
  show (if a.length + c.length ≤ sizeLine then some (D.str (a ++ c)) else none) = _
  rw [if_pos h]
theorem twice_sign (c : Nat) : binop .mul (.str ⟨#[c]⟩) (.int 2) = some (.str (repS ⟨#[c]⟩ 2)) ∧ (repS ⟨#[c]⟩ 2).length = 2 := by
  have e : (repS ⟨#[c]⟩ 2).length = 2 := rfl
  refine ⟨?_, e⟩
  show (if (decide ((2 : Int) ≤ 2) && decide ((2 : Int) ≤ 1000) && decide (1 ≤ (⟨#[c]⟩ : Str).length) && decide ((⟨#[c]⟩ : Str).length ≤ 1000) && decide ((repS ⟨#[c]⟩ (2 : Int).toNat).length ≤ sizeLine)) = true then some (D.str (repS ⟨#[c]⟩ (2 : Int).toNat)) else none) = _
  have e2 : (repS ⟨#[c]⟩ (2 : Int).toNat).length ≤ sizeLine := by
    show (2 : Nat) ≤ sizeLine
    rw [sizeLine_eq]
    omega
  rw [decide_eq_true e2]
  rfl
section
variable {T : Tab} {n : Nat} {Q : D → Nat → Prop} {E : QX}
theorem b_law_of {ds : List D} (f1 : T.fs "_law_take" = some fsTake) (h : fsOf ds n Q E) : wB T ir_law_of (ent0 ["_law_box_here", "_law_some"] ds) n (eQ Q E) := by
  obtain ⟨x, xs, rfl, hx, l0, l1, hn, q⟩ := h
  unfold ir_law_of ent0
  simp only [wB, wS, wE, wA, wAnd, wOr, wAndT, wOrT, wP, wI, tru, eQ, exAt_eq, IAs.isNil, List.map_cons, List.map_nil, List.cons_append, List.nil_append, List.getElem?_cons_zero, List.getElem?_cons_succ, List.set_cons_zero, List.set_cons_succ, Bool.false_eq_true, if_false, if_true, if_pos, List.any_cons, List.any_nil, ofO_some, ofO_none, setMany, bindT, D.truth, D.isTy, D.isBox, bi_len_tup, bi_len_list, bi_len_str, bi_tuple_list, bi_tuple_tup, bi_list_list, bi_list_tup, bi_int_int, eq_int, ne_int, lt_int, le_int, gt_int, ge_int, Bool.or_false, Bool.or_true, Bool.false_or, Bool.true_or, Bool.and_true, Bool.true_and, Bool.not_true, Bool.not_false, Bool.and_false, Bool.false_and, Option.map_some, reduceCtorEq, and_true, true_and, and_self, f1, List.length_cons, List.length_nil, List.replicate]
  rcases hx with rfl | rfl | ⟨z, rfl, rfl⟩
  · simp only [wB, wS, wE, wA, wAnd, wOr, wAndT, wOrT, wP, wI, tru, eQ, exAt_eq, IAs.isNil, List.map_cons, List.map_nil, List.cons_append, List.nil_append, List.getElem?_cons_zero, List.getElem?_cons_succ, List.set_cons_zero, List.set_cons_succ, Bool.false_eq_true, if_false, if_true, if_pos, List.any_cons, List.any_nil, ofO_some, ofO_none, setMany, bindT, D.truth, D.isTy, D.isBox, bi_len_tup, bi_len_list, bi_len_str, bi_tuple_list, bi_tuple_tup, bi_list_list, bi_list_tup, bi_int_int, eq_int, ne_int, lt_int, le_int, gt_int, ge_int, Bool.or_false, Bool.or_true, Bool.false_or, Bool.true_or, Bool.and_true, Bool.true_and, Bool.not_true, Bool.not_false, Bool.and_false, Bool.false_and, Option.map_some, reduceCtorEq, and_true, true_and, and_self]
    refine ⟨_, rfl, by omega, by omega, hn, fun r h0 h1 => ?_⟩
    obtain ⟨v, hv, e⟩ := atI_of h0 h1
    rw [show getI (.list xs) (.int r) = some v from e]
    exact q v hv
  · simp only [wB, wS, wE, wA, wAnd, wOr, wAndT, wOrT, wP, wI, tru, eQ, exAt_eq, IAs.isNil, List.map_cons, List.map_nil, List.cons_append, List.nil_append, List.getElem?_cons_zero, List.getElem?_cons_succ, List.set_cons_zero, List.set_cons_succ, Bool.false_eq_true, if_false, if_true, if_pos, List.any_cons, List.any_nil, ofO_some, ofO_none, setMany, bindT, D.truth, D.isTy, D.isBox, bi_len_tup, bi_len_list, bi_len_str, bi_tuple_list, bi_tuple_tup, bi_list_list, bi_list_tup, bi_int_int, eq_int, ne_int, lt_int, le_int, gt_int, ge_int, Bool.or_false, Bool.or_true, Bool.false_or, Bool.true_or, Bool.and_true, Bool.true_and, Bool.not_true, Bool.not_false, Bool.and_false, Bool.false_and, Option.map_some, reduceCtorEq, and_true, true_and, and_self]
    refine ⟨_, rfl, by omega, by omega, hn, fun r h0 h1 => ?_⟩
    obtain ⟨v, hv, e⟩ := atI_of h0 h1
    rw [show getI (.tup xs) (.int r) = some v from e]
    exact q v hv
  · have e : (signs z).length = z.length := by
      unfold signs
      rw [List.length_map]
      simp [Str.length]
    rw [e] at l0 l1
    simp only [wB, wS, wE, wA, wAnd, wOr, wAndT, wOrT, wP, wI, tru, eQ, exAt_eq, IAs.isNil, List.map_cons, List.map_nil, List.cons_append, List.nil_append, List.getElem?_cons_zero, List.getElem?_cons_succ, List.set_cons_zero, List.set_cons_succ, Bool.false_eq_true, if_false, if_true, if_pos, List.any_cons, List.any_nil, ofO_some, ofO_none, setMany, bindT, D.truth, D.isTy, D.isBox, bi_len_tup, bi_len_list, bi_len_str, bi_tuple_list, bi_tuple_tup, bi_list_list, bi_list_tup, bi_int_int, eq_int, ne_int, lt_int, le_int, gt_int, ge_int, Bool.or_false, Bool.or_true, Bool.false_or, Bool.true_or, Bool.and_true, Bool.true_and, Bool.not_true, Bool.not_false, Bool.and_false, Bool.false_and, Option.map_some, reduceCtorEq, and_true, true_and, and_self]
    refine ⟨_, rfl, by omega, by omega, hn, fun r h0 h1 => ?_⟩
    have e3 : z.cps.toList.length = z.length := by simp [Str.length]
    obtain ⟨c, hc, e2⟩ := atI_of (xs := z.cps.toList) h0 (by rw [e3]; exact h1)
    have e4 : getI (.str z) (.int r) = some (.str ⟨#[c]⟩) := by
      show (L2.atI z.cps.toList r).map _ = _
      rw [e2]
      rfl
    show ofO (getI (D.str z) (D.int r)) _
    rw [e4]
    exact q _ (List.mem_map.mpr ⟨c, hc, rfl⟩)
end
/-! ### words drawn -/
/-- small letters alone -/
def lets (z : Str) : Prop := ∀ c ∈ z.cps.toList, 97 ≤ c ∧ c ≤ 122
theorem in_letters : ∀ k : Fin 26, inS ⟨#[97 + k.val]⟩ lettersS = true := by decide +kernel
theorem nameS_of {z : Str} (h0 : 0 < z.length) (h8 : z.length ≤ 8) (hl : lets z) : nameS z = true := by
  unfold nameS
  rw [decide_eq_true (show 0 < (z.length : Int) by omega), decide_eq_true (show (z.length : Int) ≤ 8 by omega), Bool.true_and, Bool.true_and, List.all_eq_true]
  intro d hd
  obtain ⟨c, hc, rfl⟩ := List.mem_map.mp hd
  obtain ⟨h1, h2⟩ := hl c hc
  have := in_letters ⟨c - 97, by omega⟩
  have e : 97 + (c - 97) = c := by omega
  simp only [e] at this
  exact this
theorem app_toList (a b : Str) : (a ++ b).cps.toList = a.cps.toList ++ b.cps.toList := by
  show (a.cps ++ b.cps).toList = _
  simp
theorem lets_app {a b : Str} (h : lets a) (g : lets b) : lets (a ++ b) := fun c hc => by
  rw [app_toList] at hc
  rcases List.mem_append.mp hc with z | z
  · exact h c z
  · exact g c z
theorem join_lets : ∀ {ys : List Str}, (∀ y ∈ ys, lets y) → lets (Str.join (Str.ofString "") ys)
  | [], _ => fun c hc => by
    have : c ∈ ([] : List Nat) := hc
    cases this
  | [x], h => h x (List.mem_cons_self ..)
  | x :: y :: r, h => by
    show lets (x ++ Str.ofString "" ++ Str.join (Str.ofString "") (y :: r))
    exact lets_app (lets_app (h x (List.mem_cons_self ..)) fun c hc => by
      have : c ∈ ([] : List Nat) := hc
      cases this) (join_lets fun w hw => h w (List.mem_cons_of_mem _ hw))
theorem join_len1 : ∀ {ys : List Str}, (∀ y ∈ ys, y.length = 1) → (Str.join (Str.ofString "") ys).length = ys.length
  | [], _ => rfl
  | [x], h => h x (List.mem_cons_self ..)
  | x :: y :: r, h => by
    show (x ++ Str.ofString "" ++ Str.join (Str.ofString "") (y :: r)).length = _
    rw [Str.length_append, Str.length_append, join_len1 fun w hw => h w (List.mem_cons_of_mem _ hw), h x (List.mem_cons_self ..)]
    show 1 + 0 + _ = _
    simp only [List.length_cons]
    omega
theorem join_word {zs : List Str} (h : ∀ z ∈ zs, z.length = 1 ∧ lets z) (l : zs.length ≤ 1000) : ∃ w, joinD "" (.list (zs.map .str)) = some (.str w) ∧ w.length = zs.length ∧ lets w := by
  have e0 : (Str.ofString "").length = 0 := rfl
  refine ⟨Txt.join (Str.ofString "") zs, ?_, ?_, ?_⟩
  · have e : joinD (Str.ofString "") (.list (zs.map .str)) = (match strsD (zs.map .str) with
      | some ys => if (ys.map (·.length)).sum + ys.length * (Str.ofString "").length ≤ 16777216 then some (.str (Txt.join (Str.ofString "") ys)) else none
      | none => none) := rfl
    rw [e, strsD_map]
    simp only
    rw [if_pos]
    rw [sum_ones fun z hz => (h z hz).1, e0]
    omega
  · rw [TL.join_eq]
    exact join_len1 fun z hz => (h z hz).1
  · rw [TL.join_eq]
    exact join_lets fun z hz => (h z hz).2
theorem letter_at {i : Nat} (h : i < 26) : L2.atI (Str.ofString "abcdefghijklmnopqrstuvwxyz").cps.toList (i : Int) = some (97 + i) := by
  have : ∀ k : Fin 26, (Str.ofString "abcdefghijklmnopqrstuvwxyz").cps.toList[k.val]? = some (97 + k.val) := by decide +kernel
  have e := this ⟨i, h⟩
  unfold L2.atI L2.ixN
  have hl : (Str.ofString "abcdefghijklmnopqrstuvwxyz").cps.toList.length = 26 := by decide +kernel
  rw [if_pos (by omega), if_pos (by rw [hl]; omega)]
  simpa using e
theorem sign_lets {d : D} (h : d ∈ signs (Str.ofString "abcdefghijklmnopqrstuvwxyz")) : ∃ y : Str, d = .str y ∧ y.length = 1 ∧ lets y := by
  obtain ⟨c, hc, rfl⟩ := List.mem_map.mp h
  refine ⟨⟨#[c]⟩, rfl, rfl, fun x hx => ?_⟩
  have hx : x ∈ [c] := hx
  rw [List.mem_singleton.mp hx]
  have : ∀ x ∈ (Str.ofString "abcdefghijklmnopqrstuvwxyz").cps.toList, 97 ≤ x ∧ x ≤ 122 := by decide +kernel
  exact this c hc
theorem cut4 (w : Str) : (cutS (w ++ Str.ofString "jjjj") none (some 4)).cps.toList = ((w ++ Str.ofString "jjjj").cps.toList).take 4 := by
  have e1 : HT.sIx (w ++ Str.ofString "jjjj").length 0 none = 0 := HT.sIx_none ..
  have e2 : HT.sIx (w ++ Str.ofString "jjjj").length (w ++ Str.ofString "jjjj").length (some 4) = min 4 (w ++ Str.ofString "jjjj").length := HT.sIx_nat _ _ 4
  have hl : (w ++ Str.ofString "jjjj").length = w.length + 4 := by
    rw [Str.length_append]
    rfl
  unfold cutS
  rw [e1, e2, List.drop_zero, Nat.sub_zero, hl, Nat.min_eq_left (by omega)]
theorem pad_ok {w : Str} (h : lets w) {i : Nat} (hi : i < 26) : lets (cutS (w ++ Str.ofString "jjjj") none (some 4) ++ repS ⟨#[97 + i]⟩ 2) ∧ (cutS (w ++ Str.ofString "jjjj") none (some 4) ++ repS ⟨#[97 + i]⟩ 2).length = 6 ∧ (cutS (w ++ Str.ofString "jjjj") none (some 4) ++ repS ⟨#[97 + i]⟩ 2).cps.toList.getLast? = some (97 + i) := by
  have er : (repS ⟨#[97 + i]⟩ 2).cps.toList = [97 + i, 97 + i] := rfl
  have ec := cut4 w
  have hj : lets (Str.ofString "jjjj") := fun c hc => by
    have : ∀ x ∈ (Str.ofString "jjjj").cps.toList, 97 ≤ x ∧ x ≤ 122 := by decide +kernel
    exact this c hc
  refine ⟨fun c hc => ?_, ?_, ?_⟩
  · rw [app_toList, ec, er] at hc
    rcases List.mem_append.mp hc with z | z
    · exact lets_app h hj c (List.mem_of_mem_take z)
    · have : c = 97 + i := by simpa using z
      omega
  · rw [Str.length_append]
    have l1 : (repS ⟨#[97 + i]⟩ 2).length = 2 := rfl
    have l2 : (cutS (w ++ Str.ofString "jjjj") none (some 4)).length = 4 := by
      have := congrArg List.length ec
      rw [List.length_take, app_toList, List.length_append] at this
      have e4 : (Str.ofString "jjjj").cps.toList.length = 4 := by decide +kernel
      rw [e4] at this
      have e5 : (cutS (w ++ Str.ofString "jjjj") none (some 4)).length = (cutS (w ++ Str.ofString "jjjj") none (some 4)).cps.toList.length := by simp [Str.length]
      omega
    omega
  · rw [app_toList, er]
    simp
/-- the place of a doubled letter at the end -/
def tailAt (i : Nat) (y : Str) : Prop := y.length ≤ 4 ∨ ∃ j, j < i ∧ y.cps.toList.getLast? = some (97 + j)
def fsNamesG : FS := fun ds n Q _ => ∃ many : Nat, ds = [.box, .int many] ∧ many ≤ 20 ∧ n + 6 * many ≤ B9 ∧ ∀ (ys : List Str) n', ys.length = many → ys.Nodup → (∀ y ∈ ys, nameS y = true) → n' ≤ n + 6 * many → Q (.list (ys.map .str)) n'
section
variable {T : Tab} {n : Nat} {Q : D → Nat → Prop} {E : QX}
theorem b_law_names {ds : List D} (f1 : T.fs "_law_take" = some fsTake) (f2 : T.fs "_law_of" = some fsOf) (h : fsNamesG ds n Q E) : wB T ir_law_names (ent0 ["_law_box_here", "_law_many", "_law_found", "_law_k", "_law_word_so", "_law_lap"] ds) n (eQ Q E) := by
  obtain ⟨many, rfl, l0, l1, q⟩ := h
  unfold ir_law_names ent0
  simp only [wB, wS, wE, wA, wAnd, wOr, wAndT, wOrT, wP, wI, tru, eQ, exAt_eq, IAs.isNil, List.map_cons, List.map_nil, List.cons_append, List.nil_append, List.getElem?_cons_zero, List.getElem?_cons_succ, List.set_cons_zero, List.set_cons_succ, Bool.false_eq_true, if_false, if_true, if_pos, List.any_cons, List.any_nil, ofO_some, ofO_none, setMany, bindT, D.truth, D.isTy, D.isBox, bi_len_tup, bi_len_list, bi_len_str, bi_tuple_list, bi_tuple_tup, bi_list_list, bi_list_tup, bi_int_int, eq_int, ne_int, lt_int, le_int, gt_int, ge_int, Bool.or_false, Bool.or_true, Bool.false_or, Bool.true_or, Bool.and_true, Bool.true_and, Bool.not_true, Bool.not_false, Bool.and_false, Bool.false_and, Option.map_some, reduceCtorEq, and_true, true_and, and_self, f1, f2, List.length_cons, List.length_nil, List.replicate]
  refine ⟨Nat.zero_le _, by omega, by omega, ?_⟩
  refine forL_rule (fun rest r n1 => ∃ (ys : List Str) (x3 x4 x5 : Ent), ys.length ≤ many ∧ rest = iotaI ys.length (many - ys.length) ∧ n1 ≤ n + 6 * ys.length ∧ ys.Nodup ∧ (∀ y ∈ ys, nameS y = true ∧ tailAt ys.length y) ∧ r = [.sh .box, .sh (.int many), .ow (.list (ys.map .str)), x3, x4, x5]) ?_ ?_ _ _ _ ⟨[], .no, .no, .no, Nat.zero_le _, by simp, by omega, List.nodup_nil, (fun y hy => by cases hy), rfl⟩
  · rintro d rest r n1 ⟨ys, x3, x4, x5, hl, er, hn, hnd, hys, rfl⟩ k hk
    obtain ⟨j, ej⟩ : ∃ j, many - ys.length = j + 1 := by
      cases h : many - ys.length with
      | zero => rw [h] at er; cases er
      | succ j => exact ⟨j, rfl⟩
    rw [ej, iotaI] at er
    obtain ⟨rfl, rfl⟩ := List.cons.inj er
    simp only [wB, wS, wE, wA, wAnd, wOr, wAndT, wOrT, wP, wI, tru, eQ, exAt_eq, IAs.isNil, List.map_cons, List.map_nil, List.cons_append, List.nil_append, List.getElem?_cons_zero, List.getElem?_cons_succ, List.set_cons_zero, List.set_cons_succ, Bool.false_eq_true, if_false, if_true, if_pos, List.any_cons, List.any_nil, ofO_some, ofO_none, setMany, bindT, D.truth, D.isTy, D.isBox, bi_len_tup, bi_len_list, bi_len_str, bi_tuple_list, bi_tuple_tup, bi_list_list, bi_list_tup, bi_int_int, eq_int, ne_int, lt_int, le_int, gt_int, ge_int, Bool.or_false, Bool.or_true, Bool.false_or, Bool.true_or, Bool.and_true, Bool.true_and, Bool.not_true, Bool.not_false, Bool.and_false, Bool.false_and, Option.map_some, reduceCtorEq, and_true, true_and, and_self]
    refine ⟨4, rfl, by decide, by decide, by omega, fun r h0 h1 => ?_⟩
    have eb : binop .add (.int 1) (.int r) = some (.int (1 + r)) := rfl
    simp only [wB, wS, wE, wA, wAnd, wOr, wAndT, wOrT, wP, wI, tru, eQ, exAt_eq, IAs.isNil, List.map_cons, List.map_nil, List.cons_append, List.nil_append, List.getElem?_cons_zero, List.getElem?_cons_succ, List.set_cons_zero, List.set_cons_succ, Bool.false_eq_true, if_false, if_true, if_pos, List.any_cons, List.any_nil, ofO_some, ofO_none, setMany, bindT, D.truth, D.isTy, D.isBox, bi_len_tup, bi_len_list, bi_len_str, bi_tuple_list, bi_tuple_tup, bi_list_list, bi_list_tup, bi_int_int, eq_int, ne_int, lt_int, le_int, gt_int, ge_int, Bool.or_false, Bool.or_true, Bool.false_or, Bool.true_or, Bool.and_true, Bool.true_and, Bool.not_true, Bool.not_false, Bool.and_false, Bool.false_and, Option.map_some, reduceCtorEq, and_true, true_and, and_self, eb]
    refine ⟨by omega, by omega, ?_⟩
    refine compL_rule (fun rest acc n2 => ∃ zs : List Str, acc = zs.map .str ∧ (∀ z ∈ zs, z.length = 1 ∧ lets z) ∧ zs.length + rest.length ≤ 4 ∧ 1 ≤ zs.length + rest.length ∧ n2 ≤ n1 + 1 + zs.length) ?_ ?_ _ _ _ ⟨[], rfl, (fun z hz => by cases hz), ?_, ?_, by simp⟩
    · rintro d rest acc n2 ⟨zs, rfl, hz, hzl, hzp, hn2⟩ k2 hk2
      rw [List.length_cons] at hzl hzp
      refine ⟨_, _, rfl, .inr (.inr ⟨_, rfl, rfl⟩), by decide, by decide, by omega, fun d hd => ?_⟩
      obtain ⟨y, rfl, hy1, hy2⟩ := sign_lets hd
      refine hk2 _ _ ⟨zs ++ [y], by simp, fun z hz' => ?_, ?_, ?_, ?_⟩
      · rcases List.mem_append.mp hz' with z1 | z1
        · exact hz z z1
        · rw [List.mem_singleton.mp z1]; exact ⟨hy1, hy2⟩
      all_goals (rw [List.length_append, List.length_singleton]; omega)
    · rintro acc n2 ⟨zs, rfl, hz, hzl, hzp, hn2⟩
      simp only [List.length_nil, Nat.add_zero] at hzl hzp
      obtain ⟨w, ew, lw, tw⟩ := join_word hz (by omega)
      simp only [wB, wS, wE, wA, wAnd, wOr, wAndT, wOrT, wP, wI, tru, eQ, exAt_eq, IAs.isNil, List.map_cons, List.map_nil, List.cons_append, List.nil_append, List.getElem?_cons_zero, List.getElem?_cons_succ, List.set_cons_zero, List.set_cons_succ, Bool.false_eq_true, if_false, if_true, if_pos, List.any_cons, List.any_nil, ofO_some, ofO_none, setMany, bindT, D.truth, D.isTy, D.isBox, bi_len_tup, bi_len_list, bi_len_str, bi_tuple_list, bi_tuple_tup, bi_list_list, bi_list_tup, bi_int_int, eq_int, ne_int, lt_int, le_int, gt_int, ge_int, Bool.or_false, Bool.or_true, Bool.false_or, Bool.true_or, Bool.and_true, Bool.true_and, Bool.not_true, Bool.not_false, Bool.and_false, Bool.false_and, Option.map_some, reduceCtorEq, and_true, true_and, and_self, ew, owL]
      refine ⟨inOk_strs (x := .str w) rfl ys, ?_⟩
      have hmany : ys.length < sizeLine := by rw [sizeLine_eq]; omega
      have nxt : ∀ (w' : Str) (x5' : Ent), w' ∉ ys → nameS w' = true → tailAt (ys.length + 1) w' → k [.sh .box, .sh (.int many), .ow (.list (ys.map .str ++ [.str w'])), .sh (.int ys.length), .sh (.str w'), x5'] n2 := fun w' x5' hw1 hw2 hw3 =>
        hk _ _ ⟨ys ++ [w'], .sh (.int ys.length), .sh (.str w'), x5', by rw [List.length_append, List.length_singleton]; omega, by
          rw [List.length_append, List.length_singleton]
          have e1 : many - (ys.length + 1) = j := by omega
          rw [e1]
          congr 1, by
          rw [List.length_append, List.length_singleton]
          omega, by
          rw [List.nodup_append]
          exact ⟨hnd, by simp, fun a ha b hb => by rw [List.mem_singleton.mp hb]; exact fun e => hw1 (e ▸ ha)⟩, fun y hy => by
          rw [List.length_append, List.length_singleton]
          rcases List.mem_append.mp hy with z | z
          · obtain ⟨y1, y2⟩ := hys y z
            exact ⟨y1, y2.imp id fun ⟨j, hj, e⟩ => ⟨j, by omega, e⟩⟩
          · rw [List.mem_singleton.mp z]
            exact ⟨hw2, hw3⟩, by simp⟩
      have hin : ((ys.map D.str).any fun z => z.eqb (.str w)) = ys.contains w := any_strs (.str w) ys
      rw [hin]
      cases hc : ys.contains w with
      | true =>
        simp only [wB, wS, wE, wA, wAnd, wOr, wAndT, wOrT, wP, wI, tru, eQ, exAt_eq, IAs.isNil, List.map_cons, List.map_nil, List.cons_append, List.nil_append, List.getElem?_cons_zero, List.getElem?_cons_succ, List.set_cons_zero, List.set_cons_succ, Bool.false_eq_true, if_false, if_true, if_pos, List.any_cons, List.any_nil, ofO_some, ofO_none, setMany, bindT, D.truth, D.isTy, D.isBox, bi_len_tup, bi_len_list, bi_len_str, bi_tuple_list, bi_tuple_tup, bi_list_list, bi_list_tup, bi_int_int, eq_int, ne_int, lt_int, le_int, gt_int, ge_int, Bool.or_false, Bool.or_true, Bool.false_or, Bool.true_or, Bool.and_true, Bool.true_and, Bool.not_true, Bool.not_false, Bool.and_false, Bool.false_and, Option.map_some, reduceCtorEq, and_true, true_and, and_self]
        have l4 : w.length + (Str.ofString "jjjj").length ≤ sizeLine := by
          have : (Str.ofString "jjjj").length = 4 := rfl
          rw [sizeLine_eq]
          omega
        have e5 : slcD (.str (w ++ Str.ofString "jjjj")) none (some 4) = some (.str (cutS (w ++ Str.ofString "jjjj") none (some 4))) := rfl
        have hi : ys.length < 26 := by omega
        have e7 : getI (.str (Str.ofString "abcdefghijklmnopqrstuvwxyz")) (.int (ys.length : Int)) = some (.str ⟨#[97 + ys.length]⟩) := by
          show (L2.atI (Str.ofString "abcdefghijklmnopqrstuvwxyz").cps.toList _).map _ = _
          rw [letter_at hi]
          rfl
        obtain ⟨e8, e9⟩ := twice_sign (97 + ys.length)
        obtain ⟨p1, p2, p3⟩ := pad_ok tw hi
        have l5 : (cutS (w ++ Str.ofString "jjjj") none (some 4)).length + (repS ⟨#[97 + ys.length]⟩ 2).length ≤ sizeLine := by
          rw [← Str.length_append, p2, sizeLine_eq]
          decide
        simp only [wB, wS, wE, wA, wAnd, wOr, wAndT, wOrT, wP, wI, tru, eQ, exAt_eq, IAs.isNil, List.map_cons, List.map_nil, List.cons_append, List.nil_append, List.getElem?_cons_zero, List.getElem?_cons_succ, List.set_cons_zero, List.set_cons_succ, Bool.false_eq_true, if_false, if_true, if_pos, List.any_cons, List.any_nil, ofO_some, ofO_none, setMany, bindT, D.truth, D.isTy, D.isBox, bi_len_tup, bi_len_list, bi_len_str, bi_tuple_list, bi_tuple_tup, bi_list_list, bi_list_tup, bi_int_int, eq_int, ne_int, lt_int, le_int, gt_int, ge_int, Bool.or_false, Bool.or_true, Bool.false_or, Bool.true_or, Bool.and_true, Bool.true_and, Bool.not_true, Bool.not_false, Bool.and_false, Bool.false_and, Option.map_some, reduceCtorEq, and_true, true_and, and_self, add_str l4, e5, e7, e8, add_str l5, owD]
        refine ⟨by rw [List.length_map]; exact hmany, nxt _ _ (fun hm => ?_) (nameS_of (by omega) (by omega) p1) (.inr ⟨ys.length, by omega, p3⟩)⟩
        obtain ⟨_, y2⟩ := hys _ hm
        rcases y2 with y2 | ⟨j', hj, e⟩
        · omega
        · rw [p3] at e
          have := Option.some.inj e
          omega
      | false =>
        simp only [wB, wS, wE, wA, wAnd, wOr, wAndT, wOrT, wP, wI, tru, eQ, exAt_eq, IAs.isNil, List.map_cons, List.map_nil, List.cons_append, List.nil_append, List.getElem?_cons_zero, List.getElem?_cons_succ, List.set_cons_zero, List.set_cons_succ, Bool.false_eq_true, if_false, if_true, if_pos, List.any_cons, List.any_nil, ofO_some, ofO_none, setMany, bindT, D.truth, D.isTy, D.isBox, bi_len_tup, bi_len_list, bi_len_str, bi_tuple_list, bi_tuple_tup, bi_list_list, bi_list_tup, bi_int_int, eq_int, ne_int, lt_int, le_int, gt_int, ge_int, Bool.or_false, Bool.or_true, Bool.false_or, Bool.true_or, Bool.and_true, Bool.true_and, Bool.not_true, Bool.not_false, Bool.and_false, Bool.false_and, Option.map_some, reduceCtorEq, and_true, true_and, and_self, owD]
        refine ⟨by rw [List.length_map]; exact hmany, nxt _ _ (fun hm => ?_) (nameS_of (by omega) (by omega) tw) (.inl (by omega))⟩
        rw [List.contains_iff_mem.mpr hm] at hc
        cases hc
    · rw [iota_len]
      simp
      omega
    · rw [iota_len]
      simp
      omega
  · rintro r n1 ⟨ys, x3, x4, x5, hl, er, hn, hnd, hys, rfl⟩
    have : many - ys.length = 0 := by
      cases h : many - ys.length with
      | zero => rfl
      | succ j => rw [h, iotaI] at er; cases er
    simp only [wB, wS, wE, wA, wAnd, wOr, wAndT, wOrT, wP, wI, tru, eQ, exAt_eq, IAs.isNil, List.map_cons, List.map_nil, List.cons_append, List.nil_append, List.getElem?_cons_zero, List.getElem?_cons_succ, List.set_cons_zero, List.set_cons_succ, Bool.false_eq_true, if_false, if_true, if_pos, List.any_cons, List.any_nil, ofO_some, ofO_none, setMany, bindT, D.truth, D.isTy, D.isBox, bi_len_tup, bi_len_list, bi_len_str, bi_tuple_list, bi_tuple_tup, bi_list_list, bi_list_tup, bi_int_int, eq_int, ne_int, lt_int, le_int, gt_int, ge_int, Bool.or_false, Bool.or_true, Bool.false_or, Bool.true_or, Bool.and_true, Bool.true_and, Bool.not_true, Bool.not_false, Bool.and_false, Bool.false_and, Option.map_some, reduceCtorEq, and_true, true_and, and_self, freeze]
    exact q ys n1 (by omega) hnd (fun y hy => (hys y hy).1) (by omega)
end
end Dl

set_option Elab.async false
set_option linter.all false
set_option maxRecDepth 100000
set_option maxHeartbeats 4000000
/-! KINDs drawn. -/
namespace Dl
open PySem PySem.Spec PyProof.Rows L2
theorem le_size {a : Nat} (h : a ≤ 10000) : a ≤ sizeLine := by
  rw [sizeLine_eq]
  omega
theorem eqb_nil (ts : List D) : (D.list ts).eqb (.list []) = ts.isEmpty := by
  rw [eqb_list]
  cases ts with
  | nil => rw [eqvAll_nil]; rfl
  | cons t ts => rw [D.pys, D.pys, PyData.eqvAll]; rfl
theorem tms_flat (ts : List Tm) : (D.list (ts.map Tm.d)).flat 64 = true := by
  rw [D.flat]
  exact flats_of fun x hx => by
    obtain ⟨t, _, rfl⟩ := List.mem_map.mp hx
    exact t.flat 63
theorem nil_flat : (D.list []).flat 64 = true := by rw [D.flat, D.flats]
theorem ne_nilT (ts : List Tm) : cmpop .ne (.list (ts.map Tm.d)) (.list []) = some (!ts.isEmpty) := by
  rw [ne_flat (tms_flat ts) nil_flat, eqb_nil, List.isEmpty_map]
theorem eq_nilT (ts : List Tm) : cmpop .eq (.list (ts.map Tm.d)) (.list []) = some ts.isEmpty := by
  rw [eq_flat (tms_flat ts) nil_flat, eqb_nil, List.isEmpty_map]
theorem add_list {a c : List D} (h : a.length + c.length ≤ sizeLine) : binop .add (.list a) (.list c) = some (.list (a ++ c)) := by
  show (if a.length + c.length ≤ sizeLine then some (D.list (a ++ c)) else none) = _
  rw [if_pos h]
theorem add_tup {a c : List D} (h : a.length + c.length ≤ sizeLine) : binop .add (.tup a) (.tup c) = some (.tup (a ++ c)) := by
  show (if a.length + c.length ≤ sizeLine then some (D.tup (a ++ c)) else none) = _
  rw [if_pos h]
/-- what is drawn from -/
structure GOk (fs ns : List Str) (ts su : List Tm) (ws : List Str) : Prop where
  fpos : 1 ≤ fs.length
  flen : fs.length ≤ 2
  wpos : 0 < ws.length
  wlen : ws.length ≤ 20
  wn : ∀ w ∈ ws, nameS w = true
  tok : ∀ t ∈ ts, t.ok ns
  sin : ∀ t ∈ su, t ∈ ts
def fsSayG : FS := fun ds n Q _ => ∃ (fs ns : List Str) (ts su : List Tm) (ws : List Str), ds = [.box, .tup (fs.map .str), .list (ts.map Tm.d), .list (ws.map .str)] ∧ GOk fs ns ts su ws ∧ ts.length ≤ 30 ∧ n + 30 ≤ B9 ∧
  ∀ cs w n', (∀ c ∈ cs, Ch.ok fs ns c) → smallC cs → nameS w = true → n' ≤ n + 30 → Q (Bd.say cs w).d n'
def fsBodyG (t : Nat) : FS := fun ds n Q _ => ∃ (fs ns : List Str) (ts su : List Tm) (a b : Nat) (ws : List Str), ds = [.box, .tup (fs.map .str), .list (ts.map Tm.d), .list (su.map Tm.d), .int a, .int b, .list (ws.map .str)] ∧ GOk fs ns ts su ws ∧
  ts.length + t ≤ 30 ∧ su.length + t ≤ 30 ∧ a + b ≤ t ∧ b ≤ 1 ∧ (b = 1 → Str.ofString "x" ∉ ns) ∧ n + 40 * 3 ^ t ≤ B9 ∧ ∀ (bd : Bd) n', bd.ok fs ns su → bd.dep ≤ a + b → bd.saysAll smallC → n' ≤ n + 40 * 3 ^ t → Q bd.d n'
def fsKindG : FS := fun ds n Q _ => ∃ (fs : List Str) (nm : Str) (ws : List Str) (cs : List Int) (b : Nat), ds = [.box, .tup (fs.map .str), .str nm, .list (ws.map .str), .int b, .int 3, .list (cs.map .int)] ∧ b ≤ 1 ∧ 1 ≤ fs.length ∧ fs.length ≤ 2 ∧ 0 < ws.length ∧ ws.length ≤ 20 ∧ (∀ w ∈ ws, nameS w = true) ∧ nameS nm = true ∧ cs.length ≤ 10 ∧ n + 5000 ≤ B9 ∧
  ∀ (k : Kd) n', k.ok fs → k.nm = nm → n' ≤ n + 5000 → Q k.d n'
def ISs.tl : ISs → ISs
  | .cons _ r => r
  | .nil => .nil
def ISs.hd : ISs → IS
  | .cons s _ => s
  | .nil => .bad
section
variable {T : Tab} {n : Nat} {Q : D → Nat → Prop} {E : QX}
theorem of_l {ts : List D} {n1 : Nat} {R : D → Nat → Prop} (h0 : 0 < ts.length) (hl : ts.length ≤ 100) (hn : n1 < B9) (q : ∀ v ∈ ts, R v (n1 + 1)) : fsOf [.box, .list ts] n1 R E :=
  ⟨_, ts, rfl, .inl rfl, h0, by omega, hn, q⟩
theorem of_tm {ts : List Tm} {n1 : Nat} {R : D → Nat → Prop} (h0 : 0 < ts.length) (hl : ts.length ≤ 100) (hn : n1 < B9) (q : ∀ v ∈ ts, R v.d (n1 + 1)) : fsOf [.box, .list (ts.map Tm.d)] n1 R E :=
  ⟨_, ts.map Tm.d, rfl, .inl rfl, by rw [List.length_map]; exact h0, by rw [List.length_map]; omega, hn, fun d hd => by
    obtain ⟨z, hz, rfl⟩ := List.mem_map.mp hd
    exact q z hz⟩
theorem of_tm0 {ts : List Tm} {ns : List Str} {n1 : Nat} {R : D → Nat → Prop} (hk : ∀ t ∈ ts, t.ok ns) (hl : ts.length ≤ 100) (hn : n1 < B9) (q : ∀ v : Tm, v.ok ns → R v.d (n1 + 1)) : fsOf [.box, .list (ts.map Tm.d ++ [.int 0])] n1 R E :=
  ⟨_, ts.map Tm.d ++ [.int 0], rfl, .inl rfl, by simp, by simp; omega, hn, fun d hd => by
    rcases List.mem_append.mp hd with z | z
    · obtain ⟨v, hv, rfl⟩ := List.mem_map.mp z
      exact q v (hk v hv)
    · rw [List.mem_singleton.mp z]
      exact q (.n 0) trivial⟩
theorem of_ft {fs : List Str} {n1 : Nat} {R : D → Nat → Prop} (h0 : 1 ≤ fs.length) (hl : fs.length ≤ 2) (hn : n1 < B9) (q : ∀ z ∈ fs, R (.str z) (n1 + 1)) : fsOf [.box, .tup (fs.map .str)] n1 R E :=
  ⟨_, fs.map .str, rfl, .inr (.inl rfl), by rw [List.length_map]; exact h0, by rw [List.length_map]; omega, hn, fun d hd => by
    obtain ⟨z, hz, rfl⟩ := List.mem_map.mp hd
    exact q z hz⟩
theorem of_ws {ws : List Str} {n1 : Nat} {R : D → Nat → Prop} (h0 : 0 < ws.length) (hl : ws.length ≤ 100) (hn : n1 < B9) (q : ∀ z ∈ ws, R (.str z) (n1 + 1)) : fsOf [.box, .list (ws.map .str)] n1 R E :=
  ⟨_, ws.map .str, rfl, .inl rfl, by rw [List.length_map]; exact h0, by rw [List.length_map]; omega, hn, fun d hd => by
    obtain ⟨z, hz, rfl⟩ := List.mem_map.mp hd
    exact q z hz⟩
theorem b_law_say {ds : List D} (f1 : T.fs "_law_take" = some fsTake) (f2 : T.fs "_law_of" = some fsOf) (h : fsSayG ds n Q E) : wB T ir_law_say (ent0 ["_law_box_here", "_law_fields_so", "_law_terms_so", "_law_words_so", "_law_changes_so", "_law_lap", "_law_key_so", "_law_sort_so", "_law_own"] ds) n (eQ Q E) := by
  obtain ⟨fs, ns, ts, su, ws, rfl, g, l1, l4, q⟩ := h
  have hf1 := g.fpos
  have hf2 := g.flen
  have hw := g.wlen
  unfold ir_law_say ent0
  simp only [wB, wS, wE, wA, wAnd, wOr, wAndT, wOrT, wP, wI, tru, eQ, exAt_eq, IAs.isNil, List.map_cons, List.map_nil, List.cons_append, List.nil_append, List.getElem?_cons_zero, List.getElem?_cons_succ, List.set_cons_zero, List.set_cons_succ, Bool.false_eq_true, if_false, if_true, if_pos, List.any_cons, List.any_nil, ofO_some, ofO_none, setMany, bindT, D.truth, D.isTy, D.isBox, bi_len_tup, bi_len_list, bi_len_str, bi_tuple_list, bi_tuple_tup, bi_list_list, bi_list_tup, bi_int_int, eq_int, ne_int, lt_int, le_int, gt_int, ge_int, Bool.or_false, Bool.or_true, Bool.false_or, Bool.true_or, Bool.and_true, Bool.true_and, Bool.not_true, Bool.not_false, Bool.and_false, Bool.false_and, Option.map_some, reduceCtorEq, and_true, true_and, and_self, f1, f2, List.length_cons, List.length_nil, List.replicate, ne_nilT]
  refine ⟨Nat.zero_le _, Nat.zero_le _, ?_⟩
  have t0 : (ts.map Tm.d).length + ([D.int 0] : List D).length ≤ sizeLine := le_size (by rw [List.length_singleton, List.length_map]; omega)
  have fin : ∀ (cs : List Ch) (n1 : Nat), cs.length ≤ 2 → (∀ c ∈ cs, Ch.ok fs ns c ∧ c.bits.length ≤ 100) → n1 ≤ n + 20 → fsOf [.box, .list (ws.map .str)] n1 (fun x n1 => 0 + 1 + 1 + 1 ≤ sizeLine ∧ Q (.tup [.str "say", .tup (cs.map Ch.d), x]) n1) (fun x n => E x n) := fun cs n1 h1 h2 h3 =>
    of_ws g.wpos (by omega) (by omega) fun z hz => ⟨le_size (by omega), q cs z _ (fun c hc => (h2 c hc).1) ⟨by omega, fun c hc => (h2 c hc).2⟩ (g.wn z hz) (by omega)⟩
  cases hts : ts.isEmpty with
  | true =>
    simp only [wB, wS, wE, wA, wAnd, wOr, wAndT, wOrT, wP, wI, tru, eQ, exAt_eq, IAs.isNil, List.map_cons, List.map_nil, List.cons_append, List.nil_append, List.getElem?_cons_zero, List.getElem?_cons_succ, List.set_cons_zero, List.set_cons_succ, Bool.false_eq_true, if_false, if_true, if_pos, List.any_cons, List.any_nil, ofO_some, ofO_none, setMany, bindT, D.truth, D.isTy, D.isBox, bi_len_tup, bi_len_list, bi_len_str, bi_tuple_list, bi_tuple_tup, bi_list_list, bi_list_tup, bi_int_int, eq_int, ne_int, lt_int, le_int, gt_int, ge_int, Bool.or_false, Bool.or_true, Bool.false_or, Bool.true_or, Bool.and_true, Bool.true_and, Bool.not_true, Bool.not_false, Bool.and_false, Bool.false_and, Option.map_some, reduceCtorEq, and_true, true_and, and_self]
    refine ⟨by decide, by decide, ?_⟩
    show forL _ [] _ _ _
    simp only [forL, wB, wS, wE, wA, wAnd, wOr, wAndT, wOrT, wP, wI, tru, eQ, exAt_eq, IAs.isNil, List.map_cons, List.map_nil, List.cons_append, List.nil_append, List.getElem?_cons_zero, List.getElem?_cons_succ, List.set_cons_zero, List.set_cons_succ, Bool.false_eq_true, if_false, if_true, if_pos, List.any_cons, List.any_nil, ofO_some, ofO_none, setMany, bindT, D.truth, D.isTy, D.isBox, bi_len_tup, bi_len_list, bi_len_str, bi_tuple_list, bi_tuple_tup, bi_list_list, bi_list_tup, bi_int_int, eq_int, ne_int, lt_int, le_int, gt_int, ge_int, Bool.or_false, Bool.or_true, Bool.false_or, Bool.true_or, Bool.and_true, Bool.true_and, Bool.not_true, Bool.not_false, Bool.and_false, Bool.false_and, Option.map_some, reduceCtorEq, and_true, true_and, and_self, freeze]
    exact fin [] n (by simp) (fun c hc => by cases hc) (by omega)
  | false =>
    simp only [wB, wS, wE, wA, wAnd, wOr, wAndT, wOrT, wP, wI, tru, eQ, exAt_eq, IAs.isNil, List.map_cons, List.map_nil, List.cons_append, List.nil_append, List.getElem?_cons_zero, List.getElem?_cons_succ, List.set_cons_zero, List.set_cons_succ, Bool.false_eq_true, if_false, if_true, if_pos, List.any_cons, List.any_nil, ofO_some, ofO_none, setMany, bindT, D.truth, D.isTy, D.isBox, bi_len_tup, bi_len_list, bi_len_str, bi_tuple_list, bi_tuple_tup, bi_list_list, bi_list_tup, bi_int_int, eq_int, ne_int, lt_int, le_int, gt_int, ge_int, Bool.or_false, Bool.or_true, Bool.false_or, Bool.true_or, Bool.and_true, Bool.true_and, Bool.not_true, Bool.not_false, Bool.and_false, Bool.false_and, Option.map_some, reduceCtorEq, and_true, true_and, and_self]
    have hpos : 0 < ts.length := by
      cases ts with
      | nil => cases hts
      | cons _ _ => simp
    refine ⟨le_size (by omega), of_l (by simp) (by simp) (by omega) fun d hd => ?_⟩
    obtain ⟨c, rfl, hc⟩ : ∃ c : Nat, d = .int c ∧ c ≤ 2 := by
      simp only [List.mem_cons, List.not_mem_nil, or_false] at hd
      rcases hd with rfl | rfl | rfl | rfl
      · exact ⟨0, rfl, by omega⟩
      · exact ⟨1, rfl, by omega⟩
      · exact ⟨1, rfl, by omega⟩
      · exact ⟨2, rfl, by omega⟩
    refine ⟨by omega, by omega, ?_⟩
    refine forL_rule (fun rest r n1 => ∃ (cs : List Ch) (x5 x6 x7 x8 : Ent), cs.length + rest.length ≤ 2 ∧ (∀ c ∈ cs, Ch.ok fs ns c ∧ c.bits.length ≤ 100) ∧ n1 ≤ n + 1 + 6 * cs.length ∧ r = [.sh .box, .sh (.tup (fs.map .str)), .sh (.list (ts.map Tm.d)), .sh (.list (ws.map .str)), .ow (.list (cs.map Ch.d)), x5, x6, x7, x8]) ?_ ?_ _ _ _ ⟨[], .no, .no, .no, .no, by rw [iota_len]; simp; omega, (fun c hc => by cases hc), by simp, rfl⟩
    · rintro d rest r n1 ⟨cs, x5, x6, x7, x8, hl, hcs, hn, rfl⟩ k hk
      rw [List.length_cons] at hl
      simp only [wB, wS, wE, wA, wAnd, wOr, wAndT, wOrT, wP, wI, tru, eQ, exAt_eq, IAs.isNil, List.map_cons, List.map_nil, List.cons_append, List.nil_append, List.getElem?_cons_zero, List.getElem?_cons_succ, List.set_cons_zero, List.set_cons_succ, Bool.false_eq_true, if_false, if_true, if_pos, List.any_cons, List.any_nil, ofO_some, ofO_none, setMany, bindT, D.truth, D.isTy, D.isBox, bi_len_tup, bi_len_list, bi_len_str, bi_tuple_list, bi_tuple_tup, bi_list_list, bi_list_tup, bi_int_int, eq_int, ne_int, lt_int, le_int, gt_int, ge_int, Bool.or_false, Bool.or_true, Bool.false_or, Bool.true_or, Bool.and_true, Bool.true_and, Bool.not_true, Bool.not_false, Bool.and_false, Bool.false_and, Option.map_some, reduceCtorEq, and_true, true_and, and_self]
      refine of_tm hpos (by omega) (by omega) fun key hkey => ?_
      have akey := g.tok key hkey
      refine ⟨4, rfl, by decide, by decide, by omega, fun r h0 h1 => ?_⟩
      have nxt : ∀ (ch : Ch) (n2 : Nat) (x8' : Ent), Ch.ok fs ns ch → ch.bits.length ≤ 100 → n2 ≤ n1 + 6 → k [.sh .box, .sh (.tup (fs.map .str)), .sh (.list (ts.map Tm.d)), .sh (.list (ws.map .str)), .ow (.list (cs.map Ch.d ++ [ch.d])), .sh d, .sh key.d, .sh (.int r), x8'] n2 := fun ch n2 x8' hch hb hn2 =>
        hk _ _ ⟨cs ++ [ch], .sh d, .sh key.d, .sh (.int r), x8', by rw [List.length_append, List.length_singleton]; omega, fun c hc => by
          rcases List.mem_append.mp hc with z | z
          · exact hcs c z
          · rw [List.mem_singleton.mp z]; exact ⟨hch, hb⟩, by
          rw [List.length_append, List.length_singleton]
          omega, by simp⟩
      simp only [wB, wS, wE, wA, wAnd, wOr, wAndT, wOrT, wP, wI, tru, eQ, exAt_eq, IAs.isNil, List.map_cons, List.map_nil, List.cons_append, List.nil_append, List.getElem?_cons_zero, List.getElem?_cons_succ, List.set_cons_zero, List.set_cons_succ, Bool.false_eq_true, if_false, if_true, if_pos, List.any_cons, List.any_nil, ofO_some, ofO_none, setMany, bindT, D.truth, D.isTy, D.isBox, bi_len_tup, bi_len_list, bi_len_str, bi_tuple_list, bi_tuple_tup, bi_list_list, bi_list_tup, bi_int_int, eq_int, ne_int, lt_int, le_int, gt_int, ge_int, Bool.or_false, Bool.or_true, Bool.false_or, Bool.true_or, Bool.and_true, Bool.true_and, Bool.not_true, Bool.not_false, Bool.and_false, Bool.false_and, Option.map_some, reduceCtorEq, and_true, true_and, and_self, owD, itemsD]
      have hcl : (cs.map Ch.d).length < sizeLine := by
        have := sizeLine_eq
        rw [List.length_map]
        omega
      split
      · refine compL_draw (e := D.str) (fun rest acc n2 => ∃ vs : List Tm, acc = vs.map Tm.d ∧ (∀ v ∈ vs, v.ok ns) ∧ vs.length + rest.length = fs.length ∧ n2 ≤ n1 + 2 + vs.length) ?_ ?_ fs _ _ ⟨[], rfl, (fun d hd => by cases hd), by simp, by simp⟩
        · rintro d2 rest2 acc n2 ⟨vs, rfl, h1, h2, h3⟩ k2 hk2
          rw [List.length_cons] at h2
          simp only [wB, wS, wE, wA, wAnd, wOr, wAndT, wOrT, wP, wI, tru, eQ, exAt_eq, IAs.isNil, List.map_cons, List.map_nil, List.cons_append, List.nil_append, List.getElem?_cons_zero, List.getElem?_cons_succ, List.set_cons_zero, List.set_cons_succ, Bool.false_eq_true, if_false, if_true, if_pos, List.any_cons, List.any_nil, ofO_some, ofO_none, setMany, bindT, D.truth, D.isTy, D.isBox, bi_len_tup, bi_len_list, bi_len_str, bi_tuple_list, bi_tuple_tup, bi_list_list, bi_list_tup, bi_int_int, eq_int, ne_int, lt_int, le_int, gt_int, ge_int, Bool.or_false, Bool.or_true, Bool.false_or, Bool.true_or, Bool.and_true, Bool.true_and, Bool.not_true, Bool.not_false, Bool.and_false, Bool.false_and, Option.map_some, reduceCtorEq, and_true, true_and, and_self, add_list t0]
          refine ⟨le_size (by omega), of_tm0 g.tok (by omega) (by omega) fun v hv => hk2 _ _ ⟨vs ++ [v], by simp, fun x hx => ?_, ?_, ?_⟩⟩
          · rcases List.mem_append.mp hx with z | z
            · exact h1 x z
            · rw [List.mem_singleton.mp z]; exact hv
          · rw [List.length_append, List.length_singleton]
            omega
          · rw [List.length_append, List.length_singleton]
            omega
        · rintro acc n2 ⟨vs, rfl, h1, h2, h3⟩
          rw [List.length_nil] at h2
          refine ⟨le_size (by omega), hcl, nxt (.mk key vs) _ _ ⟨akey, by omega, h1⟩ (by simp only [Ch.bits, List.length_cons]; omega) (by omega)⟩
      · split
        · simp only [wB, wS, wE, wA, wAnd, wOr, wAndT, wOrT, wP, wI, tru, eQ, exAt_eq, IAs.isNil, List.map_cons, List.map_nil, List.cons_append, List.nil_append, List.getElem?_cons_zero, List.getElem?_cons_succ, List.set_cons_zero, List.set_cons_succ, Bool.false_eq_true, if_false, if_true, if_pos, List.any_cons, List.any_nil, ofO_some, ofO_none, setMany, bindT, D.truth, D.isTy, D.isBox, bi_len_tup, bi_len_list, bi_len_str, bi_tuple_list, bi_tuple_tup, bi_list_list, bi_list_tup, bi_int_int, eq_int, ne_int, lt_int, le_int, gt_int, ge_int, Bool.or_false, Bool.or_true, Bool.false_or, Bool.true_or, Bool.and_true, Bool.true_and, Bool.not_true, Bool.not_false, Bool.and_false, Bool.false_and, Option.map_some, reduceCtorEq, and_true, true_and, and_self, add_list t0]
          refine of_ft hf1 hf2 (by omega) fun z hz => ⟨le_size (by omega), of_tm0 g.tok (by omega) (by omega) fun v hv => ⟨le_size (by omega), hcl, nxt (.st key z v) _ _ ⟨akey, hz, hv⟩ (by simp [Ch.bits]) (by omega)⟩⟩
        · refine ⟨le_size (by omega), hcl, nxt (.dr key) _ _ akey (by simp [Ch.bits]) (by omega)⟩
    · rintro r n1 ⟨cs, x5, x6, x7, x8, hl, hcs, hn, rfl⟩
      rw [List.length_nil] at hl
      simp only [wB, wS, wE, wA, wAnd, wOr, wAndT, wOrT, wP, wI, tru, eQ, exAt_eq, IAs.isNil, List.map_cons, List.map_nil, List.cons_append, List.nil_append, List.getElem?_cons_zero, List.getElem?_cons_succ, List.set_cons_zero, List.set_cons_succ, Bool.false_eq_true, if_false, if_true, if_pos, List.any_cons, List.any_nil, ofO_some, ofO_none, setMany, bindT, D.truth, D.isTy, D.isBox, bi_len_tup, bi_len_list, bi_len_str, bi_tuple_list, bi_tuple_tup, bi_list_list, bi_list_tup, bi_int_int, eq_int, ne_int, lt_int, le_int, gt_int, ge_int, Bool.or_false, Bool.or_true, Bool.false_or, Bool.true_or, Bool.and_true, Bool.true_and, Bool.not_true, Bool.not_false, Bool.and_false, Bool.false_and, Option.map_some, reduceCtorEq, and_true, true_and, and_self, freeze]
      exact fin cs n1 (by omega) hcs (by omega)
theorem sub_one {a : Nat} (h : 1 ≤ a) : binop .sub (.int (a : Nat)) (.int 1) = some (.int ((a - 1 : Nat) : Int)) := by
  show some (D.int ((a : Int) - 1)) = _
  congr 2
  omega
theorem sub_nat {a b : Nat} (h : b ≤ a) : binop .sub (.int (a : Nat)) (.int (b : Nat)) = some (.int ((a - b : Nat) : Int)) := by
  show some (D.int ((a : Int) - b)) = _
  congr 2
  omega
theorem GOk.more {fs ns : List Str} {ts su : List Tm} {ws : List Str} (g : GOk fs ns ts su ws) {k : Tm} (h : k ∈ ts) : GOk fs ns ts (su ++ [k]) ws :=
  ⟨g.fpos, g.flen, g.wpos, g.wlen, g.wn, g.tok, fun t ht => by
    rcases List.mem_append.mp ht with z | z
    · exact g.sin t z
    · rw [List.mem_singleton.mp z]; exact h⟩
theorem tok_mono {ns : List Str} {x : Str} {t : Tm} (h : t.ok ns) : t.ok (ns ++ [x]) := by
  cases t with
  | n i => trivial
  | s y => exact List.mem_append_left _ h
theorem GOk.name {fs ns : List Str} {ts su : List Tm} {ws : List Str} (g : GOk fs ns ts su ws) (x : Str) : GOk fs (ns ++ [x]) (ts ++ [.s x]) su ws :=
  ⟨g.fpos, g.flen, g.wpos, g.wlen, g.wn, fun t ht => by
    rcases List.mem_append.mp ht with z | z
    · exact tok_mono (g.tok t z)
    · rw [List.mem_singleton.mp z]; exact List.mem_append_right _ (List.mem_singleton.mpr rfl), fun t ht => List.mem_append_left _ (g.sin t ht)⟩
theorem isEmpty_pos {α : Type} {l : List α} (h : l.isEmpty = false) : 0 < l.length := by
  cases l with
  | nil => cases h
  | cons _ _ => simp
theorem nameS_x : nameS (Str.ofString "x") = true := by decide +kernel
theorem b_law_body (t : Nat) {ds : List D} (f1 : T.fs "_law_take" = some fsTake) (f2 : T.fs "_law_of" = some fsOf) (f3 : T.fs "_law_say" = some fsSayG) (f4 : ∀ j, t = j + 1 → T.fs "_law_body" = some (fsBodyG j)) (h : fsBodyG t ds n Q E) :
    wB T ir_law_body (ent0 ["_law_box_here", "_law_fields_so", "_law_terms_so", "_law_sure_so", "_law_tests_so", "_law_lets_so", "_law_words_so", "_law_name_so", "_law_spot", "_law_field_so", "_law_rest", "_law_first_so", "_law_head", "_law_one_so", "_law_key_so", "_law_other_so"] ds) n (eQ Q E) := by
  obtain ⟨fs, ns, ts, su, a, b, ws, rfl, g, l1, l2, l5, lb, hx, l6, q⟩ := h
  have p1 : 1 ≤ 3 ^ t := Nat.one_le_pow _ _ (by decide)
  have hf1 := g.fpos
  have hf2 := g.flen
  have t0 : (ts.map Tm.d).length + ([D.int 0] : List D).length ≤ sizeLine := le_size (by rw [List.length_singleton, List.length_map]; omega)
  have tail : ∀ n1, n1 ≤ n + 1 → wB T (ISs.tl ir_law_body) (ent0 ["_law_box_here", "_law_fields_so", "_law_terms_so", "_law_sure_so", "_law_tests_so", "_law_lets_so", "_law_words_so", "_law_name_so", "_law_spot", "_law_field_so", "_law_rest", "_law_first_so", "_law_head", "_law_one_so", "_law_key_so", "_law_other_so"] [.box, .tup (fs.map .str), .list (ts.map Tm.d), .list (su.map Tm.d), .int a, .int b, .list (ws.map .str)]) n1 (eQ Q E) := by
    intro n1 hn1
    have say : fsSayG [.box, .tup (fs.map .str), .list (ts.map Tm.d), .list (ws.map .str)] n1 Q (fun x n => E x n) := ⟨fs, ns, ts, su, ws, rfl, g, by omega, by omega, fun cs w n' h1 h2 h3 h4 => q (.say cs w) n' ⟨h1, h3⟩ (Nat.zero_le _) h2 (by omega)⟩
    unfold ir_law_body ent0
    simp only [ISs.tl, wB, wS, wE, wA, wAnd, wOr, wAndT, wOrT, wP, wI, tru, eQ, exAt_eq, IAs.isNil, List.map_cons, List.map_nil, List.cons_append, List.nil_append, List.getElem?_cons_zero, List.getElem?_cons_succ, List.set_cons_zero, List.set_cons_succ, Bool.false_eq_true, if_false, if_true, if_pos, List.any_cons, List.any_nil, ofO_some, ofO_none, setMany, bindT, D.truth, D.isTy, D.isBox, bi_len_tup, bi_len_list, bi_len_str, bi_tuple_list, bi_tuple_tup, bi_list_list, bi_list_tup, bi_int_int, eq_int, ne_int, lt_int, le_int, gt_int, ge_int, Bool.or_false, Bool.or_true, Bool.false_or, Bool.true_or, Bool.and_true, Bool.true_and, Bool.not_true, Bool.not_false, Bool.and_false, Bool.false_and, Option.map_some, reduceCtorEq, and_true, true_and, and_self, f1, f2, f3, List.length_cons, List.length_nil, List.replicate, ne_nilT, eq_nilT, add_list t0]
    split
    · exact say
    rename_i hane
    have ha1 : 1 ≤ a := by
      rw [beq_iff_eq] at hane
      omega
    refine ⟨Nat.zero_le _, ?_⟩
    cases hts : ts.isEmpty with
    | true =>
      simp only [wB, wS, wE, wA, wAnd, wOr, wAndT, wOrT, wP, wI, tru, eQ, exAt_eq, IAs.isNil, List.map_cons, List.map_nil, List.cons_append, List.nil_append, List.getElem?_cons_zero, List.getElem?_cons_succ, List.set_cons_zero, List.set_cons_succ, Bool.false_eq_true, if_false, if_true, if_pos, List.any_cons, List.any_nil, ofO_some, ofO_none, setMany, bindT, D.truth, D.isTy, D.isBox, bi_len_tup, bi_len_list, bi_len_str, bi_tuple_list, bi_tuple_tup, bi_list_list, bi_list_tup, bi_int_int, eq_int, ne_int, lt_int, le_int, gt_int, ge_int, Bool.or_false, Bool.or_true, Bool.false_or, Bool.true_or, Bool.and_true, Bool.true_and, Bool.not_true, Bool.not_false, Bool.and_false, Bool.false_and, Option.map_some, reduceCtorEq, and_true, true_and, and_self]
      exact say
    | false =>
      have hpos := isEmpty_pos hts
      obtain ⟨j, rfl⟩ : ∃ j, t = j + 1 := ⟨t - 1, by omega⟩
      have f4 := f4 j rfl
      have p3 : 3 ^ (j + 1) = 3 * 3 ^ j := by rw [Nat.pow_succ]; omega
      have p2 : 1 ≤ 3 ^ j := Nat.one_le_pow _ _ (by decide)
      rw [p3] at l6 q
      simp only [wB, wS, wE, wA, wAnd, wOr, wAndT, wOrT, wP, wI, tru, eQ, exAt_eq, IAs.isNil, List.map_cons, List.map_nil, List.cons_append, List.nil_append, List.getElem?_cons_zero, List.getElem?_cons_succ, List.set_cons_zero, List.set_cons_succ, Bool.false_eq_true, if_false, if_true, if_pos, List.any_cons, List.any_nil, ofO_some, ofO_none, setMany, bindT, D.truth, D.isTy, D.isBox, bi_len_tup, bi_len_list, bi_len_str, bi_tuple_list, bi_tuple_tup, bi_list_list, bi_list_tup, bi_int_int, eq_int, ne_int, lt_int, le_int, gt_int, ge_int, Bool.or_false, Bool.or_true, Bool.false_or, Bool.true_or, Bool.and_true, Bool.true_and, Bool.not_true, Bool.not_false, Bool.and_false, Bool.false_and, Option.map_some, reduceCtorEq, and_true, true_and, and_self, f4]
      refine ⟨(a : Int), rfl, by omega, by omega, by omega, fun r h0 h1 => ?_⟩
      obtain ⟨f, rfl⟩ : ∃ f : Nat, r = f := ⟨r.toNat, by omega⟩
      refine ⟨Nat.zero_le _, ?_⟩
      have isHas : ∀ n2, n2 ≤ n1 + 2 → fsOf [.box, .list (ts.map Tm.d)] n2 (fun d n1 => 0 + 1 + 1 ≤ sizeLine ∧ 0 + 1 ≤ sizeLine ∧ ofO (binop .add (.list (su.map Tm.d)) (.list [d])) fun z => fsBodyG j [.box, .tup (fs.map .str), .list (ts.map Tm.d), z, .int f, .int b, .list (ws.map .str)] n1 (fun d1 n1 => ofO (binop .sub (.int (a : Nat)) (.int 1)) fun z => ofO (binop .sub z (.int (f : Nat))) fun z => fsBodyG j [.box, .tup (fs.map .str), .list (ts.map Tm.d), .list (su.map Tm.d), z, .int b, .list (ws.map .str)] n1 (fun d2 n1 => 0 + 1 + 1 ≤ sizeLine ∧ ofO (binop .add (.tup [.str "has", d]) (.tup [d1, d2])) fun z => Q z n1) (fun x n => E x n)) (fun x n => E x n)) (fun x n => E x n) := by
        intro n2 hn2
        refine of_tm hpos (by omega) (by omega) fun key hkey => ?_
        have la : (su.map Tm.d).length + ([key.d] : List D).length ≤ sizeLine := le_size (by rw [List.length_singleton, List.length_map]; omega)
        rw [add_list la]
        refine ⟨le_size (by omega), le_size (by omega), ?_⟩
        refine ⟨fs, ns, ts, su ++ [key], f, b, ws, by simp, g.more hkey, by omega, by rw [List.length_append, List.length_singleton]; omega, by omega, lb, hx, by omega, fun d1 n' h1 h2 h3 h4 => ?_⟩
        simp only [sub_one ha1, ofO_some, sub_nat (show f ≤ a - 1 by omega)]
        refine ⟨fs, ns, ts, su, a - 1 - f, b, ws, rfl, g, by omega, by omega, by omega, lb, hx, by omega, fun d2 n2 h5 h6 h7 h8 => ?_⟩
        refine ⟨le_size (by omega), ?_⟩
        rw [add_tup (le_size (by simp))]
        exact q (.has key d1 d2) _ ⟨g.tok key hkey, h1, h5⟩ (by rw [Bd.dep]; omega) ⟨h3, h7⟩ (by omega)
      cases hsu : su.isEmpty with
      | true =>
        simp only [wB, wS, wE, wA, wAnd, wOr, wAndT, wOrT, wP, wI, tru, eQ, exAt_eq, IAs.isNil, List.map_cons, List.map_nil, List.cons_append, List.nil_append, List.getElem?_cons_zero, List.getElem?_cons_succ, List.set_cons_zero, List.set_cons_succ, Bool.false_eq_true, if_false, if_true, if_pos, List.any_cons, List.any_nil, ofO_some, ofO_none, setMany, bindT, D.truth, D.isTy, D.isBox, bi_len_tup, bi_len_list, bi_len_str, bi_tuple_list, bi_tuple_tup, bi_list_list, bi_list_tup, bi_int_int, eq_int, ne_int, lt_int, le_int, gt_int, ge_int, Bool.or_false, Bool.or_true, Bool.false_or, Bool.true_or, Bool.and_true, Bool.true_and, Bool.not_true, Bool.not_false, Bool.and_false, Bool.false_and, Option.map_some, reduceCtorEq, and_true, true_and, and_self]
        exact isHas _ (by omega)
      | false =>
        have hsp := isEmpty_pos hsu
        simp only [wB, wS, wE, wA, wAnd, wOr, wAndT, wOrT, wP, wI, tru, eQ, exAt_eq, IAs.isNil, List.map_cons, List.map_nil, List.cons_append, List.nil_append, List.getElem?_cons_zero, List.getElem?_cons_succ, List.set_cons_zero, List.set_cons_succ, Bool.false_eq_true, if_false, if_true, if_pos, List.any_cons, List.any_nil, ofO_some, ofO_none, setMany, bindT, D.truth, D.isTy, D.isBox, bi_len_tup, bi_len_list, bi_len_str, bi_tuple_list, bi_tuple_tup, bi_list_list, bi_list_tup, bi_int_int, eq_int, ne_int, lt_int, le_int, gt_int, ge_int, Bool.or_false, Bool.or_true, Bool.false_or, Bool.true_or, Bool.and_true, Bool.true_and, Bool.not_true, Bool.not_false, Bool.and_false, Bool.false_and, Option.map_some, reduceCtorEq, and_true, true_and, and_self]
        refine ⟨2, rfl, by decide, by decide, by omega, fun r2 h02 h12 => ?_⟩
        simp only [wB, wS, wE, wA, wAnd, wOr, wAndT, wOrT, wP, wI, tru, eQ, exAt_eq, IAs.isNil, List.map_cons, List.map_nil, List.cons_append, List.nil_append, List.getElem?_cons_zero, List.getElem?_cons_succ, List.set_cons_zero, List.set_cons_succ, Bool.false_eq_true, if_false, if_true, if_pos, List.any_cons, List.any_nil, ofO_some, ofO_none, setMany, bindT, D.truth, D.isTy, D.isBox, bi_len_tup, bi_len_list, bi_len_str, bi_tuple_list, bi_tuple_tup, bi_list_list, bi_list_tup, bi_int_int, eq_int, ne_int, lt_int, le_int, gt_int, ge_int, Bool.or_false, Bool.or_true, Bool.false_or, Bool.true_or, Bool.and_true, Bool.true_and, Bool.not_true, Bool.not_false, Bool.and_false, Bool.false_and, Option.map_some, reduceCtorEq, and_true, true_and, and_self]
        split
        · refine of_tm hsp (by omega) (by omega) fun sp hsu => of_ft hf1 hf2 (by omega) fun fz hfz => ⟨le_size (by omega), of_tm0 g.tok (by omega) (by omega) fun v hv => ⟨le_size (by omega), fs, ns, ts, su, f, b, ws, rfl, g, by omega, by omega, by omega, lb, hx, by omega, fun d1 n' h1 h2 h3 h4 => ?_⟩⟩
          simp only [sub_one ha1, ofO_some, sub_nat (show f ≤ a - 1 by omega)]
          refine ⟨fs, ns, ts, su, a - 1 - f, b, ws, rfl, g, by omega, by omega, by omega, lb, hx, by omega, fun d2 n2 h5 h6 h7 h8 => ?_⟩
          refine ⟨le_size (by omega), ?_⟩
          rw [add_tup (le_size (by simp))]
          exact q (.is sp fz v d1 d2) _ ⟨g.tok sp (g.sin sp hsu), hsu, hfz, hv, h1, h5⟩ (by rw [Bd.dep]; omega) ⟨h3, h7⟩ (by omega)
        · exact isHas _ (by omega)
  have e : ir_law_body = .cons (ISs.hd ir_law_body) (ISs.tl ir_law_body) := rfl
  rw [e, wB]
  generalize ISs.tl ir_law_body = R at tail ⊢
  unfold ent0 at tail
  unfold ir_law_body ent0
  simp only [List.length_cons, List.length_nil, List.replicate] at tail
  simp only [ISs.hd, wB, wS, wE, wA, wAnd, wOr, wAndT, wOrT, wP, wI, tru, eQ, exAt_eq, IAs.isNil, List.map_cons, List.map_nil, List.cons_append, List.nil_append, List.getElem?_cons_zero, List.getElem?_cons_succ, List.set_cons_zero, List.set_cons_succ, Bool.false_eq_true, if_false, if_true, if_pos, List.any_cons, List.any_nil, ofO_some, ofO_none, setMany, bindT, D.truth, D.isTy, D.isBox, bi_len_tup, bi_len_list, bi_len_str, bi_tuple_list, bi_tuple_tup, bi_list_list, bi_list_tup, bi_int_int, eq_int, ne_int, lt_int, le_int, gt_int, ge_int, Bool.or_false, Bool.or_true, Bool.false_or, Bool.true_or, Bool.and_true, Bool.true_and, Bool.not_true, Bool.not_false, Bool.and_false, Bool.false_and, Option.map_some, reduceCtorEq, and_true, true_and, and_self, f1, f2, List.length_cons, List.length_nil, List.replicate, ne_nilT]
  simp only [wB, wS, wE, wA, wAnd, wOr, wAndT, wOrT, wP, wI, tru, eQ, exAt_eq, IAs.isNil, List.map_cons, List.map_nil, List.cons_append, List.nil_append, List.getElem?_cons_zero, List.getElem?_cons_succ, List.set_cons_zero, List.set_cons_succ, Bool.false_eq_true, if_false, if_true, if_pos, List.any_cons, List.any_nil, ofO_some, ofO_none, setMany, bindT, D.truth, D.isTy, D.isBox, bi_len_tup, bi_len_list, bi_len_str, bi_tuple_list, bi_tuple_tup, bi_list_list, bi_list_tup, bi_int_int, eq_int, ne_int, lt_int, le_int, gt_int, ge_int, Bool.or_false, Bool.or_true, Bool.false_or, Bool.true_or, Bool.and_true, Bool.true_and, Bool.not_true, Bool.not_false, Bool.and_false, Bool.false_and, Option.map_some, reduceCtorEq, and_true, true_and, and_self] at tail
  refine ⟨Nat.zero_le _, ?_⟩
  cases hsu : su.isEmpty with
  | true =>
    simp only [wB, wS, wE, wA, wAnd, wOr, wAndT, wOrT, wP, wI, tru, eQ, exAt_eq, IAs.isNil, List.map_cons, List.map_nil, List.cons_append, List.nil_append, List.getElem?_cons_zero, List.getElem?_cons_succ, List.set_cons_zero, List.set_cons_succ, Bool.false_eq_true, if_false, if_true, if_pos, List.any_cons, List.any_nil, ofO_some, ofO_none, setMany, bindT, D.truth, D.isTy, D.isBox, bi_len_tup, bi_len_list, bi_len_str, bi_tuple_list, bi_tuple_tup, bi_list_list, bi_list_tup, bi_int_int, eq_int, ne_int, lt_int, le_int, gt_int, ge_int, Bool.or_false, Bool.or_true, Bool.false_or, Bool.true_or, Bool.and_true, Bool.true_and, Bool.not_true, Bool.not_false, Bool.and_false, Bool.false_and, Option.map_some, reduceCtorEq, and_true, true_and, and_self]
    exact tail _ (by omega)
  | false =>
    have hsp := isEmpty_pos hsu
    simp only [wB, wS, wE, wA, wAnd, wOr, wAndT, wOrT, wP, wI, tru, eQ, exAt_eq, IAs.isNil, List.map_cons, List.map_nil, List.cons_append, List.nil_append, List.getElem?_cons_zero, List.getElem?_cons_succ, List.set_cons_zero, List.set_cons_succ, Bool.false_eq_true, if_false, if_true, if_pos, List.any_cons, List.any_nil, ofO_some, ofO_none, setMany, bindT, D.truth, D.isTy, D.isBox, bi_len_tup, bi_len_list, bi_len_str, bi_tuple_list, bi_tuple_tup, bi_list_list, bi_list_tup, bi_int_int, eq_int, ne_int, lt_int, le_int, gt_int, ge_int, Bool.or_false, Bool.or_true, Bool.false_or, Bool.true_or, Bool.and_true, Bool.true_and, Bool.not_true, Bool.not_false, Bool.and_false, Bool.false_and, Option.map_some, reduceCtorEq, and_true, true_and, and_self]
    cases hb : decide (0 < (b : Int)) with
    | false =>
      simp only [wB, wS, wE, wA, wAnd, wOr, wAndT, wOrT, wP, wI, tru, eQ, exAt_eq, IAs.isNil, List.map_cons, List.map_nil, List.cons_append, List.nil_append, List.getElem?_cons_zero, List.getElem?_cons_succ, List.set_cons_zero, List.set_cons_succ, Bool.false_eq_true, if_false, if_true, if_pos, List.any_cons, List.any_nil, ofO_some, ofO_none, setMany, bindT, D.truth, D.isTy, D.isBox, bi_len_tup, bi_len_list, bi_len_str, bi_tuple_list, bi_tuple_tup, bi_list_list, bi_list_tup, bi_int_int, eq_int, ne_int, lt_int, le_int, gt_int, ge_int, Bool.or_false, Bool.or_true, Bool.false_or, Bool.true_or, Bool.and_true, Bool.true_and, Bool.not_true, Bool.not_false, Bool.and_false, Bool.false_and, Option.map_some, reduceCtorEq, and_true, true_and, and_self]
      exact tail _ (by omega)
    | true =>
      have hb1 : b = 1 := by
        rw [decide_eq_true_eq] at hb
        omega
      subst hb1
      have hx := hx rfl
      obtain ⟨j, rfl⟩ : ∃ j, t = j + 1 := ⟨t - 1, by omega⟩
      have f4 := f4 j rfl
      have p3 : 3 ^ (j + 1) = 3 * 3 ^ j := by rw [Nat.pow_succ]; omega
      have p2 : 1 ≤ 3 ^ j := Nat.one_le_pow _ _ (by decide)
      rw [p3] at l6 q
      have ex : cmpop .notin (.str (Str.ofString "x")) (.list (ts.map Tm.d)) = some true := by
        rw [nin_atoms_list rfl (by rw [List.all_map, List.all_eq_true]; exact fun t _ => by cases t <;> rfl)]
        have : hasA (ts.map Tm.d) (.str (Str.ofString "x")) = false := by
          unfold hasA
          rw [List.any_eq_false]
          intro d hd
          obtain ⟨t, ht, rfl⟩ := List.mem_map.mp hd
          have := Tm.eqb t (.s (Str.ofString "x"))
          rw [Tm.d.eq_2] at this
          rw [this, decide_eq_true_eq]
          intro e
          subst e
          exact hx (g.tok _ ht)
        rw [this]
        rfl
      simp only [wB, wS, wE, wA, wAnd, wOr, wAndT, wOrT, wP, wI, tru, eQ, exAt_eq, IAs.isNil, List.map_cons, List.map_nil, List.cons_append, List.nil_append, List.getElem?_cons_zero, List.getElem?_cons_succ, List.set_cons_zero, List.set_cons_succ, Bool.false_eq_true, if_false, if_true, if_pos, List.any_cons, List.any_nil, ofO_some, ofO_none, setMany, bindT, D.truth, D.isTy, D.isBox, bi_len_tup, bi_len_list, bi_len_str, bi_tuple_list, bi_tuple_tup, bi_list_list, bi_list_tup, bi_int_int, eq_int, ne_int, lt_int, le_int, gt_int, ge_int, Bool.or_false, Bool.or_true, Bool.false_or, Bool.true_or, Bool.and_true, Bool.true_and, Bool.not_true, Bool.not_false, Bool.and_false, Bool.false_and, Option.map_some, reduceCtorEq, and_true, true_and, and_self]
      refine ⟨3, rfl, by decide, by decide, by omega, fun r3 h03 h13 => ?_⟩
      simp only [wB, wS, wE, wA, wAnd, wOr, wAndT, wOrT, wP, wI, tru, eQ, exAt_eq, IAs.isNil, List.map_cons, List.map_nil, List.cons_append, List.nil_append, List.getElem?_cons_zero, List.getElem?_cons_succ, List.set_cons_zero, List.set_cons_succ, Bool.false_eq_true, if_false, if_true, if_pos, List.any_cons, List.any_nil, ofO_some, ofO_none, setMany, bindT, D.truth, D.isTy, D.isBox, bi_len_tup, bi_len_list, bi_len_str, bi_tuple_list, bi_tuple_tup, bi_list_list, bi_list_tup, bi_int_int, eq_int, ne_int, lt_int, le_int, gt_int, ge_int, Bool.or_false, Bool.or_true, Bool.false_or, Bool.true_or, Bool.and_true, Bool.true_and, Bool.not_true, Bool.not_false, Bool.and_false, Bool.false_and, Option.map_some, reduceCtorEq, and_true, true_and, and_self, ex, f4]
      split
      · refine of_tm hsp (by omega) (by omega) fun sp hsu => of_ft hf1 hf2 (by omega) fun fz hfz => ?_
        have la : (ts.map Tm.d).length + ([D.str "x"] : List D).length ≤ sizeLine := le_size (by rw [List.length_singleton, List.length_map]; omega)
        have s1 : binop .sub (.int ((1 : Nat) : Int)) (.int 1) = some (.int ((0 : Nat) : Int)) := rfl
        simp only [wB, wS, wE, wA, wAnd, wOr, wAndT, wOrT, wP, wI, tru, eQ, exAt_eq, IAs.isNil, List.map_cons, List.map_nil, List.cons_append, List.nil_append, List.getElem?_cons_zero, List.getElem?_cons_succ, List.set_cons_zero, List.set_cons_succ, Bool.false_eq_true, if_false, if_true, if_pos, List.any_cons, List.any_nil, ofO_some, ofO_none, setMany, bindT, D.truth, D.isTy, D.isBox, bi_len_tup, bi_len_list, bi_len_str, bi_tuple_list, bi_tuple_tup, bi_list_list, bi_list_tup, bi_int_int, eq_int, ne_int, lt_int, le_int, gt_int, ge_int, Bool.or_false, Bool.or_true, Bool.false_or, Bool.true_or, Bool.and_true, Bool.true_and, Bool.not_true, Bool.not_false, Bool.and_false, Bool.false_and, Option.map_some, reduceCtorEq, and_true, true_and, and_self, add_list la, s1, f4]
        refine ⟨le_size (by omega), fs, ns ++ [Str.ofString "x"], ts ++ [.s (Str.ofString "x")], su, a, 0, ws, by simp [Tm.d], g.name _, by rw [List.length_append, List.length_singleton]; omega, by omega, by omega, by omega, by omega, by omega, fun d n' h1 h2 h3 h4 => ⟨le_size (by omega), ?_⟩⟩
        exact q (.lt (Str.ofString "x") sp fz d) _ ⟨nameS_x, hx, g.tok sp (g.sin sp hsu), hsu, hfz, h1⟩ (by rw [Bd.dep]; omega) h3 (by omega)
      · exact tail _ (by omega)
theorem b_law_kind {ds : List D} (f1 : T.fs "_law_take" = some fsTake) (f2 : T.fs "_law_of" = some fsOf) (f3 : T.fs "_law_body" = some (fsBodyG 4)) (h : fsKindG ds n Q E) :
    wB T ir_law_kind (ent0 ["_law_box_here", "_law_fields_so", "_law_name_so", "_law_words_so", "_law_lets_so", "_law_most_tests", "_law_consts_so", "_law_names_so", "_law_terms_so", "_law_body_so"] ds) n (eQ Q E) := by
  obtain ⟨fs, nm, ws, cs, b, rfl, lb, l1, l2, l3, l4, hw, hnm, l5, l6, q⟩ := h
  unfold ir_law_kind ent0
  simp only [wB, wS, wE, wA, wAnd, wOr, wAndT, wOrT, wP, wI, tru, eQ, exAt_eq, IAs.isNil, List.map_cons, List.map_nil, List.cons_append, List.nil_append, List.getElem?_cons_zero, List.getElem?_cons_succ, List.set_cons_zero, List.set_cons_succ, Bool.false_eq_true, if_false, if_true, if_pos, List.any_cons, List.any_nil, ofO_some, ofO_none, setMany, bindT, D.truth, D.isTy, D.isBox, bi_len_tup, bi_len_list, bi_len_str, bi_tuple_list, bi_tuple_tup, bi_list_list, bi_list_tup, bi_int_int, eq_int, ne_int, lt_int, le_int, gt_int, ge_int, Bool.or_false, Bool.or_true, Bool.false_or, Bool.true_or, Bool.and_true, Bool.true_and, Bool.not_true, Bool.not_false, Bool.and_false, Bool.false_and, Option.map_some, reduceCtorEq, and_true, true_and, and_self, f1, f2, f3, List.length_cons, List.length_nil, List.replicate]
  refine ⟨le_size (by omega), of_l (by simp) (by simp) (by omega) fun x hx => ⟨le_size (by omega), of_l (by simp) (by simp) (by omega) fun y hy => ⟨le_size (by omega), le_size (by omega), of_l (by simp) (by simp) (by omega) fun c hc => ?_⟩⟩⟩
  obtain ⟨sx, rfl, hsx⟩ : ∃ sx : Str, x = .str sx ∧ (sx = Str.ofString "a" ∨ sx = Str.ofString "k" ∨ sx = Str.ofString "key") := by
    simp only [List.mem_cons, List.not_mem_nil, or_false] at hx
    rcases hx with rfl | rfl | rfl
    · exact ⟨_, rfl, .inl rfl⟩
    · exact ⟨_, rfl, .inr (.inl rfl)⟩
    · exact ⟨_, rfl, .inr (.inr rfl)⟩
  obtain ⟨sy, rfl, hsy⟩ : ∃ sy : Str, y = .str sy ∧ (sy = Str.ofString "b" ∨ sy = Str.ofString "v" ∨ sy = Str.ofString "value") := by
    simp only [List.mem_cons, List.not_mem_nil, or_false] at hy
    rcases hy with rfl | rfl | rfl
    · exact ⟨_, rfl, .inl rfl⟩
    · exact ⟨_, rfl, .inr (.inl rfl)⟩
    · exact ⟨_, rfl, .inr (.inr rfl)⟩
  obtain ⟨i, rfl⟩ : ∃ i : Nat, c = .int i := by
    simp only [List.mem_cons, List.not_mem_nil, or_false] at hc
    rcases hc with rfl | rfl | rfl | rfl | rfl | rfl
    · exact ⟨0, rfl⟩
    · exact ⟨1, rfl⟩
    · exact ⟨1, rfl⟩
    · exact ⟨1, rfl⟩
    · exact ⟨2, rfl⟩
    · exact ⟨2, rfl⟩
  have e1 : slcD (.list [.str sx, .str sy]) none (some (i : Int)) = some (.list (([sx, sy].take i).map .str)) := by
    show some (D.list (cutD [.str sx, .str sy] none (some (i : Int)))) = _
    rw [cut_take, List.map_take]
    rfl
  have two : ([sx, sy] : List Str).Nodup ∧ nameS sx = true ∧ nameS sy = true ∧ Str.ofString "x" ≠ sx ∧ Str.ofString "x" ≠ sy := by
    rcases hsx with rfl | rfl | rfl <;> rcases hsy with rfl | rfl | rfl <;> decide +kernel
  have hps : ([sx, sy].take i).length ≤ 2 := by
    rw [List.length_take]
    simp only [List.length_cons, List.length_nil]
    omega
  have hnd : ([sx, sy].take i).Nodup := two.1.sublist (List.take_sublist ..)
  have hin : ∀ p ∈ [sx, sy].take i, nameS p = true ∧ Str.ofString "x" ≠ p := fun p hp => by
    have := List.mem_of_mem_take hp
    rcases List.mem_cons.mp this with z | z
    · rw [z]; exact ⟨two.2.1, two.2.2.2.1⟩
    · rw [List.mem_singleton.mp z]; exact ⟨two.2.2.1, two.2.2.2.2⟩
  simp only [wB, wS, wE, wA, wAnd, wOr, wAndT, wOrT, wP, wI, tru, eQ, exAt_eq, IAs.isNil, List.map_cons, List.map_nil, List.cons_append, List.nil_append, List.getElem?_cons_zero, List.getElem?_cons_succ, List.set_cons_zero, List.set_cons_succ, Bool.false_eq_true, if_false, if_true, if_pos, List.any_cons, List.any_nil, ofO_some, ofO_none, setMany, bindT, D.truth, D.isTy, D.isBox, bi_len_tup, bi_len_list, bi_len_str, bi_tuple_list, bi_tuple_tup, bi_list_list, bi_list_tup, bi_int_int, eq_int, ne_int, lt_int, le_int, gt_int, ge_int, Bool.or_false, Bool.or_true, Bool.false_or, Bool.true_or, Bool.and_true, Bool.true_and, Bool.not_true, Bool.not_false, Bool.and_false, Bool.false_and, Option.map_some, reduceCtorEq, and_true, true_and, and_self, e1]
  generalize [sx, sy].take i = ps at hps hnd hin ⊢
  have et : ps.map D.str ++ cs.map D.int = (ps.map Tm.s ++ cs.map Tm.n).map Tm.d := by
    rw [List.map_append, List.map_map, List.map_map]
    rfl
  have la : (ps.map D.str).length + (cs.map D.int).length ≤ sizeLine := le_size (by rw [List.length_map, List.length_map]; omega)
  simp only [wB, wS, wE, wA, wAnd, wOr, wAndT, wOrT, wP, wI, tru, eQ, exAt_eq, IAs.isNil, List.map_cons, List.map_nil, List.cons_append, List.nil_append, List.getElem?_cons_zero, List.getElem?_cons_succ, List.set_cons_zero, List.set_cons_succ, Bool.false_eq_true, if_false, if_true, if_pos, List.any_cons, List.any_nil, ofO_some, ofO_none, setMany, bindT, D.truth, D.isTy, D.isBox, bi_len_tup, bi_len_list, bi_len_str, bi_tuple_list, bi_tuple_tup, bi_list_list, bi_list_tup, bi_int_int, eq_int, ne_int, lt_int, le_int, gt_int, ge_int, Bool.or_false, Bool.or_true, Bool.false_or, Bool.true_or, Bool.and_true, Bool.true_and, Bool.not_true, Bool.not_false, Bool.and_false, Bool.false_and, Option.map_some, reduceCtorEq, and_true, true_and, and_self, add_list la, et]
  refine ⟨Nat.zero_le _, 3, rfl, by decide, by decide, by omega, fun r h0 h1 => ?_⟩
  obtain ⟨f, rfl⟩ : ∃ f : Nat, r = f := ⟨r.toNat, by omega⟩
  have e2 : binop .add (.int 1) (.int (f : Int)) = some (.int ((1 + f : Nat) : Int)) := by
    show some (D.int (1 + (f : Int))) = _
    congr 2
  simp only [wB, wS, wE, wA, wAnd, wOr, wAndT, wOrT, wP, wI, tru, eQ, exAt_eq, IAs.isNil, List.map_cons, List.map_nil, List.cons_append, List.nil_append, List.getElem?_cons_zero, List.getElem?_cons_succ, List.set_cons_zero, List.set_cons_succ, Bool.false_eq_true, if_false, if_true, if_pos, List.any_cons, List.any_nil, ofO_some, ofO_none, setMany, bindT, D.truth, D.isTy, D.isBox, bi_len_tup, bi_len_list, bi_len_str, bi_tuple_list, bi_tuple_tup, bi_list_list, bi_list_tup, bi_int_int, eq_int, ne_int, lt_int, le_int, gt_int, ge_int, Bool.or_false, Bool.or_true, Bool.false_or, Bool.true_or, Bool.and_true, Bool.true_and, Bool.not_true, Bool.not_false, Bool.and_false, Bool.false_and, Option.map_some, reduceCtorEq, and_true, true_and, and_self, e2]
  have p4 : 3 ^ 4 = 81 := rfl
  have g : GOk fs ps (ps.map Tm.s ++ cs.map Tm.n) [] ws := ⟨l1, l2, l3, l4, hw, fun t ht => by
    rcases List.mem_append.mp ht with z | z
    · obtain ⟨p, hp, rfl⟩ := List.mem_map.mp z
      exact hp
    · obtain ⟨p, hp, rfl⟩ := List.mem_map.mp z
      trivial, fun t ht => by cases ht⟩
  refine ⟨fs, ps, ps.map Tm.s ++ cs.map Tm.n, [], 1 + f, b, ws, rfl, g, by rw [List.length_append, List.length_map, List.length_map]; omega, by simp, by omega, lb, fun _ hm => (hin _ hm).2 rfl, by omega, fun bd n' h2 h3 h4 h5 => ⟨le_size (by omega), ?_⟩⟩
  exact q ⟨nm, ps, bd⟩ _ ⟨h4, hnm, hps, hnd, fun p hp => (hin p hp).1, h2, by show bd.dep ≤ 8; omega⟩ rfl (by omega)
end
end Dl

set_option Elab.async false
set_option linter.all false
set_option maxRecDepth 100000
set_option maxHeartbeats 4000000
/-! The law's own functions. -/
namespace Dl
open PySem PySem.Spec PyProof.Rows L2
def clD (c : Str × List Int) : D := .tup (.str c.1 :: c.2.map .int)
def lbookD (fs : List Str) (ks : List Kd) : D := .tup [.tup (fs.map .str), .tup (ks.map Kd.d)]
structure Sy where
  many : Nat
  lets : List Str
  cs : List Ch
  w : Str
def Sy.d (s : Sy) : D := .tup [.int s.many, .tup (s.lets.map .str), .tup (s.cs.map Ch.d), .str s.w]
def saysP (b : Bd) (many : Nat) (lets : List Str) : List Sy := b.brs.map fun r => ⟨many + r.many, lets ++ r.lets, r.cs, r.w⟩
def tellsP (ss : List Sy) : Bool := ss.all fun s => (ss.filter fun o => decide (o.w = s.w) && !decide (o.cs = s.cs)).isEmpty && s.cs.all fun c => (c.bits.filter fun t => hasS s.lets t.d).isEmpty
/-! ### the two ways of telling agree -/
theorem hidP_none {b : Bd} : (hidP b = none) ↔ ∀ o ∈ b.brs, ∀ q ∈ b.brs, hidesP o q = false := by
  unfold hidP
  rw [List.findSome?_eq_none_iff]
  constructor
  · intro h o ho q hq
    have := h o ho
    rw [List.findSome?_eq_none_iff] at this
    have := this q hq
    cases hh : hidesP o q with
    | false => rfl
    | true => rw [hh, if_pos rfl] at this; cases this
  · intro h o ho
    rw [List.findSome?_eq_none_iff]
    intro q hq
    rw [h o ho q hq, if_neg (by decide)]
theorem readP_iff {lets : List Str} {cs : List Ch} : readP lets cs = false ↔ ∀ c ∈ cs, ∀ t ∈ c.bits, hasS lets t.d = false := by
  unfold readP
  rw [List.any_eq_false]
  constructor
  · intro h c hc t ht
    have := h t (List.mem_flatMap.mpr ⟨c, hc, ht⟩)
    simpa using this
  · intro h t ht
    obtain ⟨c, hc, ht⟩ := List.mem_flatMap.mp ht
    rw [h c hc t ht]
    decide
theorem tells_eq (b : Bd) (m : Nat) : tellsP (saysP b m []) = tellP b := by
  rw [Bool.eq_iff_iff]
  unfold tellP
  rw [Option.isNone_iff_eq_none, hidP_none]
  unfold tellsP saysP
  simp only [List.all_map, List.all_eq_true, Function.comp, Bool.and_eq_true, List.isEmpty_iff, List.filter_eq_nil_iff, List.nil_append, List.mem_map, forall_exists_index, and_imp, decide_eq_true_eq, Bool.not_eq_true', decide_eq_false_iff_not, not_and, Decidable.not_not]
  constructor
  · intro h o ho q hq
    obtain ⟨h1, h2⟩ := h o ho
    unfold hidesP
    by_cases hw : o.w = q.w
    · rw [decide_eq_true hw, Bool.true_and]
      by_cases hp : o.path = q.path
      · rw [if_pos hp, readP_iff]
        intro c hc t ht
        have := h2 c hc t ht
        simpa using this
      · rw [if_neg hp]
        have e : q.cs = o.cs := h1 _ q hq rfl hw.symm
        rw [e]
        simp
    · rw [decide_eq_false hw, Bool.false_and]
  · intro h o ho
    constructor
    · intro x q hq hx hw
      subst hx
      have hh := h o ho q hq
      unfold hidesP at hh
      rw [decide_eq_true hw.symm, Bool.true_and] at hh
      by_cases hp : o.path = q.path
      · rw [Bd.brs_path ho hq hp]
      · rw [if_neg hp] at hh
        have : o.cs = q.cs := by simpa using hh
        exact this.symm
    · intro c hc t ht
      have hh := h o ho o ho
      unfold hidesP at hh
      rw [decide_eq_true rfl, Bool.true_and, if_pos rfl, readP_iff] at hh
      have := hh c hc t ht
      simpa using this
theorem says_len (b : Bd) : maxL ((saysP b 0 []).map fun s => (s.many : Int)) = lenP b := by
  unfold saysP lenP
  rw [List.map_map]
  congr 1
  refine List.map_congr_left fun r _ => ?_
  show ((0 + r.many : Nat) : Int) = r.many
  omega
theorem maxL_app : ∀ {fl : List Int} (x : Int), fl ≠ [] → maxL (fl ++ [x]) = max (maxL fl) x
  | [], x, h => absurd rfl h
  | [i], x, _ => rfl
  | i :: j :: r, x, _ => by
    have ih := maxL_app (fl := j :: r) x (by simp)
    show max i (maxL ((j :: r) ++ [x])) = max (max i (maxL (j :: r))) x
    rw [ih]
    omega
/-! ### promises -/
def fsPool : FS := fun ds n Q _ => ds = [.box] ∧ n + 4 ≤ B9 ∧ ∀ is : List Int, is.length = 4 → Q (.list (is.map .int)) (n + 4)
def fsCallG : FS := fun ds n Q _ => ∃ fs ks is, ds = [.box, lbookD fs ks, .list (List.map .int is)] ∧ 0 < ks.length ∧ ks.length ≤ 20 ∧ (∀ k ∈ ks, Kd.ok fs k) ∧ is.length = 4 ∧ n + 5 ≤ B9 ∧ ∀ k ∈ ks, ∀ (as : List Int) n', as.length = k.ps.length → n' ≤ n + 5 → Q (clD (k.nm, as)) n'
def clOk (ks : List Kd) (c : Str × List Int) : Prop := ∃ k ∈ ks, k.nm = c.1 ∧ c.2.length = k.ps.length
def fsCallsG : FS := fun ds n Q _ => ∃ fs ks is, ∃ many : Nat, ds = [.box, lbookD fs ks, .list (List.map .int is), .int many] ∧ 0 < ks.length ∧ ks.length ≤ 20 ∧ (∀ k ∈ ks, Kd.ok fs k) ∧ is.length = 4 ∧ many ≤ 20 ∧ n + 100 ≤ B9 ∧ ∀ (cs : List (Str × List Int)) n', cs.length = many → (∀ c ∈ cs, clOk ks c) → n' ≤ n + 100 → Q (.tup (cs.map clD)) n'
def fsKindOf : FS := fun ds n Q _ => ∃ fs ks k, ds = [lbookD fs ks, .str k.nm] ∧ k ∈ ks ∧ (ks.map Kd.nm).Nodup ∧ Q k.d n
def fsSays (m : Nat) : FS := fun ds n Q _ => ∃ b many lets, ds = [Bd.d b, .int (many : Nat), .tup (List.map .str lets)] ∧ b.dep ≤ m ∧ b.dep ≤ 8 ∧ lets.length + m ≤ 50 ∧ Q (.list ((saysP b many lets).map Sy.d)) n
def fsTells : FS := fun ds n Q _ => ∃ ss : List Sy, ds = [.list (ss.map Sy.d)] ∧ (∀ s ∈ ss, smallC s.cs) ∧ Q (.bl (tellsP ss)) n
def fsDue : FS := fun ds n Q _ => ∃ fs ks ls, ds = [lbookD fs ks, .tup (ls.map Ln.d)] ∧ KsOk fs ks ∧ (∀ l ∈ ls, l.ok ks) ∧ ls.length ≤ 100 ∧ Q (.int (bndP ks ls)) n
theorem ixt0 (x y : D) : getI (.tup [x, y]) (.int 0) = some x := ix0 _ _
theorem ixt1 (x y : D) : getI (.tup [x, y]) (.int 1) = some y := ix1 _ _ _
section
variable {T : Tab} {n : Nat} {Q : D → Nat → Prop} {E : QX}
theorem b_law_pool {ds : List D} (f1 : T.fs "_law_take" = some fsTake) (h : fsPool ds n Q E) : wB T ir_law_pool (ent0 ["_law_box_here", "_law_low_so"] ds) n (eQ Q E) := by
  obtain ⟨rfl, hn, q⟩ := h
  unfold ir_law_pool ent0
  simp only [wB, wS, wE, wA, wAnd, wOr, wAndT, wOrT, wP, wI, tru, eQ, exAt_eq, IAs.isNil, List.map_cons, List.map_nil, List.cons_append, List.nil_append, List.getElem?_cons_zero, List.getElem?_cons_succ, List.set_cons_zero, List.set_cons_succ, Bool.false_eq_true, if_false, if_true, if_pos, List.any_cons, List.any_nil, ofO_some, ofO_none, setMany, bindT, D.truth, D.isTy, D.isBox, bi_len_tup, bi_len_list, bi_len_str, bi_tuple_list, bi_tuple_tup, bi_list_list, bi_list_tup, bi_int_int, eq_int, ne_int, lt_int, le_int, gt_int, ge_int, Bool.or_false, Bool.or_true, Bool.false_or, Bool.true_or, Bool.and_true, Bool.true_and, Bool.not_true, Bool.not_false, Bool.and_false, Bool.false_and, Option.map_some, reduceCtorEq, and_true, true_and, and_self, f1, List.length_cons, List.length_nil, List.replicate]
  refine ⟨8, rfl, by decide, by decide, by omega, fun r0 _ _ => ?_⟩
  have a1 : binop .add (.int r0) (.int 1) = some (.int (r0 + 1)) := rfl
  simp only [wB, wS, wE, wA, wAnd, wOr, wAndT, wOrT, wP, wI, tru, eQ, exAt_eq, IAs.isNil, List.map_cons, List.map_nil, List.cons_append, List.nil_append, List.getElem?_cons_zero, List.getElem?_cons_succ, List.set_cons_zero, List.set_cons_succ, Bool.false_eq_true, if_false, if_true, if_pos, List.any_cons, List.any_nil, ofO_some, ofO_none, setMany, bindT, D.truth, D.isTy, D.isBox, bi_len_tup, bi_len_list, bi_len_str, bi_tuple_list, bi_tuple_tup, bi_list_list, bi_list_tup, bi_int_int, eq_int, ne_int, lt_int, le_int, gt_int, ge_int, Bool.or_false, Bool.or_true, Bool.false_or, Bool.true_or, Bool.and_true, Bool.true_and, Bool.not_true, Bool.not_false, Bool.and_false, Bool.false_and, Option.map_some, reduceCtorEq, and_true, true_and, and_self, a1]
  refine ⟨5, rfl, by decide, by decide, by omega, fun r1 _ _ => ?_⟩
  have a2 : binop .add (.int (r0 + 1)) (.int r1) = some (.int (r0 + 1 + r1)) := rfl
  simp only [wB, wS, wE, wA, wAnd, wOr, wAndT, wOrT, wP, wI, tru, eQ, exAt_eq, IAs.isNil, List.map_cons, List.map_nil, List.cons_append, List.nil_append, List.getElem?_cons_zero, List.getElem?_cons_succ, List.set_cons_zero, List.set_cons_succ, Bool.false_eq_true, if_false, if_true, if_pos, List.any_cons, List.any_nil, ofO_some, ofO_none, setMany, bindT, D.truth, D.isTy, D.isBox, bi_len_tup, bi_len_list, bi_len_str, bi_tuple_list, bi_tuple_tup, bi_list_list, bi_list_tup, bi_int_int, eq_int, ne_int, lt_int, le_int, gt_int, ge_int, Bool.or_false, Bool.or_true, Bool.false_or, Bool.true_or, Bool.and_true, Bool.true_and, Bool.not_true, Bool.not_false, Bool.and_false, Bool.false_and, Option.map_some, reduceCtorEq, and_true, true_and, and_self, a2]
  refine ⟨4, rfl, by decide, by decide, by omega, fun r2 _ _ => ?_⟩
  have a3 : binop .sub (.int (-1)) (.int r2) = some (.int (-1 - r2)) := rfl
  have a4 : binop .pow (.int 10) (.int 25) = some (.int (10 ^ 25)) := by rfl
  simp only [wB, wS, wE, wA, wAnd, wOr, wAndT, wOrT, wP, wI, tru, eQ, exAt_eq, IAs.isNil, List.map_cons, List.map_nil, List.cons_append, List.nil_append, List.getElem?_cons_zero, List.getElem?_cons_succ, List.set_cons_zero, List.set_cons_succ, Bool.false_eq_true, if_false, if_true, if_pos, List.any_cons, List.any_nil, ofO_some, ofO_none, setMany, bindT, D.truth, D.isTy, D.isBox, bi_len_tup, bi_len_list, bi_len_str, bi_tuple_list, bi_tuple_tup, bi_list_list, bi_list_tup, bi_int_int, eq_int, ne_int, lt_int, le_int, gt_int, ge_int, Bool.or_false, Bool.or_true, Bool.false_or, Bool.true_or, Bool.and_true, Bool.true_and, Bool.not_true, Bool.not_false, Bool.and_false, Bool.false_and, Option.map_some, reduceCtorEq, and_true, true_and, and_self, a3, a4]
  refine ⟨1000, rfl, by decide, by decide, by omega, fun r3 _ _ => ?_⟩
  have a5 : binop .add (.int (10 ^ 25)) (.int r3) = some (.int (10 ^ 25 + r3)) := rfl
  simp only [wB, wS, wE, wA, wAnd, wOr, wAndT, wOrT, wP, wI, tru, eQ, exAt_eq, IAs.isNil, List.map_cons, List.map_nil, List.cons_append, List.nil_append, List.getElem?_cons_zero, List.getElem?_cons_succ, List.set_cons_zero, List.set_cons_succ, Bool.false_eq_true, if_false, if_true, if_pos, List.any_cons, List.any_nil, ofO_some, ofO_none, setMany, bindT, D.truth, D.isTy, D.isBox, bi_len_tup, bi_len_list, bi_len_str, bi_tuple_list, bi_tuple_tup, bi_list_list, bi_list_tup, bi_int_int, eq_int, ne_int, lt_int, le_int, gt_int, ge_int, Bool.or_false, Bool.or_true, Bool.false_or, Bool.true_or, Bool.and_true, Bool.true_and, Bool.not_true, Bool.not_false, Bool.and_false, Bool.false_and, Option.map_some, reduceCtorEq, and_true, true_and, and_self, a5]
  exact ⟨le_size (by omega), q [r0, r0 + 1 + r1, -1 - r2, 10 ^ 25 + r3] rfl⟩
theorem b_law_call {ds : List D} (f2 : T.fs "_law_of" = some fsOf) (h : fsCallG ds n Q E) : wB T ir_law_call (ent0 ["_law_box_here", "_law_book_so", "_law_pool_so", "_law_own", "_law_name_so"] ds) n (eQ Q E) := by
  obtain ⟨fs, ks, is, rfl, l0, l1, ok, li, hn, q⟩ := h
  unfold ir_law_call ent0
  simp only [lbookD, wB, wS, wE, wA, wAnd, wOr, wAndT, wOrT, wP, wI, tru, eQ, exAt_eq, IAs.isNil, List.map_cons, List.map_nil, List.cons_append, List.nil_append, List.getElem?_cons_zero, List.getElem?_cons_succ, List.set_cons_zero, List.set_cons_succ, Bool.false_eq_true, if_false, if_true, if_pos, List.any_cons, List.any_nil, ofO_some, ofO_none, setMany, bindT, D.truth, D.isTy, D.isBox, bi_len_tup, bi_len_list, bi_len_str, bi_tuple_list, bi_tuple_tup, bi_list_list, bi_list_tup, bi_int_int, eq_int, ne_int, lt_int, le_int, gt_int, ge_int, Bool.or_false, Bool.or_true, Bool.false_or, Bool.true_or, Bool.and_true, Bool.true_and, Bool.not_true, Bool.not_false, Bool.and_false, Bool.false_and, Option.map_some, reduceCtorEq, and_true, true_and, and_self, f2, List.length_cons, List.length_nil, List.replicate, ixt1]
  refine ⟨_, ks.map Kd.d, rfl, .inr (.inl rfl), by rw [List.length_map]; exact l0, by rw [List.length_map]; omega, by omega, fun d hd => ?_⟩
  obtain ⟨k, hk, rfl⟩ := List.mem_map.mp hd
  have hp := (ok k hk).len
  simp only [wB, wS, wE, wA, wAnd, wOr, wAndT, wOrT, wP, wI, tru, eQ, exAt_eq, IAs.isNil, List.map_cons, List.map_nil, List.cons_append, List.nil_append, List.getElem?_cons_zero, List.getElem?_cons_succ, List.set_cons_zero, List.set_cons_succ, Bool.false_eq_true, if_false, if_true, if_pos, List.any_cons, List.any_nil, ofO_some, ofO_none, setMany, bindT, D.truth, D.isTy, D.isBox, bi_len_tup, bi_len_list, bi_len_str, bi_tuple_list, bi_tuple_tup, bi_list_list, bi_list_tup, bi_int_int, eq_int, ne_int, lt_int, le_int, gt_int, ge_int, Bool.or_false, Bool.or_true, Bool.false_or, Bool.true_or, Bool.and_true, Bool.true_and, Bool.not_true, Bool.not_false, Bool.and_false, Bool.false_and, Option.map_some, reduceCtorEq, and_true, true_and, and_self, kd_ix0, kd_ix1, itemsD]
  refine ⟨le_size (by omega), ?_⟩
  refine compL_draw (e := D.str) (fun rest acc n2 => ∃ as : List Int, acc = as.map .int ∧ as.length + rest.length = k.ps.length ∧ n2 ≤ n + 1 + as.length) ?_ ?_ k.ps _ _ ⟨[], rfl, by simp, by simp⟩
  · rintro p rest acc n2 ⟨as, rfl, h1, h2⟩ k2 hk2
    rw [List.length_cons] at h1
    refine of_l (by rw [List.length_map]; omega) (by rw [List.length_map]; omega) (by omega) fun v hv => ?_
    obtain ⟨i, _, rfl⟩ := List.mem_map.mp hv
    refine hk2 _ _ ⟨as ++ [i], by simp, ?_, ?_⟩
    · rw [List.length_append, List.length_singleton]; omega
    · rw [List.length_append, List.length_singleton]; omega
  · rintro acc n2 ⟨as, rfl, h1, h2⟩
    rw [List.length_nil] at h1
    rw [add_tup (le_size (by rw [List.length_map]; simp; omega))]
    exact q k hk as _ (by omega) (by omega)
theorem b_law_calls {ds : List D} (f2 : T.fs "_law_call" = some fsCallG) (h : fsCallsG ds n Q E) : wB T ir_law_calls (ent0 ["_law_box_here", "_law_book_so", "_law_pool_so", "_law_many_so", "_law_lap"] ds) n (eQ Q E) := by
  obtain ⟨fs, ks, is, many, rfl, l0, l1, ok, li, lm, hn, q⟩ := h
  unfold ir_law_calls ent0
  simp only [wB, wS, wE, wA, wAnd, wOr, wAndT, wOrT, wP, wI, tru, eQ, exAt_eq, IAs.isNil, List.map_cons, List.map_nil, List.cons_append, List.nil_append, List.getElem?_cons_zero, List.getElem?_cons_succ, List.set_cons_zero, List.set_cons_succ, Bool.false_eq_true, if_false, if_true, if_pos, List.any_cons, List.any_nil, ofO_some, ofO_none, setMany, bindT, D.truth, D.isTy, D.isBox, bi_len_tup, bi_len_list, bi_len_str, bi_tuple_list, bi_tuple_tup, bi_list_list, bi_list_tup, bi_int_int, eq_int, ne_int, lt_int, le_int, gt_int, ge_int, Bool.or_false, Bool.or_true, Bool.false_or, Bool.true_or, Bool.and_true, Bool.true_and, Bool.not_true, Bool.not_false, Bool.and_false, Bool.false_and, Option.map_some, reduceCtorEq, and_true, true_and, and_self, f2, List.length_cons, List.length_nil, List.replicate]
  refine ⟨by omega, by omega, ?_⟩
  refine compL_rule (fun rest acc n2 => ∃ cs : List (Str × List Int), acc = cs.map clD ∧ cs.length + rest.length = many ∧ (∀ c ∈ cs, clOk ks c) ∧ n2 ≤ n + 5 * cs.length) ?_ ?_ _ _ _ ⟨[], rfl, by rw [iota_len]; simp, (fun c hc => by cases hc), by simp⟩
  · rintro d rest acc n2 ⟨cs, rfl, h1, h2, h3⟩ k2 hk2
    rw [List.length_cons] at h1
    refine ⟨fs, ks, is, rfl, l0, l1, ok, li, by omega, fun k hk as n' h4 h5 => hk2 _ _ ⟨cs ++ [(k.nm, as)], by simp, ?_, fun c hc => ?_, ?_⟩⟩
    · rw [List.length_append, List.length_singleton]; omega
    · rcases List.mem_append.mp hc with z | z
      · exact h2 c z
      · rw [List.mem_singleton.mp z]; exact ⟨k, hk, rfl, h4⟩
    · rw [List.length_append, List.length_singleton]; omega
  · rintro acc n2 ⟨cs, rfl, h1, h2, h3⟩
    rw [List.length_nil] at h1
    exact q cs n2 (by omega) h2 (by omega)
theorem filter_one {ks : List Kd} {k : Kd} (h : k ∈ ks) (nd : (ks.map Kd.nm).Nodup) : (ks.filter fun o => o.nm == k.nm) = [k] := by
  induction ks with
  | nil => cases h
  | cons x ks ih =>
    rw [List.map_cons, List.nodup_cons] at nd
    rcases List.mem_cons.mp h with z | z
    · subst z
      rw [List.filter_cons_of_pos (p := fun o : Kd => o.nm == k.nm) (beq_self_eq_true k.nm)]
      congr 1
      rw [List.filter_eq_nil_iff]
      intro o ho hb
      exact nd.1 (List.mem_map.mpr ⟨o, ho, beq_iff_eq.mp hb⟩)
    · have : (x.nm == k.nm) = false := by
        rw [beq_eq_false_iff_ne]
        exact fun e => nd.1 (List.mem_map.mpr ⟨k, z, e.symm⟩)
      rw [List.filter_cons_of_neg (by rw [this]; decide)]
      exact ih z nd.2
theorem b_law_kind_of {ds : List D} (h : fsKindOf ds n Q E) : wB T ir_law_kind_of (ent0 ["_law_book_so", "_law_name_so", "_law_own"] ds) n (eQ Q E) := by
  obtain ⟨fs, ks, k, rfl, hk, nd, q⟩ := h
  unfold ir_law_kind_of ent0
  simp only [lbookD, wB, wS, wE, wA, wAnd, wOr, wAndT, wOrT, wP, wI, tru, eQ, exAt_eq, IAs.isNil, List.map_cons, List.map_nil, List.cons_append, List.nil_append, List.getElem?_cons_zero, List.getElem?_cons_succ, List.set_cons_zero, List.set_cons_succ, Bool.false_eq_true, if_false, if_true, if_pos, List.any_cons, List.any_nil, ofO_some, ofO_none, setMany, bindT, D.truth, D.isTy, D.isBox, bi_len_tup, bi_len_list, bi_len_str, bi_tuple_list, bi_tuple_tup, bi_list_list, bi_list_tup, bi_int_int, eq_int, ne_int, lt_int, le_int, gt_int, ge_int, Bool.or_false, Bool.or_true, Bool.false_or, Bool.true_or, Bool.and_true, Bool.true_and, Bool.not_true, Bool.not_false, Bool.and_false, Bool.false_and, Option.map_some, reduceCtorEq, and_true, true_and, and_self, List.length_cons, List.length_nil, List.replicate, ixt1, itemsD]
  refine compL_flt (p := fun o : Kd => o.nm == k.nm) (g := Kd.d) (fun o ho n c hc => ?_) ?_
  · simp only [wB, wS, wE, wA, wAnd, wOr, wAndT, wOrT, wP, wI, tru, eQ, exAt_eq, IAs.isNil, List.map_cons, List.map_nil, List.cons_append, List.nil_append, List.getElem?_cons_zero, List.getElem?_cons_succ, List.set_cons_zero, List.set_cons_succ, Bool.false_eq_true, if_false, if_true, if_pos, List.any_cons, List.any_nil, ofO_some, ofO_none, setMany, bindT, D.truth, D.isTy, D.isBox, bi_len_tup, bi_len_list, bi_len_str, bi_tuple_list, bi_tuple_tup, bi_list_list, bi_list_tup, bi_int_int, eq_int, ne_int, lt_int, le_int, gt_int, ge_int, Bool.or_false, Bool.or_true, Bool.false_or, Bool.true_or, Bool.and_true, Bool.true_and, Bool.not_true, Bool.not_false, Bool.and_false, Bool.false_and, Option.map_some, reduceCtorEq, and_true, true_and, and_self, kd_ix0, eqw, isW_str]
    exact hc
  · rw [filter_one hk nd]
    simp only [wB, wS, wE, wA, wAnd, wOr, wAndT, wOrT, wP, wI, tru, eQ, exAt_eq, IAs.isNil, List.map_cons, List.map_nil, List.cons_append, List.nil_append, List.getElem?_cons_zero, List.getElem?_cons_succ, List.set_cons_zero, List.set_cons_succ, Bool.false_eq_true, if_false, if_true, if_pos, List.any_cons, List.any_nil, ofO_some, ofO_none, setMany, bindT, D.truth, D.isTy, D.isBox, bi_len_tup, bi_len_list, bi_len_str, bi_tuple_list, bi_tuple_tup, bi_list_list, bi_list_tup, bi_int_int, eq_int, ne_int, lt_int, le_int, gt_int, ge_int, Bool.or_false, Bool.or_true, Bool.false_or, Bool.true_or, Bool.and_true, Bool.true_and, Bool.not_true, Bool.not_false, Bool.and_false, Bool.false_and, Option.map_some, reduceCtorEq, and_true, true_and, and_self]
    have : getI (.list [k.d]) (.int 0) = some k.d := rfl
    rw [this]
    exact q
theorem b_law_says (m : Nat) {ds : List D} (f1 : ∀ j, m = j + 1 → T.fs "_law_says" = some (fsSays j)) (h : fsSays m ds n Q E) : wB T ir_law_says (ent0 ["_law_body_so", "_law_many_so", "_law_lets_so"] ds) n (eQ Q E) := by
  obtain ⟨b, many, lets, rfl, hm, h8, hl, q⟩ := h
  unfold ir_law_says ent0
  have add1 : binop .add (.int (many : Nat)) (.int 1) = some (.int ((many + 1 : Nat) : Int)) := rfl
  have two : ∀ a c : Bd, a.dep ≤ 8 → c.dep ≤ 8 → (∃ j, m = j + 1 ∧ a.dep ≤ j ∧ c.dep ≤ j) → Q (.list ((saysP a (many + 1) lets ++ saysP c (many + 1) lets).map Sy.d)) n →
      wE T (.bin .add (.call "_law_says" (.cons (.k a.d) (.cons (.k (.int ((many + 1 : Nat) : Int))) (.cons (.k (.tup (lets.map .str))) .nil)))) (.call "_law_says" (.cons (.k c.d) (.cons (.k (.int ((many + 1 : Nat) : Int))) (.cons (.k (.tup (lets.map .str))) .nil))))) [] n Q (fun x n => E x n) := by
    rintro a c ha hc ⟨j, rfl, ja, jc⟩ hq
    have fj := f1 j rfl
    simp only [wB, wS, wE, wA, wAnd, wOr, wAndT, wOrT, wP, wI, tru, eQ, exAt_eq, IAs.isNil, List.map_cons, List.map_nil, List.cons_append, List.nil_append, List.getElem?_cons_zero, List.getElem?_cons_succ, List.set_cons_zero, List.set_cons_succ, Bool.false_eq_true, if_false, if_true, if_pos, List.any_cons, List.any_nil, ofO_some, ofO_none, setMany, bindT, D.truth, D.isTy, D.isBox, bi_len_tup, bi_len_list, bi_len_str, bi_tuple_list, bi_tuple_tup, bi_list_list, bi_list_tup, bi_int_int, eq_int, ne_int, lt_int, le_int, gt_int, ge_int, Bool.or_false, Bool.or_true, Bool.false_or, Bool.true_or, Bool.and_true, Bool.true_and, Bool.not_true, Bool.not_false, Bool.and_false, Bool.false_and, Option.map_some, reduceCtorEq, and_true, true_and, and_self, fj]
    refine ⟨a, many + 1, lets, rfl, ja, ha, by omega, ?_⟩
    refine ⟨c, many + 1, lets, rfl, jc, hc, by omega, ?_⟩
    have la := Bd.brs_small ha
    have lc := Bd.brs_small hc
    have ll : ((saysP a (many + 1) lets).map Sy.d).length + ((saysP c (many + 1) lets).map Sy.d).length ≤ sizeLine := le_size (by unfold saysP; simp only [List.length_map]; omega)
    simp only [add_list ll, ofO_some, ← List.map_append]
    exact hq
  cases b with
  | say cs w =>
    simp only [Bd.d, wB, wS, wE, wA, wAnd, wOr, wAndT, wOrT, wP, wI, tru, eQ, exAt_eq, IAs.isNil, List.map_cons, List.map_nil, List.cons_append, List.nil_append, List.getElem?_cons_zero, List.getElem?_cons_succ, List.set_cons_zero, List.set_cons_succ, Bool.false_eq_true, if_false, if_true, if_pos, List.any_cons, List.any_nil, ofO_some, ofO_none, setMany, bindT, D.truth, D.isTy, D.isBox, bi_len_tup, bi_len_list, bi_len_str, bi_tuple_list, bi_tuple_tup, bi_list_list, bi_list_tup, bi_int_int, eq_int, ne_int, lt_int, le_int, gt_int, ge_int, Bool.or_false, Bool.or_true, Bool.false_or, Bool.true_or, Bool.and_true, Bool.true_and, Bool.not_true, Bool.not_false, Bool.and_false, Bool.false_and, Option.map_some, reduceCtorEq, and_true, true_and, and_self, ix0, ix1, ix2, eqw, k_ss, List.length_cons, List.length_nil, List.replicate]
    refine ⟨le_size (by omega), le_size (by omega), ?_⟩
    have e : saysP (.say cs w) many lets = [⟨many + 0, lets ++ [], cs, w⟩] := rfl
    rw [e] at q
    simpa [Sy.d] using q
  | lt x t f a =>
    rw [Bd.dep] at hm h8
    obtain ⟨j, rfl⟩ : ∃ j, m = j + 1 := ⟨m - 1, by omega⟩
    simp only [Bd.d, wB, wS, wE, wA, wAnd, wOr, wAndT, wOrT, wP, wI, tru, eQ, exAt_eq, IAs.isNil, List.map_cons, List.map_nil, List.cons_append, List.nil_append, List.getElem?_cons_zero, List.getElem?_cons_succ, List.set_cons_zero, List.set_cons_succ, Bool.false_eq_true, if_false, if_true, if_pos, List.any_cons, List.any_nil, ofO_some, ofO_none, setMany, bindT, D.truth, D.isTy, D.isBox, bi_len_tup, bi_len_list, bi_len_str, bi_tuple_list, bi_tuple_tup, bi_list_list, bi_list_tup, bi_int_int, eq_int, ne_int, lt_int, le_int, gt_int, ge_int, Bool.or_false, Bool.or_true, Bool.false_or, Bool.true_or, Bool.and_true, Bool.true_and, Bool.not_true, Bool.not_false, Bool.and_false, Bool.false_and, Option.map_some, reduceCtorEq, and_true, true_and, and_self, ix0, ix1, ix4, eqw, k_ls, k_ll, f1 j rfl, add1, List.length_cons, List.length_nil, List.replicate]
    refine ⟨le_size (by omega), ?_⟩
    have ea : binop .add (.tup (lets.map .str)) (.tup [.str x]) = some (.tup ((lets ++ [x]).map .str)) := by
      rw [add_tup (le_size (by rw [List.length_map]; simp; omega))]
      simp
    rw [ea, ofO_some]
    refine ⟨a, many + 1, lets ++ [x], rfl, by omega, by omega, by rw [List.length_append, List.length_singleton]; omega, ?_⟩
    have e : saysP (.lt x t f a) many lets = saysP a (many + 1) (lets ++ [x]) := by
      unfold saysP
      rw [Bd.brs, List.map_map]
      refine List.map_congr_left fun r _ => ?_
      simp only [Function.comp, Sy.mk.injEq, and_true, List.append_assoc, List.singleton_append]
      omega
    rw [e] at q
    exact q
  | has t a c =>
    rw [Bd.dep] at hm h8
    obtain ⟨j, rfl⟩ : ∃ j, m = j + 1 := ⟨m - 1, by omega⟩
    have e : saysP (.has t a c) many lets = saysP a (many + 1) lets ++ saysP c (many + 1) lets := by
      unfold saysP
      rw [Bd.brs, List.map_append, List.map_map, List.map_map]
      congr 1 <;>
      · refine List.map_congr_left fun r _ => ?_
        simp only [Function.comp, Sy.mk.injEq, and_true]
        omega
    rw [e] at q
    have := two a c (by omega) (by omega) ⟨j, rfl, by omega, by omega⟩ q
    simp only [wB, wS, wE, wA, wAnd, wOr, wAndT, wOrT, wP, wI, tru, eQ, exAt_eq, IAs.isNil, List.map_cons, List.map_nil, List.cons_append, List.nil_append, List.getElem?_cons_zero, List.getElem?_cons_succ, List.set_cons_zero, List.set_cons_succ, Bool.false_eq_true, if_false, if_true, if_pos, List.any_cons, List.any_nil, ofO_some, ofO_none, setMany, bindT, D.truth, D.isTy, D.isBox, bi_len_tup, bi_len_list, bi_len_str, bi_tuple_list, bi_tuple_tup, bi_list_list, bi_list_tup, bi_int_int, eq_int, ne_int, lt_int, le_int, gt_int, ge_int, Bool.or_false, Bool.or_true, Bool.false_or, Bool.true_or, Bool.and_true, Bool.true_and, Bool.not_true, Bool.not_false, Bool.and_false, Bool.false_and, Option.map_some, reduceCtorEq, and_true, true_and, and_self] at this
    simp only [Bd.d, wB, wS, wE, wA, wAnd, wOr, wAndT, wOrT, wP, wI, tru, eQ, exAt_eq, IAs.isNil, List.map_cons, List.map_nil, List.cons_append, List.nil_append, List.getElem?_cons_zero, List.getElem?_cons_succ, List.set_cons_zero, List.set_cons_succ, Bool.false_eq_true, if_false, if_true, if_pos, List.any_cons, List.any_nil, ofO_some, ofO_none, setMany, bindT, D.truth, D.isTy, D.isBox, bi_len_tup, bi_len_list, bi_len_str, bi_tuple_list, bi_tuple_tup, bi_list_list, bi_list_tup, bi_int_int, eq_int, ne_int, lt_int, le_int, gt_int, ge_int, Bool.or_false, Bool.or_true, Bool.false_or, Bool.true_or, Bool.and_true, Bool.true_and, Bool.not_true, Bool.not_false, Bool.and_false, Bool.false_and, Option.map_some, reduceCtorEq, and_true, true_and, and_self, ix0, eqw, k_hs, k_hl, ixm1_4, ixm2_4, add1, List.length_cons, List.length_nil, List.replicate]
    exact this
  | is t f v a c =>
    rw [Bd.dep] at hm h8
    obtain ⟨j, rfl⟩ : ∃ j, m = j + 1 := ⟨m - 1, by omega⟩
    have e : saysP (.is t f v a c) many lets = saysP a (many + 1) lets ++ saysP c (many + 1) lets := by
      unfold saysP
      rw [Bd.brs, List.map_append, List.map_map, List.map_map]
      congr 1 <;>
      · refine List.map_congr_left fun r _ => ?_
        simp only [Function.comp, Sy.mk.injEq, and_true]
        omega
    rw [e] at q
    have := two a c (by omega) (by omega) ⟨j, rfl, by omega, by omega⟩ q
    simp only [wB, wS, wE, wA, wAnd, wOr, wAndT, wOrT, wP, wI, tru, eQ, exAt_eq, IAs.isNil, List.map_cons, List.map_nil, List.cons_append, List.nil_append, List.getElem?_cons_zero, List.getElem?_cons_succ, List.set_cons_zero, List.set_cons_succ, Bool.false_eq_true, if_false, if_true, if_pos, List.any_cons, List.any_nil, ofO_some, ofO_none, setMany, bindT, D.truth, D.isTy, D.isBox, bi_len_tup, bi_len_list, bi_len_str, bi_tuple_list, bi_tuple_tup, bi_list_list, bi_list_tup, bi_int_int, eq_int, ne_int, lt_int, le_int, gt_int, ge_int, Bool.or_false, Bool.or_true, Bool.false_or, Bool.true_or, Bool.and_true, Bool.true_and, Bool.not_true, Bool.not_false, Bool.and_false, Bool.false_and, Option.map_some, reduceCtorEq, and_true, true_and, and_self] at this
    simp only [Bd.d, wB, wS, wE, wA, wAnd, wOr, wAndT, wOrT, wP, wI, tru, eQ, exAt_eq, IAs.isNil, List.map_cons, List.map_nil, List.cons_append, List.nil_append, List.getElem?_cons_zero, List.getElem?_cons_succ, List.set_cons_zero, List.set_cons_succ, Bool.false_eq_true, if_false, if_true, if_pos, List.any_cons, List.any_nil, ofO_some, ofO_none, setMany, bindT, D.truth, D.isTy, D.isBox, bi_len_tup, bi_len_list, bi_len_str, bi_tuple_list, bi_tuple_tup, bi_list_list, bi_list_tup, bi_int_int, eq_int, ne_int, lt_int, le_int, gt_int, ge_int, Bool.or_false, Bool.or_true, Bool.false_or, Bool.true_or, Bool.and_true, Bool.true_and, Bool.not_true, Bool.not_false, Bool.and_false, Bool.false_and, Option.map_some, reduceCtorEq, and_true, true_and, and_self, ix0, eqw, k_is, k_il, ixm1_6, ixm2_6, add1, List.length_cons, List.length_nil, List.replicate]
    exact this
end
end Dl

set_option Elab.async false
set_option linter.all false
set_option maxRecDepth 100000
set_option maxHeartbeats 4000000
/-! The law's own functions, further. -/
namespace Dl
open PySem PySem.Spec PyProof.Rows L2
theorem strs_flat (l : List Str) (k : Nat) : (D.tup (l.map .str)).flat (k + 1) = true := tup_flat fun x hx => by
  obtain ⟨z, _, rfl⟩ := List.mem_map.mp hx
  exact str_flat z k
theorem chs_flat4 (cs : List Ch) (k : Nat) : (D.tup (cs.map Ch.d)).flat (k + 3) = true := tup_flat fun x hx => by
  obtain ⟨c, _, rfl⟩ := List.mem_map.mp hx
  exact c.flat k
theorem Sy.flat (s : Sy) : s.d.flat 63 = true := by
  have h1 := strs_flat s.lets 61
  have h2 := chs_flat4 s.cs 59
  rw [Sy.d, D.flat, D.flats, D.flats, D.flats, D.flats, D.flats, D.flat, h1, h2, str_flat]
  rfl
theorem ne_nilF {xs : List D} (h : ∀ x ∈ xs, x.flat 63 = true) : cmpop .ne (.list xs) (.list []) = some (!xs.isEmpty) := by
  have e1 : (D.list xs).flat 64 = true := by rw [D.flat]; exact flats_of h
  rw [ne_flat e1 nil_flat, eqb_nil]
theorem ne_sys (ss : List Sy) : cmpop .ne (.list (ss.map Sy.d)) (.list []) = some (!ss.isEmpty) := by
  rw [ne_nilF fun x hx => by
    obtain ⟨s, _, rfl⟩ := List.mem_map.mp hx
    exact s.flat, List.isEmpty_map]
theorem sy_ix0 (s : Sy) : getI s.d (.int 0) = some (.int s.many) := ix0 _ _
theorem sy_ix2 (s : Sy) : getI s.d (.int 2) = some (.tup (s.cs.map Ch.d)) := ix2 _ _ _ _
theorem sy_ix3 (s : Sy) : getI s.d (.int 3) = some (.str s.w) := ix3 _ _ _ _ _
theorem slc3_4 (a b c d : D) : slcD (.tup [a, b, c, d]) (some 3) none = some (.tup [d]) := rfl
theorem slc3_2 (a b : D) : slcD (.tup [a, b]) (some 3) none = some (.tup []) := rfl
section
variable {T : Tab} {n : Nat} {Q : D → Nat → Prop} {E : QX}
theorem b_law_tells {ds : List D} (h : fsTells ds n Q E) : wB T ir_law_tells (ent0 ["_law_says_so", "_law_many_so", "_law_lets_so", "_law_changes_so", "_law_word_so", "_law_change_so", "_law_bits", "_law_own", "_law_bit"] ds) n (eQ Q E) := by
  obtain ⟨ss, rfl, hs, q⟩ := h
  unfold ir_law_tells ent0
  simp only [wB, wS, wE, wA, wAnd, wOr, wAndT, wOrT, wP, wI, tru, eQ, exAt_eq, IAs.isNil, List.map_cons, List.map_nil, List.cons_append, List.nil_append, List.getElem?_cons_zero, List.getElem?_cons_succ, List.set_cons_zero, List.set_cons_succ, Bool.false_eq_true, if_false, if_true, if_pos, List.any_cons, List.any_nil, ofO_some, ofO_none, setMany, bindT, D.truth, D.isTy, D.isBox, bi_len_tup, bi_len_list, bi_len_str, bi_tuple_list, bi_tuple_tup, bi_list_list, bi_list_tup, bi_int_int, eq_int, ne_int, lt_int, le_int, gt_int, ge_int, Bool.or_false, Bool.or_true, Bool.false_or, Bool.true_or, Bool.and_true, Bool.true_and, Bool.not_true, Bool.not_false, Bool.and_false, Bool.false_and, Option.map_some, reduceCtorEq, and_true, true_and, and_self, List.length_cons, List.length_nil, List.replicate, itemsD]
  refine forL_enc (fun rest r n1 => n1 = n ∧ (∀ s ∈ rest, s ∈ ss) ∧ tellsP ss = (rest.all fun s => (ss.filter fun o => decide (o.w = s.w) && !decide (o.cs = s.cs)).isEmpty && s.cs.all fun c => (c.bits.filter fun t => hasS s.lets t.d).isEmpty) ∧ ∃ x1 x2 x3 x4 x5 x6, r = [.sh (.list (ss.map Sy.d)), x1, x2, x3, x4, x5, x6, .no, .no]) ?_ ?_ ss _ _ ⟨rfl, fun _ h => h, rfl, .no, .no, .no, .no, .no, .no, rfl⟩
  · rintro s rest r n1 ⟨rfl, hin, hp, x1, x2, x3, x4, x5, x6, rfl⟩ c hc
    have hsm := hs s (hin s (List.mem_cons_self ..))
    rw [List.all_cons] at hp
    simp only [Sy.d, wB, wS, wE, wA, wAnd, wOr, wAndT, wOrT, wP, wI, tru, eQ, exAt_eq, IAs.isNil, List.map_cons, List.map_nil, List.cons_append, List.nil_append, List.getElem?_cons_zero, List.getElem?_cons_succ, List.set_cons_zero, List.set_cons_succ, Bool.false_eq_true, if_false, if_true, if_pos, List.any_cons, List.any_nil, ofO_some, ofO_none, setMany, bindT, D.truth, D.isTy, D.isBox, bi_len_tup, bi_len_list, bi_len_str, bi_tuple_list, bi_tuple_tup, bi_list_list, bi_list_tup, bi_int_int, eq_int, ne_int, lt_int, le_int, gt_int, ge_int, Bool.or_false, Bool.or_true, Bool.false_or, Bool.true_or, Bool.and_true, Bool.true_and, Bool.not_true, Bool.not_false, Bool.and_false, Bool.false_and, Option.map_some, reduceCtorEq, and_true, true_and, and_self, itemsD]
    refine compL_flt (e := Sy.d) (p := fun o : Sy => decide (o.w = s.w) && !decide (o.cs = s.cs)) (g := Sy.d) (fun o ho n k hk => ?_) ?_
    · simp only [wB, wS, wE, wA, wAnd, wOr, wAndT, wOrT, wP, wI, tru, eQ, exAt_eq, IAs.isNil, List.map_cons, List.map_nil, List.cons_append, List.nil_append, List.getElem?_cons_zero, List.getElem?_cons_succ, List.set_cons_zero, List.set_cons_succ, Bool.false_eq_true, if_false, if_true, if_pos, List.any_cons, List.any_nil, ofO_some, ofO_none, setMany, bindT, D.truth, D.isTy, D.isBox, bi_len_tup, bi_len_list, bi_len_str, bi_tuple_list, bi_tuple_tup, bi_list_list, bi_list_tup, bi_int_int, eq_int, ne_int, lt_int, le_int, gt_int, ge_int, Bool.or_false, Bool.or_true, Bool.false_or, Bool.true_or, Bool.and_true, Bool.true_and, Bool.not_true, Bool.not_false, Bool.and_false, Bool.false_and, Option.map_some, reduceCtorEq, and_true, true_and, and_self, sy_ix3, sy_ix2, eqw, isW_str, ne_chs]
      by_cases hw : o.w = s.w
      · have e : (o.w == s.w) = true := by rw [hw]; exact beq_self_eq_true _
        rw [e]
        rw [decide_eq_true hw, Bool.true_and] at hk
        simp only [wB, wS, wE, wA, wAnd, wOr, wAndT, wOrT, wP, wI, tru, eQ, exAt_eq, IAs.isNil, List.map_cons, List.map_nil, List.cons_append, List.nil_append, List.getElem?_cons_zero, List.getElem?_cons_succ, List.set_cons_zero, List.set_cons_succ, Bool.false_eq_true, if_false, if_true, if_pos, List.any_cons, List.any_nil, ofO_some, ofO_none, setMany, bindT, D.truth, D.isTy, D.isBox, bi_len_tup, bi_len_list, bi_len_str, bi_tuple_list, bi_tuple_tup, bi_list_list, bi_list_tup, bi_int_int, eq_int, ne_int, lt_int, le_int, gt_int, ge_int, Bool.or_false, Bool.or_true, Bool.false_or, Bool.true_or, Bool.and_true, Bool.true_and, Bool.not_true, Bool.not_false, Bool.and_false, Bool.false_and, Option.map_some, reduceCtorEq, and_true, true_and, and_self]
        exact hk
      · have e : (o.w == s.w) = false := by simpa using hw
        rw [e]
        rw [decide_eq_false hw, Bool.false_and, if_neg (by decide)] at hk
        simp only [wB, wS, wE, wA, wAnd, wOr, wAndT, wOrT, wP, wI, tru, eQ, exAt_eq, IAs.isNil, List.map_cons, List.map_nil, List.cons_append, List.nil_append, List.getElem?_cons_zero, List.getElem?_cons_succ, List.set_cons_zero, List.set_cons_succ, Bool.false_eq_true, if_false, if_true, if_pos, List.any_cons, List.any_nil, ofO_some, ofO_none, setMany, bindT, D.truth, D.isTy, D.isBox, bi_len_tup, bi_len_list, bi_len_str, bi_tuple_list, bi_tuple_tup, bi_list_list, bi_list_tup, bi_int_int, eq_int, ne_int, lt_int, le_int, gt_int, ge_int, Bool.or_false, Bool.or_true, Bool.false_or, Bool.true_or, Bool.and_true, Bool.true_and, Bool.not_true, Bool.not_false, Bool.and_false, Bool.false_and, Option.map_some, reduceCtorEq, and_true, true_and, and_self]
        exact hk
    · simp only [List.nil_append, wB, wS, wE, wA, wAnd, wOr, wAndT, wOrT, wP, wI, tru, eQ, exAt_eq, IAs.isNil, List.map_cons, List.map_nil, List.cons_append, List.nil_append, List.getElem?_cons_zero, List.getElem?_cons_succ, List.set_cons_zero, List.set_cons_succ, Bool.false_eq_true, if_false, if_true, if_pos, List.any_cons, List.any_nil, ofO_some, ofO_none, setMany, bindT, D.truth, D.isTy, D.isBox, bi_len_tup, bi_len_list, bi_len_str, bi_tuple_list, bi_tuple_tup, bi_list_list, bi_list_tup, bi_int_int, eq_int, ne_int, lt_int, le_int, gt_int, ge_int, Bool.or_false, Bool.or_true, Bool.false_or, Bool.true_or, Bool.and_true, Bool.true_and, Bool.not_true, Bool.not_false, Bool.and_false, Bool.false_and, Option.map_some, reduceCtorEq, and_true, true_and, and_self]
      refine ⟨Nat.zero_le _, ?_⟩
      rw [ne_sys]
      cases he : (ss.filter fun o => decide (o.w = s.w) && !decide (o.cs = s.cs)).isEmpty with
      | false =>
        rw [he, Bool.false_and, Bool.false_and] at hp
        rw [hp] at q
        simp only [wB, wS, wE, wA, wAnd, wOr, wAndT, wOrT, wP, wI, tru, eQ, exAt_eq, IAs.isNil, List.map_cons, List.map_nil, List.cons_append, List.nil_append, List.getElem?_cons_zero, List.getElem?_cons_succ, List.set_cons_zero, List.set_cons_succ, Bool.false_eq_true, if_false, if_true, if_pos, List.any_cons, List.any_nil, ofO_some, ofO_none, setMany, bindT, D.truth, D.isTy, D.isBox, bi_len_tup, bi_len_list, bi_len_str, bi_tuple_list, bi_tuple_tup, bi_list_list, bi_list_tup, bi_int_int, eq_int, ne_int, lt_int, le_int, gt_int, ge_int, Bool.or_false, Bool.or_true, Bool.false_or, Bool.true_or, Bool.and_true, Bool.true_and, Bool.not_true, Bool.not_false, Bool.and_false, Bool.false_and, Option.map_some, reduceCtorEq, and_true, true_and, and_self]
        exact q
      | true =>
        rw [he, Bool.true_and] at hp
        simp only [wB, wS, wE, wA, wAnd, wOr, wAndT, wOrT, wP, wI, tru, eQ, exAt_eq, IAs.isNil, List.map_cons, List.map_nil, List.cons_append, List.nil_append, List.getElem?_cons_zero, List.getElem?_cons_succ, List.set_cons_zero, List.set_cons_succ, Bool.false_eq_true, if_false, if_true, if_pos, List.any_cons, List.any_nil, ofO_some, ofO_none, setMany, bindT, D.truth, D.isTy, D.isBox, bi_len_tup, bi_len_list, bi_len_str, bi_tuple_list, bi_tuple_tup, bi_list_list, bi_list_tup, bi_int_int, eq_int, ne_int, lt_int, le_int, gt_int, ge_int, Bool.or_false, Bool.or_true, Bool.false_or, Bool.true_or, Bool.and_true, Bool.true_and, Bool.not_true, Bool.not_false, Bool.and_false, Bool.false_and, Option.map_some, reduceCtorEq, and_true, true_and, and_self, itemsD]
        refine forL_enc (e := Ch.d) (fun rest2 r n2 => n2 = n1 ∧ (∀ c ∈ rest2, c ∈ s.cs) ∧ tellsP ss = ((rest2.all fun c => (c.bits.filter fun t => hasS s.lets t.d).isEmpty) && (rest.all fun s => (ss.filter fun o => decide (o.w = s.w) && !decide (o.cs = s.cs)).isEmpty && s.cs.all fun c => (c.bits.filter fun t => hasS s.lets t.d).isEmpty)) ∧ ∃ x5 x6, r = [.sh (.list (ss.map Sy.d)), .sh (.int s.many), .sh (.tup (s.lets.map .str)), .sh (.tup (s.cs.map Ch.d)), .sh (.str s.w), x5, x6, .no, .no]) ?_ ?_ s.cs _ _ ⟨rfl, fun _ h => h, hp, x5, x6, rfl⟩
        · rintro ch rest2 r n2 ⟨rfl, hin2, hp2, x5, x6, rfl⟩ c2 hc2
          have hb := hsm.2 ch (hin2 ch (List.mem_cons_self ..))
          rw [List.all_cons] at hp2
          have fin : wB T (.cons (.ife (.cmp .ne (.comp (.ex (.v 6)) (.one 8) (.cmp .inn (.v 8) (.v 2)) (.v 8)) (.lst .nil)) (.cons (.ret (.k (.bl false))) .nil) .nil) .nil) [.sh (.list (ss.map Sy.d)), .sh (.int s.many), .sh (.tup (s.lets.map .str)), .sh (.tup (s.cs.map Ch.d)), .sh (.str s.w), .sh ch.d, .sh (.list (ch.bits.map Tm.d)), .no, .no] n2 ⟨c2, Q, fun r n => c r n, c2, fun x r n => E x n⟩ := by
            simp only [wB, wS, wE, wA, wAnd, wOr, wAndT, wOrT, wP, wI, tru, eQ, exAt_eq, IAs.isNil, List.map_cons, List.map_nil, List.cons_append, List.nil_append, List.getElem?_cons_zero, List.getElem?_cons_succ, List.set_cons_zero, List.set_cons_succ, Bool.false_eq_true, if_false, if_true, if_pos, List.any_cons, List.any_nil, ofO_some, ofO_none, setMany, bindT, D.truth, D.isTy, D.isBox, bi_len_tup, bi_len_list, bi_len_str, bi_tuple_list, bi_tuple_tup, bi_list_list, bi_list_tup, bi_int_int, eq_int, ne_int, lt_int, le_int, gt_int, ge_int, Bool.or_false, Bool.or_true, Bool.false_or, Bool.true_or, Bool.and_true, Bool.true_and, Bool.not_true, Bool.not_false, Bool.and_false, Bool.false_and, Option.map_some, reduceCtorEq, and_true, true_and, and_self, itemsD]
            refine compL_flt (e := Tm.d) (p := fun t : Tm => hasS s.lets t.d) (g := Tm.d) (fun t ht n k hk => ?_) ?_
            · simp only [wB, wS, wE, wA, wAnd, wOr, wAndT, wOrT, wP, wI, tru, eQ, exAt_eq, IAs.isNil, List.map_cons, List.map_nil, List.cons_append, List.nil_append, List.getElem?_cons_zero, List.getElem?_cons_succ, List.set_cons_zero, List.set_cons_succ, Bool.false_eq_true, if_false, if_true, if_pos, List.any_cons, List.any_nil, ofO_some, ofO_none, setMany, bindT, D.truth, D.isTy, D.isBox, bi_len_tup, bi_len_list, bi_len_str, bi_tuple_list, bi_tuple_tup, bi_list_list, bi_list_tup, bi_int_int, eq_int, ne_int, lt_int, le_int, gt_int, ge_int, Bool.or_false, Bool.or_true, Bool.false_or, Bool.true_or, Bool.and_true, Bool.true_and, Bool.not_true, Bool.not_false, Bool.and_false, Bool.false_and, Option.map_some, reduceCtorEq, and_true, true_and, and_self, in_strs_tup (tm_nb t)]
              exact hk
            · simp only [List.nil_append, wB, wS, wE, wA, wAnd, wOr, wAndT, wOrT, wP, wI, tru, eQ, exAt_eq, IAs.isNil, List.map_cons, List.map_nil, List.cons_append, List.nil_append, List.getElem?_cons_zero, List.getElem?_cons_succ, List.set_cons_zero, List.set_cons_succ, Bool.false_eq_true, if_false, if_true, if_pos, List.any_cons, List.any_nil, ofO_some, ofO_none, setMany, bindT, D.truth, D.isTy, D.isBox, bi_len_tup, bi_len_list, bi_len_str, bi_tuple_list, bi_tuple_tup, bi_list_list, bi_list_tup, bi_int_int, eq_int, ne_int, lt_int, le_int, gt_int, ge_int, Bool.or_false, Bool.or_true, Bool.false_or, Bool.true_or, Bool.and_true, Bool.true_and, Bool.not_true, Bool.not_false, Bool.and_false, Bool.false_and, Option.map_some, reduceCtorEq, and_true, true_and, and_self]
              refine ⟨Nat.zero_le _, ?_⟩
              rw [ne_nilT]
              cases he2 : (ch.bits.filter fun t => hasS s.lets t.d).isEmpty with
              | false =>
                rw [he2, Bool.false_and, Bool.false_and] at hp2
                rw [hp2] at q
                simp only [wB, wS, wE, wA, wAnd, wOr, wAndT, wOrT, wP, wI, tru, eQ, exAt_eq, IAs.isNil, List.map_cons, List.map_nil, List.cons_append, List.nil_append, List.getElem?_cons_zero, List.getElem?_cons_succ, List.set_cons_zero, List.set_cons_succ, Bool.false_eq_true, if_false, if_true, if_pos, List.any_cons, List.any_nil, ofO_some, ofO_none, setMany, bindT, D.truth, D.isTy, D.isBox, bi_len_tup, bi_len_list, bi_len_str, bi_tuple_list, bi_tuple_tup, bi_list_list, bi_list_tup, bi_int_int, eq_int, ne_int, lt_int, le_int, gt_int, ge_int, Bool.or_false, Bool.or_true, Bool.false_or, Bool.true_or, Bool.and_true, Bool.true_and, Bool.not_true, Bool.not_false, Bool.and_false, Bool.false_and, Option.map_some, reduceCtorEq, and_true, true_and, and_self]
                exact q
              | true =>
                rw [he2, Bool.true_and] at hp2
                simp only [wB, wS, wE, wA, wAnd, wOr, wAndT, wOrT, wP, wI, tru, eQ, exAt_eq, IAs.isNil, List.map_cons, List.map_nil, List.cons_append, List.nil_append, List.getElem?_cons_zero, List.getElem?_cons_succ, List.set_cons_zero, List.set_cons_succ, Bool.false_eq_true, if_false, if_true, if_pos, List.any_cons, List.any_nil, ofO_some, ofO_none, setMany, bindT, D.truth, D.isTy, D.isBox, bi_len_tup, bi_len_list, bi_len_str, bi_tuple_list, bi_tuple_tup, bi_list_list, bi_list_tup, bi_int_int, eq_int, ne_int, lt_int, le_int, gt_int, ge_int, Bool.or_false, Bool.or_true, Bool.false_or, Bool.true_or, Bool.and_true, Bool.true_and, Bool.not_true, Bool.not_false, Bool.and_false, Bool.false_and, Option.map_some, reduceCtorEq, and_true, true_and, and_self]
                exact hc2 _ _ ⟨rfl, fun c hc => hin2 c (List.mem_cons_of_mem _ hc), hp2, _, _, rfl⟩
          simp only [wB, wS, wE, wA, wAnd, wOr, wAndT, wOrT, wP, wI, tru, eQ, exAt_eq, IAs.isNil, List.map_cons, List.map_nil, List.cons_append, List.nil_append, List.getElem?_cons_zero, List.getElem?_cons_succ, List.set_cons_zero, List.set_cons_succ, Bool.false_eq_true, if_false, if_true, if_pos, List.any_cons, List.any_nil, ofO_some, ofO_none, setMany, bindT, D.truth, D.isTy, D.isBox, bi_len_tup, bi_len_list, bi_len_str, bi_tuple_list, bi_tuple_tup, bi_list_list, bi_list_tup, bi_int_int, eq_int, ne_int, lt_int, le_int, gt_int, ge_int, Bool.or_false, Bool.or_true, Bool.false_or, Bool.true_or, Bool.and_true, Bool.true_and, Bool.not_true, Bool.not_false, Bool.and_false, Bool.false_and, Option.map_some, reduceCtorEq, and_true, true_and, and_self, itemsD] at fin
          cases ch with
          | mk k vs =>
            have la : ([k.d] : List D).length + (vs.map Tm.d).length ≤ sizeLine := le_size (by rw [List.length_map, List.length_singleton]; simp only [Ch.bits, List.length_cons] at hb; omega)
            simp only [Ch.d, wB, wS, wE, wA, wAnd, wOr, wAndT, wOrT, wP, wI, tru, eQ, exAt_eq, IAs.isNil, List.map_cons, List.map_nil, List.cons_append, List.nil_append, List.getElem?_cons_zero, List.getElem?_cons_succ, List.set_cons_zero, List.set_cons_succ, Bool.false_eq_true, if_false, if_true, if_pos, List.any_cons, List.any_nil, ofO_some, ofO_none, setMany, bindT, D.truth, D.isTy, D.isBox, bi_len_tup, bi_len_list, bi_len_str, bi_tuple_list, bi_tuple_tup, bi_list_list, bi_list_tup, bi_int_int, eq_int, ne_int, lt_int, le_int, gt_int, ge_int, Bool.or_false, Bool.or_true, Bool.false_or, Bool.true_or, Bool.and_true, Bool.true_and, Bool.not_true, Bool.not_false, Bool.and_false, Bool.false_and, Option.map_some, reduceCtorEq, and_true, true_and, and_self, ix0, ix1, ix2, eqw, k_ms, add_list la]
            exact ⟨le_size (by omega), fin⟩
          | st k f v =>
            have la : ([k.d] : List D).length + ([v.d] : List D).length ≤ sizeLine := le_size (by simp)
            simp only [Ch.d, wB, wS, wE, wA, wAnd, wOr, wAndT, wOrT, wP, wI, tru, eQ, exAt_eq, IAs.isNil, List.map_cons, List.map_nil, List.cons_append, List.nil_append, List.getElem?_cons_zero, List.getElem?_cons_succ, List.set_cons_zero, List.set_cons_succ, Bool.false_eq_true, if_false, if_true, if_pos, List.any_cons, List.any_nil, ofO_some, ofO_none, setMany, bindT, D.truth, D.isTy, D.isBox, bi_len_tup, bi_len_list, bi_len_str, bi_tuple_list, bi_tuple_tup, bi_list_list, bi_list_tup, bi_int_int, eq_int, ne_int, lt_int, le_int, gt_int, ge_int, Bool.or_false, Bool.or_true, Bool.false_or, Bool.true_or, Bool.and_true, Bool.true_and, Bool.not_true, Bool.not_false, Bool.and_false, Bool.false_and, Option.map_some, reduceCtorEq, and_true, true_and, and_self, ix0, ix1, eqw, k_sm, slc3_4, add_list la]
            exact ⟨le_size (by omega), fin⟩
          | dr k =>
            have la : ([k.d] : List D).length + ([] : List D).length ≤ sizeLine := le_size (by simp)
            simp only [Ch.d, wB, wS, wE, wA, wAnd, wOr, wAndT, wOrT, wP, wI, tru, eQ, exAt_eq, IAs.isNil, List.map_cons, List.map_nil, List.cons_append, List.nil_append, List.getElem?_cons_zero, List.getElem?_cons_succ, List.set_cons_zero, List.set_cons_succ, Bool.false_eq_true, if_false, if_true, if_pos, List.any_cons, List.any_nil, ofO_some, ofO_none, setMany, bindT, D.truth, D.isTy, D.isBox, bi_len_tup, bi_len_list, bi_len_str, bi_tuple_list, bi_tuple_tup, bi_list_list, bi_list_tup, bi_int_int, eq_int, ne_int, lt_int, le_int, gt_int, ge_int, Bool.or_false, Bool.or_true, Bool.false_or, Bool.true_or, Bool.and_true, Bool.true_and, Bool.not_true, Bool.not_false, Bool.and_false, Bool.false_and, Option.map_some, reduceCtorEq, and_true, true_and, and_self, ix0, ix1, eqw, k_dm, slc3_2, add_list la]
            exact ⟨le_size (by omega), fin⟩
        · rintro r n2 ⟨rfl, _, hp2, x5, x6, rfl⟩
          rw [List.all_nil, Bool.true_and] at hp2
          exact hc _ _ ⟨rfl, fun s hs => hin s (List.mem_cons_of_mem _ hs), hp2, _, _, _, _, _, _, rfl⟩
  · rintro r n1 ⟨rfl, _, hp, x1, x2, x3, x4, x5, x6, rfl⟩
    rw [List.all_nil] at hp
    rw [hp] at q
    exact q
theorem ln_ix0 (l : Ln) : getI l.d (.int 0) = some l.call := ix0 _ _
theorem ixL {xs : List Ln} {i : Nat} {l : Ln} (h : xs[i]? = some l) : getI (.tup (xs.map Ln.d)) (.int (i : Int)) = some l.d := ix_at (by omega) (by rw [Int.toNat_natCast, List.getElem?_map, h]; rfl)
theorem b_law_due {ds : List D} (f1 : T.fs "_law_kind_of" = some fsKindOf) (f2 : T.fs "_law_says" = some (fsSays 8)) (f3 : T.fs "_law_tells" = some fsTells) (h : fsDue ds n Q E) : wB T ir_law_due (ent0 ["_law_book_so", "_law_lines_so", "_law_found", "_law_hidden", "_law_place", "_law_says_so", "_law_long_so", "_law_own"] ds) n (eQ Q E) := by
  obtain ⟨fs, ks, ls, rfl, ok, hl, ll, q⟩ := h
  unfold ir_law_due ent0
  simp only [wB, wS, wE, wA, wAnd, wOr, wAndT, wOrT, wP, wI, tru, eQ, exAt_eq, IAs.isNil, List.map_cons, List.map_nil, List.cons_append, List.nil_append, List.getElem?_cons_zero, List.getElem?_cons_succ, List.set_cons_zero, List.set_cons_succ, Bool.false_eq_true, if_false, if_true, if_pos, List.any_cons, List.any_nil, ofO_some, ofO_none, setMany, bindT, D.truth, D.isTy, D.isBox, bi_len_tup, bi_len_list, bi_len_str, bi_tuple_list, bi_tuple_tup, bi_list_list, bi_list_tup, bi_int_int, eq_int, ne_int, lt_int, le_int, gt_int, ge_int, Bool.or_false, Bool.or_true, Bool.false_or, Bool.true_or, Bool.and_true, Bool.true_and, Bool.not_true, Bool.not_false, Bool.and_false, Bool.false_and, Option.map_some, reduceCtorEq, and_true, true_and, and_self, List.length_cons, List.length_nil, List.replicate, setManyF, List.length_map]
  refine ⟨le_size (by omega), by omega, by omega, ?_⟩
  refine forL_rule (fun rest r n1 => ∃ (i : Nat) (fl : List Int) (hid : Int) (x4 x5 x6 : Ent), n1 = n ∧ i ≤ ls.length ∧ rest = iotaI i (ls.length - i) ∧ fl ≠ [] ∧ fl.length ≤ i + 1 ∧ bndP ks ls = bndGo ks i (maxL fl) hid (ls.drop i) ∧ r = [.sh (lbookD fs ks), .sh (.tup (ls.map Ln.d)), .ow (.list (fl.map .int)), .sh (.int hid), x4, x5, x6, .no]) ?_ ?_ _ _ _ ⟨0, [0], 0, .no, .no, .no, rfl, Nat.zero_le _, rfl, by simp, by simp, rfl, rfl⟩
  · rintro d rest r n1 ⟨i, fl, hid, x4, x5, x6, rfl, hi, er, hne, hfl, hb, rfl⟩ c hc
    obtain ⟨j, ej⟩ : ∃ j, ls.length - i = j + 1 := by
      cases h : ls.length - i with
      | zero => rw [h] at er; cases er
      | succ j => exact ⟨j, rfl⟩
    rw [ej, iotaI] at er
    obtain ⟨rfl, rfl⟩ := List.cons.inj er
    have hlt : i < ls.length := by omega
    have hgl : ls[i]? = some ls[i] := List.getElem?_eq_getElem hlt
    have hd : ls.drop i = ls[i] :: ls.drop (i + 1) := List.drop_eq_getElem_cons hlt
    generalize ls[i] = l at hgl hd
    obtain ⟨k, hk, en, _⟩ := hl l (List.mem_of_getElem? hgl)
    have kok := ok.ok k hk
    have ek : kOf ks l.nm = some k := by rw [← en]; exact kOf_of hk ok.nd
    simp only [wB, wS, wE, wA, wAnd, wOr, wAndT, wOrT, wP, wI, tru, eQ, exAt_eq, IAs.isNil, List.map_cons, List.map_nil, List.cons_append, List.nil_append, List.getElem?_cons_zero, List.getElem?_cons_succ, List.set_cons_zero, List.set_cons_succ, Bool.false_eq_true, if_false, if_true, if_pos, List.any_cons, List.any_nil, ofO_some, ofO_none, setMany, bindT, D.truth, D.isTy, D.isBox, bi_len_tup, bi_len_list, bi_len_str, bi_tuple_list, bi_tuple_tup, bi_list_list, bi_list_tup, bi_int_int, eq_int, ne_int, lt_int, le_int, gt_int, ge_int, Bool.or_false, Bool.or_true, Bool.false_or, Bool.true_or, Bool.and_true, Bool.true_and, Bool.not_true, Bool.not_false, Bool.and_false, Bool.false_and, Option.map_some, reduceCtorEq, and_true, true_and, and_self, f1, f2, f3, ixL hgl, ln_ix0, call_ix0]
    refine ⟨fs, ks, k, by rw [en], hk, ok.nd, ?_⟩
    simp only [wB, wS, wE, wA, wAnd, wOr, wAndT, wOrT, wP, wI, tru, eQ, exAt_eq, IAs.isNil, List.map_cons, List.map_nil, List.cons_append, List.nil_append, List.getElem?_cons_zero, List.getElem?_cons_succ, List.set_cons_zero, List.set_cons_succ, Bool.false_eq_true, if_false, if_true, if_pos, List.any_cons, List.any_nil, ofO_some, ofO_none, setMany, bindT, D.truth, D.isTy, D.isBox, bi_len_tup, bi_len_list, bi_len_str, bi_tuple_list, bi_tuple_tup, bi_list_list, bi_list_tup, bi_int_int, eq_int, ne_int, lt_int, le_int, gt_int, ge_int, Bool.or_false, Bool.or_true, Bool.false_or, Bool.true_or, Bool.and_true, Bool.true_and, Bool.not_true, Bool.not_false, Bool.and_false, Bool.false_and, Option.map_some, reduceCtorEq, and_true, true_and, and_self, kd_ix2]
    refine ⟨Nat.zero_le _, k.bd, 0, [], rfl, kok.dep, kok.dep, by simp, ?_⟩
    simp only [wB, wS, wE, wA, wAnd, wOr, wAndT, wOrT, wP, wI, tru, eQ, exAt_eq, IAs.isNil, List.map_cons, List.map_nil, List.cons_append, List.nil_append, List.getElem?_cons_zero, List.getElem?_cons_succ, List.set_cons_zero, List.set_cons_succ, Bool.false_eq_true, if_false, if_true, if_pos, List.any_cons, List.any_nil, ofO_some, ofO_none, setMany, bindT, D.truth, D.isTy, D.isBox, bi_len_tup, bi_len_list, bi_len_str, bi_tuple_list, bi_tuple_tup, bi_list_list, bi_list_tup, bi_int_int, eq_int, ne_int, lt_int, le_int, gt_int, ge_int, Bool.or_false, Bool.or_true, Bool.false_or, Bool.true_or, Bool.and_true, Bool.true_and, Bool.not_true, Bool.not_false, Bool.and_false, Bool.false_and, Option.map_some, reduceCtorEq, and_true, true_and, and_self, itemsD]
    refine compL_enc (e := Sy.d) (g := fun s : Sy => .int (s.many : Int)) (fun s hs n k hk => ?_) ?_
    · simp only [wB, wS, wE, wA, wAnd, wOr, wAndT, wOrT, wP, wI, tru, eQ, exAt_eq, IAs.isNil, List.map_cons, List.map_nil, List.cons_append, List.nil_append, List.getElem?_cons_zero, List.getElem?_cons_succ, List.set_cons_zero, List.set_cons_succ, Bool.false_eq_true, if_false, if_true, if_pos, List.any_cons, List.any_nil, ofO_some, ofO_none, setMany, bindT, D.truth, D.isTy, D.isBox, bi_len_tup, bi_len_list, bi_len_str, bi_tuple_list, bi_tuple_tup, bi_list_list, bi_list_tup, bi_int_int, eq_int, ne_int, lt_int, le_int, gt_int, ge_int, Bool.or_false, Bool.or_true, Bool.false_or, Bool.true_or, Bool.and_true, Bool.true_and, Bool.not_true, Bool.not_false, Bool.and_false, Bool.false_and, Option.map_some, reduceCtorEq, and_true, true_and, and_self, sy_ix0]
      exact hk
    · have e : ((saysP k.bd 0 []).map fun s : Sy => D.int (s.many : Int)) = ((saysP k.bd 0 []).map fun s => (s.many : Int)).map .int := by rw [List.map_map]; rfl
      simp only [List.nil_append]
      rw [e, ints_map]
      simp only [wB, wS, wE, wA, wAnd, wOr, wAndT, wOrT, wP, wI, tru, eQ, exAt_eq, IAs.isNil, List.map_cons, List.map_nil, List.cons_append, List.nil_append, List.getElem?_cons_zero, List.getElem?_cons_succ, List.set_cons_zero, List.set_cons_succ, Bool.false_eq_true, if_false, if_true, if_pos, List.any_cons, List.any_nil, ofO_some, ofO_none, setMany, bindT, D.truth, D.isTy, D.isBox, bi_len_tup, bi_len_list, bi_len_str, bi_tuple_list, bi_tuple_tup, bi_list_list, bi_list_tup, bi_int_int, eq_int, ne_int, lt_int, le_int, gt_int, ge_int, Bool.or_false, Bool.or_true, Bool.false_or, Bool.true_or, Bool.and_true, Bool.true_and, Bool.not_true, Bool.not_false, Bool.and_false, Bool.false_and, Option.map_some, reduceCtorEq, and_true, true_and, and_self]
      refine ⟨fun z => k.bd.brs_ne (List.map_eq_nil_iff.mp (List.map_eq_nil_iff.mp z)), ?_⟩
      rw [says_len]
      have a1 : binop .add (.int (i : Nat)) (.int 1) = some (.int ((i : Int) + 1)) := rfl
      have a2 : binop .add (.int 1) (.int (lenP k.bd)) = some (.int (1 + lenP k.bd)) := rfl
      have a3 : binop .add (.int (1 + lenP k.bd)) (.int hid) = some (.int (1 + lenP k.bd + hid)) := rfl
      have a4 : binop .add (.int hid) (.int (lenP k.bd)) = some (.int (hid + lenP k.bd)) := rfl
      simp only [wB, wS, wE, wA, wAnd, wOr, wAndT, wOrT, wP, wI, tru, eQ, exAt_eq, IAs.isNil, List.map_cons, List.map_nil, List.cons_append, List.nil_append, List.getElem?_cons_zero, List.getElem?_cons_succ, List.set_cons_zero, List.set_cons_succ, Bool.false_eq_true, if_false, if_true, if_pos, List.any_cons, List.any_nil, ofO_some, ofO_none, setMany, bindT, D.truth, D.isTy, D.isBox, bi_len_tup, bi_len_list, bi_len_str, bi_tuple_list, bi_tuple_tup, bi_list_list, bi_list_tup, bi_int_int, eq_int, ne_int, lt_int, le_int, gt_int, ge_int, Bool.or_false, Bool.or_true, Bool.false_or, Bool.true_or, Bool.and_true, Bool.true_and, Bool.not_true, Bool.not_false, Bool.and_false, Bool.false_and, Option.map_some, reduceCtorEq, and_true, true_and, and_self, a1, a2, a3, owD]
      refine ⟨by rw [List.length_map]; exact Nat.lt_of_le_of_lt hfl (by have := sizeLine_eq; omega), ?_⟩
      refine ⟨_, rfl, fun s hs => ?_, ?_⟩
      · obtain ⟨r, hr, rfl⟩ := List.mem_map.mp hs
        exact Bd.brs_says kok.sz hr
      rw [hd, bndGo] at hb
      have es : szOf ks l.nm = lenP k.bd := by unfold szOf; rw [ek]
      have et : teOf ks l.nm = tellP k.bd := by unfold teOf; rw [ek]
      rw [es, et] at hb
      rw [tells_eq]
      have nxt : ∀ hid' x4 x5 x6, bndP ks ls = bndGo ks (i + 1) (max (maxL fl) (min ((i : Int) + 1) (1 + lenP k.bd + hid))) hid' (ls.drop (i + 1)) → c [.sh (lbookD fs ks), .sh (.tup (ls.map Ln.d)), .ow (.list (fl.map .int ++ [.int (min ((i : Int) + 1) (1 + lenP k.bd + hid))])), .sh (.int hid'), x4, x5, x6, .no] n1 := fun hid' x4 x5 x6 hb' =>
        hc _ _ ⟨i + 1, fl ++ [min ((i : Int) + 1) (1 + lenP k.bd + hid)], hid', x4, x5, x6, rfl, by omega, by
          have e1 : ls.length - (i + 1) = j := by omega
          rw [e1]
          congr 1, by simp, by rw [List.length_append, List.length_singleton]; omega, by rw [maxL_app _ hne]; exact hb', by simp⟩
      cases ht : tellP k.bd with
      | true =>
        rw [ht, if_pos rfl, Int.add_zero] at hb
        simp only [wB, wS, wE, wA, wAnd, wOr, wAndT, wOrT, wP, wI, tru, eQ, exAt_eq, IAs.isNil, List.map_cons, List.map_nil, List.cons_append, List.nil_append, List.getElem?_cons_zero, List.getElem?_cons_succ, List.set_cons_zero, List.set_cons_succ, Bool.false_eq_true, if_false, if_true, if_pos, List.any_cons, List.any_nil, ofO_some, ofO_none, setMany, bindT, D.truth, D.isTy, D.isBox, bi_len_tup, bi_len_list, bi_len_str, bi_tuple_list, bi_tuple_tup, bi_list_list, bi_list_tup, bi_int_int, eq_int, ne_int, lt_int, le_int, gt_int, ge_int, Bool.or_false, Bool.or_true, Bool.false_or, Bool.true_or, Bool.and_true, Bool.true_and, Bool.not_true, Bool.not_false, Bool.and_false, Bool.false_and, Option.map_some, reduceCtorEq, and_true, true_and, and_self]
        exact nxt _ _ _ _ hb
      | false =>
        rw [ht, if_neg (by decide)] at hb
        simp only [wB, wS, wE, wA, wAnd, wOr, wAndT, wOrT, wP, wI, tru, eQ, exAt_eq, IAs.isNil, List.map_cons, List.map_nil, List.cons_append, List.nil_append, List.getElem?_cons_zero, List.getElem?_cons_succ, List.set_cons_zero, List.set_cons_succ, Bool.false_eq_true, if_false, if_true, if_pos, List.any_cons, List.any_nil, ofO_some, ofO_none, setMany, bindT, D.truth, D.isTy, D.isBox, bi_len_tup, bi_len_list, bi_len_str, bi_tuple_list, bi_tuple_tup, bi_list_list, bi_list_tup, bi_int_int, eq_int, ne_int, lt_int, le_int, gt_int, ge_int, Bool.or_false, Bool.or_true, Bool.false_or, Bool.true_or, Bool.and_true, Bool.true_and, Bool.not_true, Bool.not_false, Bool.and_false, Bool.false_and, Option.map_some, reduceCtorEq, and_true, true_and, and_self, a4]
        exact nxt _ _ _ _ hb
  · rintro r n1 ⟨i, fl, hid, x4, x5, x6, rfl, hi, er, hne, hfl, hb, rfl⟩
    have : ls.length - i = 0 := by
      cases h : ls.length - i with
      | zero => rfl
      | succ j => rw [h, iotaI] at er; cases er
    rw [List.drop_of_length_le (by omega), bndGo] at hb
    simp only [wB, wS, wE, wA, wAnd, wOr, wAndT, wOrT, wP, wI, tru, eQ, exAt_eq, IAs.isNil, List.map_cons, List.map_nil, List.cons_append, List.nil_append, List.getElem?_cons_zero, List.getElem?_cons_succ, List.set_cons_zero, List.set_cons_succ, Bool.false_eq_true, if_false, if_true, if_pos, List.any_cons, List.any_nil, ofO_some, ofO_none, setMany, bindT, D.truth, D.isTy, D.isBox, bi_len_tup, bi_len_list, bi_len_str, bi_tuple_list, bi_tuple_tup, bi_list_list, bi_list_tup, bi_int_int, eq_int, ne_int, lt_int, le_int, gt_int, ge_int, Bool.or_false, Bool.or_true, Bool.false_or, Bool.true_or, Bool.and_true, Bool.true_and, Bool.not_true, Bool.not_false, Bool.and_false, Bool.false_and, Option.map_some, reduceCtorEq, and_true, true_and, and_self, freeze]
    rw [ints_map]
    simp only [wB, wS, wE, wA, wAnd, wOr, wAndT, wOrT, wP, wI, tru, eQ, exAt_eq, IAs.isNil, List.map_cons, List.map_nil, List.cons_append, List.nil_append, List.getElem?_cons_zero, List.getElem?_cons_succ, List.set_cons_zero, List.set_cons_succ, Bool.false_eq_true, if_false, if_true, if_pos, List.any_cons, List.any_nil, ofO_some, ofO_none, setMany, bindT, D.truth, D.isTy, D.isBox, bi_len_tup, bi_len_list, bi_len_str, bi_tuple_list, bi_tuple_tup, bi_list_list, bi_list_tup, bi_int_int, eq_int, ne_int, lt_int, le_int, gt_int, ge_int, Bool.or_false, Bool.or_true, Bool.false_or, Bool.true_or, Bool.and_true, Bool.true_and, Bool.not_true, Bool.not_false, Bool.and_false, Bool.false_and, Option.map_some, reduceCtorEq, and_true, true_and, and_self]
    refine ⟨hne, ?_⟩
    rw [hb] at q
    exact q
end
/-! ### lists for tuples, drawn -/
mutual
def D.nodes : D → Nat
  | .list xs => D.nodesL xs + 1
  | .tup xs => D.nodesL xs + 1
  | _ => 0
def D.nodesL : List D → Nat
  | [] => 0
  | x :: xs => D.nodes x + D.nodesL xs
end
def fsMixed (m : Nat) : FS := fun ds n Q _ => ∃ d, ds = [.box, d] ∧ d.dp m = true ∧ n + d.nodes ≤ B9 ∧ ∀ x n', tupD x = tupD d → x.dp m = true → n' ≤ n + d.nodes → Q x n'
section
variable {T : Tab} {n : Nat} {Q : D → Nat → Prop} {E : QX}
theorem b_law_mixed (m : Nat) {ds : List D} (f0 : T.fs "_law_take" = some fsTake) (f1 : ∀ j, m = j + 1 → T.fs "_law_mixed" = some (fsMixed j)) (h : fsMixed m ds n Q E) : wB T ir_law_mixed (ent0 ["_law_box_here", "_law_matter", "_law_bits", "_law_bit"] ds) n (eQ Q E) := by
  obtain ⟨d, rfl, hd, hn, q⟩ := h
  unfold ir_law_mixed ent0
  simp only [wB, wS, wE, wA, wAnd, wOr, wAndT, wOrT, wP, wI, tru, eQ, exAt_eq, IAs.isNil, List.map_cons, List.map_nil, List.cons_append, List.nil_append, List.getElem?_cons_zero, List.getElem?_cons_succ, List.set_cons_zero, List.set_cons_succ, Bool.false_eq_true, if_false, if_true, if_pos, List.any_cons, List.any_nil, ofO_some, ofO_none, setMany, bindT, D.truth, D.isTy, D.isBox, bi_len_tup, bi_len_list, bi_len_str, bi_tuple_list, bi_tuple_tup, bi_list_list, bi_list_tup, bi_int_int, eq_int, ne_int, lt_int, le_int, gt_int, ge_int, Bool.or_false, Bool.or_true, Bool.false_or, Bool.true_or, Bool.and_true, Bool.true_and, Bool.not_true, Bool.not_false, Bool.and_false, Bool.false_and, Option.map_some, reduceCtorEq, and_true, true_and, and_self, f0, List.length_cons, List.length_nil, List.replicate]
  refine ⟨dp_nb hd, ?_⟩
  have go : ∀ (xs : List D) (y : D) (j : Nat), m = j + 1 → (∀ x ∈ xs, x.dp j = true) → n + (D.nodesL xs + 1) ≤ B9 → (∀ (zs : List D) n', tupsD zs = tupsD xs → (∀ z ∈ zs, z.dp j = true) → n' ≤ n + (D.nodesL xs + 1) → Q (.list zs) n' ∧ Q (.tup zs) n') →
      compL (fun d m k => fsMixed j [.box, d] m (fun y m2 => k (some y) m2) noX) xs [] n fun zs n1 => fsTake [.box, .int 2] n1 (fun x n2 => ofO (cmpop .eq x (.int 0)) fun z => if z = true then Q (.list zs) n2 else Q (.tup zs) n2) (fun x n => E x n) := by
    intro xs y j _ hx hB hq
    refine compL_rule (fun rest acc n2 => ∃ (zs done : List D), acc = zs ∧ xs = done ++ rest ∧ tupsD zs = tupsD done ∧ (∀ z ∈ zs, z.dp j = true) ∧ n2 ≤ n + D.nodesL done) ?_ ?_ xs [] n ⟨[], [], rfl, rfl, rfl, (fun z hz => by cases hz), by simp [D.nodesL]⟩
    · rintro d rest acc n2 ⟨zs, done, rfl, rfl, h1, h2, h3⟩ k hk
      have hnl : ∀ a b : List D, D.nodesL (a ++ b) = D.nodesL a + D.nodesL b := by
        intro a b
        induction a with
        | nil => simp [D.nodesL]
        | cons x a ih => rw [List.cons_append, D.nodesL, D.nodesL, ih]; omega
      have e1 := hnl done (d :: rest)
      rw [D.nodesL] at e1
      refine ⟨d, rfl, hx d (by simp), by omega, fun x n' e2 e3 e4 => hk x n' ⟨_, done ++ [d], rfl, by simp, ?_, fun z hz => ?_, ?_⟩⟩
      · rw [tups_map, tups_map] at h1 ⊢
        rw [List.map_append, List.map_append, h1]
        simp [e2]
      · rcases List.mem_append.mp hz with y | y
        · exact h2 z y
        · rw [List.mem_singleton.mp y]; exact e3
      · rw [hnl, D.nodesL, D.nodesL]
        omega
    · rintro acc n2 ⟨zs, done, rfl, hxs, h1, h2, h3⟩
      rw [List.append_nil] at hxs
      subst hxs
      refine ⟨2, rfl, by decide, by decide, by omega, fun r h0 h1' => ?_⟩
      obtain ⟨q1, q2⟩ := hq acc (n2 + 1) h1 h2 (by omega)
      simp only [wB, wS, wE, wA, wAnd, wOr, wAndT, wOrT, wP, wI, tru, eQ, exAt_eq, IAs.isNil, List.map_cons, List.map_nil, List.cons_append, List.nil_append, List.getElem?_cons_zero, List.getElem?_cons_succ, List.set_cons_zero, List.set_cons_succ, Bool.false_eq_true, if_false, if_true, if_pos, List.any_cons, List.any_nil, ofO_some, ofO_none, setMany, bindT, D.truth, D.isTy, D.isBox, bi_len_tup, bi_len_list, bi_len_str, bi_tuple_list, bi_tuple_tup, bi_list_list, bi_list_tup, bi_int_int, eq_int, ne_int, lt_int, le_int, gt_int, ge_int, Bool.or_false, Bool.or_true, Bool.false_or, Bool.true_or, Bool.and_true, Bool.true_and, Bool.not_true, Bool.not_false, Bool.and_false, Bool.false_and, Option.map_some, reduceCtorEq, and_true, true_and, and_self]
      split
      · exact q1
      · exact q2
  cases d with
  | tup xs =>
    obtain ⟨j, rfl, hx⟩ := dp_tup hd
    rw [D.nodes] at hn q
    simp only [wB, wS, wE, wA, wAnd, wOr, wAndT, wOrT, wP, wI, tru, eQ, exAt_eq, IAs.isNil, List.map_cons, List.map_nil, List.cons_append, List.nil_append, List.getElem?_cons_zero, List.getElem?_cons_succ, List.set_cons_zero, List.set_cons_succ, Bool.false_eq_true, if_false, if_true, if_pos, List.any_cons, List.any_nil, ofO_some, ofO_none, setMany, bindT, D.truth, D.isTy, D.isBox, bi_len_tup, bi_len_list, bi_len_str, bi_tuple_list, bi_tuple_tup, bi_list_list, bi_list_tup, bi_int_int, eq_int, ne_int, lt_int, le_int, gt_int, ge_int, Bool.or_false, Bool.or_true, Bool.false_or, Bool.true_or, Bool.and_true, Bool.true_and, Bool.not_true, Bool.not_false, Bool.and_false, Bool.false_and, Option.map_some, reduceCtorEq, and_true, true_and, and_self, itemsD, f1 j rfl]
    refine go xs (.tup xs) j rfl hx hn fun zs n' h1 h2 h3 => ⟨q _ _ ?_ ?_ h3, q _ _ ?_ ?_ h3⟩
    · rw [tupD, tupD, h1]
    · rw [D.dp]; exact dps_of h2
    · rw [tupD, tupD, h1]
    · rw [D.dp]; exact dps_of h2
  | list xs =>
    obtain ⟨j, rfl, hx⟩ := dp_list hd
    rw [D.nodes] at hn q
    simp only [wB, wS, wE, wA, wAnd, wOr, wAndT, wOrT, wP, wI, tru, eQ, exAt_eq, IAs.isNil, List.map_cons, List.map_nil, List.cons_append, List.nil_append, List.getElem?_cons_zero, List.getElem?_cons_succ, List.set_cons_zero, List.set_cons_succ, Bool.false_eq_true, if_false, if_true, if_pos, List.any_cons, List.any_nil, ofO_some, ofO_none, setMany, bindT, D.truth, D.isTy, D.isBox, bi_len_tup, bi_len_list, bi_len_str, bi_tuple_list, bi_tuple_tup, bi_list_list, bi_list_tup, bi_int_int, eq_int, ne_int, lt_int, le_int, gt_int, ge_int, Bool.or_false, Bool.or_true, Bool.false_or, Bool.true_or, Bool.and_true, Bool.true_and, Bool.not_true, Bool.not_false, Bool.and_false, Bool.false_and, Option.map_some, reduceCtorEq, and_true, true_and, and_self, itemsD, f1 j rfl]
    refine go xs (.list xs) j rfl hx hn fun zs n' h1 h2 h3 => ⟨q _ _ ?_ ?_ h3, q _ _ ?_ ?_ h3⟩
    · rw [tupD, tupD, h1]
    · rw [D.dp]; exact dps_of h2
    · rw [tupD, tupD, h1]
    · rw [D.dp]; exact dps_of h2
  | _ =>
    simp only [wB, wS, wE, wA, wAnd, wOr, wAndT, wOrT, wP, wI, tru, eQ, exAt_eq, IAs.isNil, List.map_cons, List.map_nil, List.cons_append, List.nil_append, List.getElem?_cons_zero, List.getElem?_cons_succ, List.set_cons_zero, List.set_cons_succ, Bool.false_eq_true, if_false, if_true, if_pos, List.any_cons, List.any_nil, ofO_some, ofO_none, setMany, bindT, D.truth, D.isTy, D.isBox, bi_len_tup, bi_len_list, bi_len_str, bi_tuple_list, bi_tuple_tup, bi_list_list, bi_list_tup, bi_int_int, eq_int, ne_int, lt_int, le_int, gt_int, ge_int, Bool.or_false, Bool.or_true, Bool.false_or, Bool.true_or, Bool.and_true, Bool.true_and, Bool.not_true, Bool.not_false, Bool.and_false, Bool.false_and, Option.map_some, reduceCtorEq, and_true, true_and, and_self]
    exact q _ _ rfl hd (by omega)
end
end Dl

set_option Elab.async false
set_option linter.all false
set_option maxRecDepth 100000
set_option maxHeartbeats 4000000
/-! Sameness of numbers; by hand; the law's turns. -/
namespace Dl
open PySem PySem.Spec PyProof.Rows L2
def fsSame0 : FS := fun ds n Q _ => ∃ a b : Int, ds = [.int a, .int b] ∧ Q (.bl (decide (a = b))) n
def fsSame1 : FS := fun ds n Q _ => ∃ xs ys : List Int, ds = [.list (xs.map .int), .list (ys.map .int)] ∧ Q (.bl (decide (xs = ys))) n
def zipI : List Int → List Int → List D
  | x :: xs, y :: ys => .tup [.int x, .int y] :: zipI xs ys
  | _, _ => []
theorem zip_int : ∀ xs ys : List Int, zipD (xs.map .int) (ys.map .int) = zipI xs ys
  | [], _ => rfl
  | _ :: _, [] => rfl
  | x :: xs, y :: ys => by
    show D.tup [.int x, .int y] :: zipD (xs.map .int) (ys.map .int) = _
    rw [zip_int xs ys]
    rfl
def samePairI : D → Bool
  | .tup [.int x, .int y] => decide (x = y)
  | _ => false
theorem zip_allI : ∀ xs ys : List Int, xs.length = ys.length → (zipI xs ys).all samePairI = decide (xs = ys)
  | [], [], _ => rfl
  | x :: xs, y :: ys, h => by
    show (decide (x = y) && (zipI xs ys).all samePairI) = decide (x :: xs = y :: ys)
    rw [zip_allI xs ys (by simpa using h)]
    by_cases e : x = y <;> simp [e]
theorem zip_memI : ∀ {xs ys : List Int} {d : D}, d ∈ zipI xs ys → ∃ a b, d = .tup [.int a, .int b]
  | [], _, _, h => by cases h
  | _ :: _, [], _, h => by cases h
  | x :: xs, y :: ys, d, h => by
    rcases List.mem_cons.mp h with e | e
    · exact ⟨x, y, e⟩
    · exact zip_memI e
theorem ne_bl (a b : Bool) : cmpop .ne (.bl a) (.bl b) = some (!decide (a = b)) := by
  rw [ne_flat (by rw [D.flat]) (by rw [D.flat]), eqb_bl]
theorem is_nonD (x : D) : cmpop .is x .non = some (match x with
  | .non => true
  | _ => false) := by cases x <;> rfl
section
variable {T : Tab} {n : Nat} {Q : D → Nat → Prop} {E : QX}
theorem b_law_same0 {ds : List D} (f1 : T.fs "_law_is_number" = some fsNum) (h : fsSame0 ds n Q E) : wB T ir_law_same (ent0 ["_law_got", "_law_due_here", "_law_key", "_law_mine", "_law_its"] ds) n (eQ Q E) := by
  obtain ⟨a, b, rfl, q⟩ := h
  unfold ir_law_same ent0
  simp only [wB, wS, wE, wA, wAnd, wOr, wAndT, wOrT, wP, wI, tru, eQ, exAt_eq, IAs.isNil, List.map_cons, List.map_nil, List.cons_append, List.nil_append, List.getElem?_cons_zero, List.getElem?_cons_succ, List.set_cons_zero, List.set_cons_succ, Bool.false_eq_true, if_false, if_true, if_pos, List.any_cons, List.any_nil, ofO_some, ofO_none, setMany, bindT, D.truth, D.isTy, D.isBox, bi_len_tup, bi_len_list, bi_len_str, bi_tuple_list, bi_tuple_tup, bi_list_list, bi_list_tup, bi_int_int, eq_int, ne_int, lt_int, le_int, gt_int, ge_int, Bool.or_false, Bool.or_true, Bool.false_or, Bool.true_or, Bool.and_true, Bool.true_and, Bool.not_true, Bool.not_false, Bool.and_false, Bool.false_and, Option.map_some, reduceCtorEq, and_true, true_and, and_self, f1, List.length_cons, List.length_nil, List.replicate, is_nonD]
  refine ⟨_, rfl, rfl, ?_⟩
  have e : isNum (.int a) = true := rfl
  simp only [wB, wS, wE, wA, wAnd, wOr, wAndT, wOrT, wP, wI, tru, eQ, exAt_eq, IAs.isNil, List.map_cons, List.map_nil, List.cons_append, List.nil_append, List.getElem?_cons_zero, List.getElem?_cons_succ, List.set_cons_zero, List.set_cons_succ, Bool.false_eq_true, if_false, if_true, if_pos, List.any_cons, List.any_nil, ofO_some, ofO_none, setMany, bindT, D.truth, D.isTy, D.isBox, bi_len_tup, bi_len_list, bi_len_str, bi_tuple_list, bi_tuple_tup, bi_list_list, bi_list_tup, bi_int_int, eq_int, ne_int, lt_int, le_int, gt_int, ge_int, Bool.or_false, Bool.or_true, Bool.false_or, Bool.true_or, Bool.and_true, Bool.true_and, Bool.not_true, Bool.not_false, Bool.and_false, Bool.false_and, Option.map_some, reduceCtorEq, and_true, true_and, and_self, e]
  have e2 : (a == b) = decide (a = b) := by
    rw [Bool.eq_iff_iff]
    simp
  rw [e2]
  exact q
theorem b_law_same1 {ds : List D} (f1 : T.fs "_law_same" = some fsSame0) (h : fsSame1 ds n Q E) : wB T ir_law_same (ent0 ["_law_got", "_law_due_here", "_law_key", "_law_mine", "_law_its"] ds) n (eQ Q E) := by
  obtain ⟨xs, ys, rfl, q⟩ := h
  unfold ir_law_same ent0
  have t1 : decide (true = true) = true := rfl
  have t2 : decide (false = false) = true := rfl
  simp only [wB, wS, wE, wA, wAnd, wOr, wAndT, wOrT, wP, wI, tru, eQ, exAt_eq, IAs.isNil, List.map_cons, List.map_nil, List.cons_append, List.nil_append, List.getElem?_cons_zero, List.getElem?_cons_succ, List.set_cons_zero, List.set_cons_succ, Bool.false_eq_true, if_false, if_true, if_pos, List.any_cons, List.any_nil, ofO_some, ofO_none, setMany, bindT, D.truth, D.isTy, D.isBox, bi_len_tup, bi_len_list, bi_len_str, bi_tuple_list, bi_tuple_tup, bi_list_list, bi_list_tup, bi_int_int, eq_int, ne_int, lt_int, le_int, gt_int, ge_int, Bool.or_false, Bool.or_true, Bool.false_or, Bool.true_or, Bool.and_true, Bool.true_and, Bool.not_true, Bool.not_false, Bool.and_false, Bool.false_and, Option.map_some, reduceCtorEq, and_true, true_and, and_self, List.length_cons, List.length_nil, List.replicate, ne_bl, List.length_map, f1, zip_int, t1, t2]
  cases h : ((xs.length : Int) == (ys.length : Int)) with
  | false =>
    have e : decide (xs = ys) = false := by
      rw [decide_eq_false_iff_not]
      intro z
      rw [z] at h
      simp at h
    rw [e] at q
    simp only [wB, wS, wE, wA, wAnd, wOr, wAndT, wOrT, wP, wI, tru, eQ, exAt_eq, IAs.isNil, List.map_cons, List.map_nil, List.cons_append, List.nil_append, List.getElem?_cons_zero, List.getElem?_cons_succ, List.set_cons_zero, List.set_cons_succ, Bool.false_eq_true, if_false, if_true, if_pos, List.any_cons, List.any_nil, ofO_some, ofO_none, setMany, bindT, D.truth, D.isTy, D.isBox, bi_len_tup, bi_len_list, bi_len_str, bi_tuple_list, bi_tuple_tup, bi_list_list, bi_list_tup, bi_int_int, eq_int, ne_int, lt_int, le_int, gt_int, ge_int, Bool.or_false, Bool.or_true, Bool.false_or, Bool.true_or, Bool.and_true, Bool.true_and, Bool.not_true, Bool.not_false, Bool.and_false, Bool.false_and, Option.map_some, reduceCtorEq, and_true, true_and, and_self]
    exact q
  | true =>
    rw [beq_iff_eq] at h
    simp only [wB, wS, wE, wA, wAnd, wOr, wAndT, wOrT, wP, wI, tru, eQ, exAt_eq, IAs.isNil, List.map_cons, List.map_nil, List.cons_append, List.nil_append, List.getElem?_cons_zero, List.getElem?_cons_succ, List.set_cons_zero, List.set_cons_succ, Bool.false_eq_true, if_false, if_true, if_pos, List.any_cons, List.any_nil, ofO_some, ofO_none, setMany, bindT, D.truth, D.isTy, D.isBox, bi_len_tup, bi_len_list, bi_len_str, bi_tuple_list, bi_tuple_tup, bi_list_list, bi_list_tup, bi_int_int, eq_int, ne_int, lt_int, le_int, gt_int, ge_int, Bool.or_false, Bool.or_true, Bool.false_or, Bool.true_or, Bool.and_true, Bool.true_and, Bool.not_true, Bool.not_false, Bool.and_false, Bool.false_and, Option.map_some, reduceCtorEq, and_true, true_and, and_self]
    refine all_comp (f := samePairI) (fun d hd n k hk => ?_) (by rw [zip_allI xs ys (by omega)]; exact q)
    obtain ⟨a, b, rfl⟩ := zip_memI hd
    simp only [wB, wS, wE, wA, wAnd, wOr, wAndT, wOrT, wP, wI, tru, eQ, exAt_eq, IAs.isNil, List.map_cons, List.map_nil, List.cons_append, List.nil_append, List.getElem?_cons_zero, List.getElem?_cons_succ, List.set_cons_zero, List.set_cons_succ, Bool.false_eq_true, if_false, if_true, if_pos, List.any_cons, List.any_nil, ofO_some, ofO_none, setMany, bindT, D.truth, D.isTy, D.isBox, bi_len_tup, bi_len_list, bi_len_str, bi_tuple_list, bi_tuple_tup, bi_list_list, bi_list_tup, bi_int_int, eq_int, ne_int, lt_int, le_int, gt_int, ge_int, Bool.or_false, Bool.or_true, Bool.false_or, Bool.true_or, Bool.and_true, Bool.true_and, Bool.not_true, Bool.not_false, Bool.and_false, Bool.false_and, Option.map_some, reduceCtorEq, and_true, true_and, and_self]
    exact ⟨a, b, rfl, hk⟩
end
/-! ### trees are tuples throughout -/
theorem tupD_str (s : Str) : tupD (.str s) = .str s := by rw [tupD]; all_goals (intro xs h; cases h)
theorem tupD_int (i : Int) : tupD (.int i) = .int i := by rw [tupD]; all_goals (intro xs h; cases h)
theorem Tm.tup (t : Tm) : tupD t.d = t.d := by
  cases t with
  | n i => exact tupD_int i
  | s x => exact tupD_str x
theorem tups_id {xs : List D} (h : ∀ x ∈ xs, tupD x = x) : tupsD xs = xs := by
  rw [tups_map]
  exact (List.map_congr_left fun x hx => h x hx).trans (List.map_id _)
theorem tups_enc {α : Type} {e : α → D} (h : ∀ a, tupD (e a) = e a) (xs : List α) : tupD (.tup (xs.map e)) = .tup (xs.map e) := by
  rw [tupD, tups_id fun x hx => by
    obtain ⟨a, _, rfl⟩ := List.mem_map.mp hx
    exact h a]
theorem Ch.tup (c : Ch) : tupD c.d = c.d := by
  cases c <;> simp [Ch.d, tupD, tupsD, Tm.tup, tupD_str, tups_id (xs := List.map Tm.d _) fun x hx => by
    obtain ⟨a, _, rfl⟩ := List.mem_map.mp hx
    exact a.tup]
theorem Bd.tup : ∀ b : Bd, tupD b.d = b.d
  | .say cs w => by rw [Bd.d, tupD, tupsD, tupsD, tupsD, tupsD, tupD_str, tupD_str, tups_enc Ch.tup]
  | .has t a b => by rw [Bd.d, tupD, tupsD, tupsD, tupsD, tupsD, tupsD, tupD_str, Tm.tup, Bd.tup a, Bd.tup b]
  | .is t f v a b => by rw [Bd.d, tupD, tupsD, tupsD, tupsD, tupsD, tupsD, tupsD, tupsD, tupD_str, tupD_str, Tm.tup, Tm.tup, Bd.tup a, Bd.tup b]
  | .lt x t f a => by rw [Bd.d, tupD, tupsD, tupsD, tupsD, tupsD, tupsD, tupsD, tupD_str, tupD_str, tupD_str, Tm.tup, Bd.tup a]
theorem Kd.tup (k : Kd) : tupD k.d = k.d := by
  rw [Kd.d, tupD, tupsD, tupsD, tupsD, tupsD, tupD_str, Bd.tup, tups_enc tupD_str]
theorem Ln.ctup (l : Ln) : tupD l.call = l.call := by
  rw [Ln.call, tupD, tupsD, tupD_str]
  have := tups_id (xs := l.as.map D.int) fun x hx => by
    obtain ⟨a, _, rfl⟩ := List.mem_map.mp hx
    exact tupD_int a
  rw [this]
theorem Ln.tup (l : Ln) : tupD l.d = l.d := by
  rw [Ln.d, tupD, tupsD, tupsD, tupsD, Ln.ctup, tupD_str]
theorem int_dp (i : Int) (k : Nat) : (D.int i).dp k = true := by rw [D.dp]
theorem ints_dps (l : List Int) (k : Nat) : D.dps k (l.map .int) = true := dps_of fun x hx => by
  obtain ⟨t, _, rfl⟩ := List.mem_map.mp hx
  exact int_dp t k
theorem Ln.cdp (l : Ln) (k : Nat) : l.call.dp (k + 1) = true := by
  rw [Ln.call, D.dp, D.dps, str_dp, ints_dps]
  rfl
theorem Ln.dp (l : Ln) (k : Nat) : l.d.dp (k + 2) = true := by
  rw [Ln.d, D.dp, D.dps, D.dps, D.dps, Ln.cdp, str_dp]
  rfl
theorem lns_dp (ls : List Ln) : (D.tup (ls.map Ln.d)).dp 3 = true := by
  rw [D.dp]
  exact dps_of fun x hx => by
    obtain ⟨l, _, rfl⟩ := List.mem_map.mp hx
    exact l.dp 0
theorem mixed_tup (ls : List Ln) : Mixed (.tup (ls.map Ln.d)) ls := by
  refine ⟨ls.map fun l => ⟨true, l.call, l⟩, ?_, .inl ?_, fun z hz => ?_⟩
  · rw [List.map_map]
    exact (List.map_id _).symm
  · rw [List.map_map]
    rfl
  · obtain ⟨l, _, rfl⟩ := List.mem_map.mp hz
    exact ⟨l.cdp 1, l.ctup⟩
theorem tupD_is_str {x : D} {s : Str} (h : tupD x = .str s) : x = .str s := by
  cases x with
  | str y => rw [tupD_str] at h; exact h
  | list xs => rw [tupD] at h; cases h
  | tup xs => rw [tupD] at h; cases h
  | _ => rw [tupD] at h <;> first | (cases h; done) | (intro xs hx; cases hx)
theorem tupD_is_tup {x : D} {ys : List D} (h : tupD x = .tup ys) : ∃ xs, (x = .tup xs ∨ x = .list xs) ∧ xs.map tupD = ys := by
  cases x with
  | list xs => rw [tupD] at h; cases h; exact ⟨xs, .inr rfl, (tups_map xs).symm⟩
  | tup xs => rw [tupD] at h; cases h; exact ⟨xs, .inl rfl, (tups_map xs).symm⟩
  | _ => rw [tupD] at h <;> first | (cases h; done) | (intro xs hx; cases hx)
theorem line_of {x : D} {l : Ln} (h : tupD x = l.d) (hd : x.dp 3 = true) : ∃ z : Mx, z.l = l ∧ x = z.d ∧ z.ok := by
  obtain ⟨xs, hx, e⟩ := tupD_is_tup h
  match xs, e with
  | [c, w], e =>
    have e1 : tupD c = l.call := by simpa using (List.cons.inj e).1
    have e2 : tupD w = .str l.w := by
      have := (List.cons.inj e).2
      simpa using this
    have ew := tupD_is_str e2
    subst ew
    have hc : c.dp 2 = true := by
      rcases hx with rfl | rfl
      · obtain ⟨j, ej, hj⟩ := dp_tup hd
        cases ej
        exact hj c (by simp)
      · obtain ⟨j, ej, hj⟩ := dp_list hd
        cases ej
        exact hj c (by simp)
    rcases hx with rfl | rfl
    · exact ⟨⟨true, c, l⟩, rfl, rfl, hc, e1⟩
    · exact ⟨⟨false, c, l⟩, rfl, rfl, hc, e1⟩
  | [], e => cases e
  | [_], e =>
    have := congrArg List.length e
    simp at this
  | _ :: _ :: _ :: _, e =>
    have := congrArg List.length e
    simp at this
theorem lines_of : ∀ {xs : List D} {ls : List Ln}, xs.map tupD = ls.map Ln.d → (∀ x ∈ xs, x.dp 3 = true) → ∃ zs : List Mx, ls = zs.map Mx.l ∧ xs = zs.map Mx.d ∧ ∀ z ∈ zs, z.ok
  | [], [], _, _ => ⟨[], rfl, rfl, fun z hz => by cases hz⟩
  | [], _ :: _, e, _ => by cases e
  | _ :: _, [], e, _ => by cases e
  | x :: xs, l :: ls, e, h => by
    obtain ⟨e1, e2⟩ := List.cons.inj e
    obtain ⟨z, rfl, rfl, hz⟩ := line_of e1 (h x (List.mem_cons_self ..))
    obtain ⟨zs, rfl, rfl, hzs⟩ := lines_of e2 fun y hy => h y (List.mem_cons_of_mem _ hy)
    exact ⟨z :: zs, rfl, rfl, fun y hy => by
      rcases List.mem_cons.mp hy with q | q
      · rw [q]; exact hz
      · exact hzs y q⟩
theorem mixed_of {x : D} {ls : List Ln} (h : tupD x = .tup (ls.map Ln.d)) (hd : x.dp 4 = true) : Mixed x ls := by
  obtain ⟨xs, hx, e⟩ := tupD_is_tup h
  have hj : ∀ y ∈ xs, y.dp 3 = true := by
    rcases hx with rfl | rfl
    · obtain ⟨j, ej, hj⟩ := dp_tup hd
      cases ej
      exact hj
    · obtain ⟨j, ej, hj⟩ := dp_list hd
      cases ej
      exact hj
  obtain ⟨zs, h1, h2, h3⟩ := lines_of e hj
  subst h2
  exact ⟨zs, h1, hx, h3⟩
theorem lns_nodes : ∀ ls : List Ln, D.nodesL (ls.map Ln.d) ≤ 2 * ls.length
  | [] => by simp [D.nodesL]
  | l :: ls => by
    have ih := lns_nodes ls
    have e0 : ∀ as : List Int, D.nodesL (as.map .int) = 0 := fun as => by
      induction as with
      | nil => rw [List.map_nil, D.nodesL]
      | cons a as ih => rw [List.map_cons, D.nodesL, ih, D.nodes] <;> (try intro xs h; cases h)
    have e1 : l.d.nodes = 2 := by
      rw [Ln.d, D.nodes, D.nodesL, D.nodesL, D.nodesL, Ln.call, D.nodes, D.nodesL, e0]
      rw [D.nodes.eq_3, D.nodes.eq_3] <;> (intro xs h; cases h)
    rw [List.map_cons, D.nodesL, e1, List.length_cons]
    omega
end Dl

set_option Elab.async false
set_option linter.all false
set_option maxRecDepth 100000
set_option maxHeartbeats 4000000
/-! The law's turns; by hand. -/
namespace Dl
open PySem PySem.Spec PyProof.Rows L2
def fsHand : FS := fun ds n Q _ => ds = [] ∧ Q (.bl true) n
def fsRight : FS := fun ds n Q _ => ds = [.box] ∧ n ≤ 1000 ∧ ∀ n', Q (.bl true) n'
def fsMostK : FS := fun ds n Q E => ∃ a b, ds = [a, b] ∧ fsMost [b, a] n Q E
/-! ### trees looked at by a test -/
def Tm.okB (ns : List Str) : Tm → Bool
  | .n _ => true
  | .s x => decide (x ∈ ns)
def Ch.okB (fs ns : List Str) : Ch → Bool
  | .mk k vs => k.okB ns && (decide (vs.length = fs.length) && vs.all (Tm.okB ns))
  | .st k f v => k.okB ns && (decide (f ∈ fs) && v.okB ns)
  | .dr k => k.okB ns
def smallB (cs : List Ch) : Bool := decide (cs.length ≤ 100) && cs.all fun c => decide (c.bits.length ≤ 100)
def Bd.okB (fs : List Str) : List Str → List Tm → Bd → Bool
  | ns, _, .say cs w => cs.all (Ch.okB fs ns) && (nameS w && smallB cs)
  | ns, th, .has t a b => t.okB ns && (a.okB fs ns (th ++ [t]) && b.okB fs ns th)
  | ns, th, .is t f v a b => t.okB ns && (decide (t ∈ th) && (decide (f ∈ fs) && (v.okB ns && (a.okB fs ns th && b.okB fs ns th))))
  | ns, th, .lt x t f a => nameS x && (decide (x ∉ ns) && (t.okB ns && (decide (t ∈ th) && (decide (f ∈ fs) && a.okB fs (ns ++ [x]) th))))
def Kd.okB (fs : List Str) (k : Kd) : Bool := nameS k.nm && (decide (k.ps.length ≤ 2) && (decide k.ps.Nodup && (k.ps.all nameS && (k.bd.okB fs k.ps [] && decide (k.bd.dep ≤ 8)))))
theorem Tm.ok_of {ns : List Str} {t : Tm} (h : t.okB ns = true) : t.ok ns := by
  cases t with
  | n i => trivial
  | s x =>
    have h : decide (x ∈ ns) = true := h
    have h : x ∈ ns := of_decide_eq_true h
    exact h
theorem Ch.ok_of {fs ns : List Str} {c : Ch} (h : c.okB fs ns = true) : c.ok fs ns := by
  cases c with
  | mk k vs =>
    simp only [Ch.okB, Bool.and_eq_true, decide_eq_true_eq, List.all_eq_true] at h
    exact ⟨Tm.ok_of h.1, h.2.1, fun v hv => Tm.ok_of (h.2.2 v hv)⟩
  | st k f v =>
    simp only [Ch.okB, Bool.and_eq_true, decide_eq_true_eq] at h
    exact ⟨Tm.ok_of h.1, h.2.1, Tm.ok_of h.2.2⟩
  | dr k => exact Tm.ok_of h
theorem small_of {cs : List Ch} (h : smallB cs = true) : smallC cs := by
  simp only [smallB, Bool.and_eq_true, decide_eq_true_eq, List.all_eq_true] at h
  exact h
theorem Bd.ok_of {fs : List Str} : ∀ {b : Bd} {ns : List Str} {th : List Tm}, b.okB fs ns th = true → b.ok fs ns th ∧ b.saysAll smallC
  | .say cs w, ns, th, h => by
    simp only [Bd.okB, Bool.and_eq_true, List.all_eq_true] at h
    exact ⟨⟨fun c hc => Ch.ok_of (h.1 c hc), h.2.1⟩, small_of h.2.2⟩
  | .has t a b, ns, th, h => by
    simp only [Bd.okB, Bool.and_eq_true] at h
    obtain ⟨a1, a2⟩ := Bd.ok_of h.2.1
    obtain ⟨b1, b2⟩ := Bd.ok_of h.2.2
    exact ⟨⟨Tm.ok_of h.1, a1, b1⟩, a2, b2⟩
  | .is t f v a b, ns, th, h => by
    simp only [Bd.okB, Bool.and_eq_true, decide_eq_true_eq] at h
    obtain ⟨h1, h2, h3, h4, h5, h6⟩ := h
    obtain ⟨a1, a2⟩ := Bd.ok_of h5
    obtain ⟨b1, b2⟩ := Bd.ok_of h6
    exact ⟨⟨Tm.ok_of h1, h2, h3, Tm.ok_of h4, a1, b1⟩, a2, b2⟩
  | .lt x t f a, ns, th, h => by
    simp only [Bd.okB, Bool.and_eq_true, decide_eq_true_eq] at h
    obtain ⟨h1, h2, h3, h4, h5, h6⟩ := h
    obtain ⟨a1, a2⟩ := Bd.ok_of (b := a) h6
    exact ⟨⟨h1, h2, Tm.ok_of h3, h4, h5, a1⟩, a2⟩
theorem Kd.ok_of {fs : List Str} {k : Kd} (h : k.okB fs = true) : k.ok fs := by
  simp only [Kd.okB, Bool.and_eq_true, decide_eq_true_eq, List.all_eq_true] at h
  obtain ⟨h1, h2, h3, h4, h5, h6⟩ := h
  obtain ⟨b1, b2⟩ := Bd.ok_of h5
  exact ⟨b2, h1, h2, h3, h4, b1, h6⟩
def lnOkB (ks : List Kd) (l : Ln) : Bool := ks.any fun k => decide (k.nm = l.nm) && decide (l.as.length = k.ps.length)
theorem ln_of {ks : List Kd} {l : Ln} (h : lnOkB ks l = true) : l.ok ks := by
  unfold lnOkB at h
  rw [List.any_eq_true] at h
  obtain ⟨k, hk, h⟩ := h
  simp only [Bool.and_eq_true, decide_eq_true_eq] at h
  exact ⟨k, hk, h.1, h.2⟩
/-! ### by hand -/
def kMake : Kd := ⟨"make", ["k"], .has (.s "k") (.say [] "taken") (.say [.mk (.s "k") [.n 0]] "made")⟩
def kLink : Kd := ⟨"link", ["a", "b"], .has (.s "a") (.say [.mk (.s "b") [.n 0]] "ok") (.say [] "ok")⟩
def kCopy : Kd := ⟨"copy", ["a", "b"], .has (.s "a") (.lt "x" (.s "a") "f" (.say [.st (.s "b") "f" (.s "x")] "ok")) (.say [] "no")⟩
def kPlain : Kd := ⟨"plain", [], .say [] "ok"⟩
def kFlip : Kd := ⟨"flip", ["a"], .has (.s "a") (.say [.mk (.s "a") [.n 0], .dr (.s "a")] "ok") (.say [.dr (.s "a"), .mk (.s "a") [.n 0]] "ok")⟩
def hKs : List Kd := [kMake, kLink, kCopy, kPlain]
def lMake : Ln := ⟨"make", [1], "made"⟩
def lLink : Ln := ⟨"link", [1, 2], "ok"⟩
def lCopy : Ln := ⟨"copy", [1, 2], "any"⟩
def lPlain : Ln := ⟨"plain", [], "ok"⟩
def lFlip : Ln := ⟨"flip", [1], "ok"⟩
def hLs : List (List Ln) := [[], [lMake], List.replicate 9 lMake, [lMake, lLink, lMake], List.replicate 5 lLink ++ List.replicate 3 lMake, List.replicate 12 lCopy, [lMake, lCopy, lCopy, lMake, lMake], List.replicate 3 lPlain, List.replicate 2 lLink ++ List.replicate 2 lMake]
theorem hKs_ok : KsOk ["f"] hKs := ⟨fun k hk => Kd.ok_of (by
    have : hKs.all (Kd.okB ["f"]) = true := by decide +kernel
    exact List.all_eq_true.mp this k hk), by decide +kernel, by decide⟩
theorem kFlip_ok : KsOk ["f"] [kFlip] := ⟨fun k hk => Kd.ok_of (by
    have : [kFlip].all (Kd.okB ["f"]) = true := by decide +kernel
    exact List.all_eq_true.mp this k hk), by decide +kernel, by decide⟩
theorem f_ok : FOk ["f"] := ⟨by decide, by decide, by decide, by decide +kernel⟩
theorem hLs_ok : ∀ ls ∈ hLs, ∀ l ∈ ls, l.ok hKs := fun ls hls l hl => ln_of (by
    have : hLs.all (fun ls => ls.all (lnOkB hKs)) = true := by decide +kernel
    exact List.all_eq_true.mp (List.all_eq_true.mp this ls hls) l hl)
theorem hand_is : hLs.map (bndP hKs) ++ [bndP [kFlip] [lFlip, lFlip, lFlip]] = [0, 1, 2, 3, 7, 12, 5, 1, 4, 3] := by decide +kernel
theorem sz0 : (0 ≤ sizeLine) = True := eq_true (le_size (by decide))
theorem sz1 : (0 + 1 ≤ sizeLine) = True := eq_true (le_size (by decide))
theorem sz2 : (0 + 1 + 1 ≤ sizeLine) = True := eq_true (le_size (by decide))
theorem sz3 : (0 + 1 + 1 + 1 ≤ sizeLine) = True := eq_true (le_size (by decide))
theorem sz4 : (0 + 1 + 1 + 1 + 1 ≤ sizeLine) = True := eq_true (le_size (by decide))
theorem sz5 : (0 + 1 + 1 + 1 + 1 + 1 ≤ sizeLine) = True := eq_true (le_size (by decide))
theorem sz6 : (0 + 1 + 1 + 1 + 1 + 1 + 1 ≤ sizeLine) = True := eq_true (le_size (by decide))
theorem sz9 : (0 + 1 + 1 + 1 + 1 + 1 + 1 + 1 + 1 + 1 ≤ sizeLine) = True := eq_true (le_size (by decide))
theorem sz10 : (0 + 1 + 1 + 1 + 1 + 1 + 1 + 1 + 1 + 1 + 1 ≤ sizeLine) = True := eq_true (le_size (by decide))
theorem mul_tup {xs : List D} {j : Int} (h1 : 2 ≤ j) (h2 : j ≤ 1000) (h3 : xs.isEmpty = false) (h4 : xs.length ≤ 1000) : binop .mul (.tup xs) (.int j) = some (.tup (repL xs j.toNat)) := by
  show (if (decide (2 ≤ j) && decide (j ≤ 1000) && !xs.isEmpty && decide (xs.length ≤ 1000)) = true then some (D.tup (repL xs j.toNat)) else none) = _
  rw [if_pos]
  simp [h1, h2, h3, h4]
theorem mul9 (x : D) : binop .mul (.tup [x]) (.int 9) = some (.tup [x, x, x, x, x, x, x, x, x]) := mul_tup (by decide) (by decide) rfl (by simp)
theorem mul5 (x : D) : binop .mul (.tup [x]) (.int 5) = some (.tup [x, x, x, x, x]) := mul_tup (by decide) (by decide) rfl (by simp)
theorem mul3 (x : D) : binop .mul (.tup [x]) (.int 3) = some (.tup [x, x, x]) := mul_tup (by decide) (by decide) rfl (by simp)
theorem mul2 (x : D) : binop .mul (.tup [x]) (.int 2) = some (.tup [x, x]) := mul_tup (by decide) (by decide) rfl (by simp)
theorem mul12 (x : D) : binop .mul (.tup [x]) (.int 12) = some (.tup [x, x, x, x, x, x, x, x, x, x, x, x]) := mul_tup (by decide) (by decide) rfl (by simp)
theorem addT5 (a b c d e f g h : D) : binop .add (.tup [a, b, c, d, e]) (.tup [f, g, h]) = some (.tup [a, b, c, d, e, f, g, h]) := add_tup (le_size (by simp))
theorem addT2 (a b c d : D) : binop .add (.tup [a, b]) (.tup [c, d]) = some (.tup [a, b, c, d]) := add_tup (le_size (by simp))
theorem addL6 (a b c d e f g h i : D) : binop .add (.list [a, b, c, d, e, f]) (.list [g, h, i]) = some (.list [a, b, c, d, e, f, g, h, i]) := add_list (le_size (by simp))
section
variable {T : Tab} {n : Nat} {Q : D → Nat → Prop} {E : QX}
theorem kds_dp14 {fs : List Str} {ks : List Kd} (h : KsOk fs ks) : (D.tup (ks.map Kd.d)).dp 14 = true := by
  rw [D.dp]
  exact kds_dps h.ok
theorem b_law_by_hand {ds : List D} (c1 : T.cl "Book" = some fsBookC) (f1 : T.fs "most_calls" = some fsMost) (f2 : T.fs "_law_same" = some fsSame1) (h : fsHand ds n Q E) :
    wB T ir_law_by_hand_right (ent0 ["_law_make_so", "_law_link_so", "_law_copy_so", "_law_mine", "_law_rows", "_law_flip_so", "_law_flips_so", "_law_told_so", "_law_own"] ds) n (eQ Q E) := by
  obtain ⟨rfl, q⟩ := h
  unfold ir_law_by_hand_right ent0
  simp only [wB, wS, wE, wA, wAnd, wOr, wAndT, wOrT, wP, wI, tru, eQ, exAt_eq, IAs.isNil, List.map_cons, List.map_nil, List.cons_append, List.nil_append, List.getElem?_cons_zero, List.getElem?_cons_succ, List.set_cons_zero, List.set_cons_succ, Bool.false_eq_true, if_false, if_true, if_pos, List.any_cons, List.any_nil, ofO_some, ofO_none, setMany, bindT, D.truth, D.isTy, D.isBox, bi_len_tup, bi_len_list, bi_len_str, bi_tuple_list, bi_tuple_tup, bi_list_list, bi_list_tup, bi_int_int, eq_int, ne_int, lt_int, le_int, gt_int, ge_int, Bool.or_false, Bool.or_true, Bool.false_or, Bool.true_or, Bool.and_true, Bool.true_and, Bool.not_true, Bool.not_false, Bool.and_false, Bool.false_and, Option.map_some, reduceCtorEq, and_true, true_and, and_self, c1, f1, f2, List.length_cons, List.length_nil, List.replicate, sz0, sz1, sz2, sz3, sz4, sz5, sz6]
  refine ⟨["f"], hKs, _, _, rfl, by decide +kernel, rfl, kds_dp14 hKs_ok, tups_enc Kd.tup hKs, f_ok, hKs_ok, ?_⟩
  simp only [wB, wS, wE, wA, wAnd, wOr, wAndT, wOrT, wP, wI, tru, eQ, exAt_eq, IAs.isNil, List.map_cons, List.map_nil, List.cons_append, List.nil_append, List.getElem?_cons_zero, List.getElem?_cons_succ, List.set_cons_zero, List.set_cons_succ, Bool.false_eq_true, if_false, if_true, if_pos, List.any_cons, List.any_nil, ofO_some, ofO_none, setMany, bindT, D.truth, D.isTy, D.isBox, bi_len_tup, bi_len_list, bi_len_str, bi_tuple_list, bi_tuple_tup, bi_list_list, bi_list_tup, bi_int_int, eq_int, ne_int, lt_int, le_int, gt_int, ge_int, Bool.or_false, Bool.or_true, Bool.false_or, Bool.true_or, Bool.and_true, Bool.true_and, Bool.not_true, Bool.not_false, Bool.and_false, Bool.false_and, Option.map_some, reduceCtorEq, and_true, true_and, and_self, c1, f1, f2, List.length_cons, List.length_nil, sz0, sz1, sz2, sz3, sz4, sz5, sz6, mul9, mul5, mul3, mul2, mul12, addT5, addT2, addL6, List.reverse_cons, List.reverse_nil, itemsD]
  show compL _ (hLs.map fun ls => D.tup (ls.map Ln.d)) [] n _
  refine compL_enc (g := fun ls => .int (bndP hKs ls)) (fun ls hls n k hk => ?_) ?_
  · exact ⟨["f"], hKs, ls, _, rfl, mixed_tup ls, hKs_ok, hLs_ok ls hls, hk⟩
  · simp only [List.nil_append]
    refine ⟨["f"], [kFlip], _, _, rfl, by decide +kernel, rfl, kds_dp14 kFlip_ok, tups_enc Kd.tup [kFlip], f_ok, kFlip_ok, ?_⟩
    refine ⟨["f"], [kFlip], [lFlip, lFlip, lFlip], _, rfl, mixed_tup [lFlip, lFlip, lFlip], kFlip_ok, fun l hl => ln_of ?_, ?_⟩
    · have : [lFlip, lFlip, lFlip].all (lnOkB [kFlip]) = true := by decide +kernel
      exact List.all_eq_true.mp this l hl
    · refine ⟨le_size (by decide), ?_⟩
      have e : (hLs.map fun ls => D.int (bndP hKs ls)) = (hLs.map (bndP hKs)).map .int := by rw [List.map_map]; rfl
      rw [e]
      refine ⟨hLs.map (bndP hKs) ++ [bndP [kFlip] [lFlip, lFlip, lFlip]], [0, 1, 2, 3, 7, 12, 5, 1, 4, 3], ?_, ?_⟩
      · rw [List.map_append]
        rfl
      · rw [hand_is]
        exact q
theorem b_law_right {ds : List D} (c1 : T.cl "Book" = some fsBookC) (f1 : T.fs "most_calls" = some fsMost) (f2 : T.fs "_law_same" = some fsSame1) (f3 : T.fs "_law_by_hand_right" = some fsHand) (f4 : T.fs "_law_names" = some fsNamesG) (f5 : T.fs "_law_take" = some fsTake) (f6 : T.fs "_law_kind" = some fsKindG) (f7 : T.fs "_law_calls" = some fsCallsG) (f8 : T.fs "_law_pool" = some fsPool) (f9 : T.fs "_law_of" = some fsOf) (f10 : T.fs "_law_due" = some fsDue) (f11 : T.fs "_law_mixed" = some (fsMixed 4)) (k1 : T.kw "most_calls" ["lines", "book"] = some fsMostK) (h : fsRight ds n Q E) :
    wB T ir_law_right (ent0 ["_law_box_here", "_law_turn", "_law_fields_so", "_law_words_so", "_law_kinds_so", "_law_name_so", "_law_book_so", "_law_calls_so", "_law_lines_so", "_law_mine", "_law_due_here", "_law_call_so"] ds) n (eQ Q E) := by
  obtain ⟨rfl, hn, q⟩ := h
  have hB : B9 = 1000000000 := rfl
  unfold ir_law_right ent0
  simp only [wB, wS, wE, wA, wAnd, wOr, wAndT, wOrT, wP, wI, tru, eQ, exAt_eq, IAs.isNil, List.map_cons, List.map_nil, List.cons_append, List.nil_append, List.getElem?_cons_zero, List.getElem?_cons_succ, List.set_cons_zero, List.set_cons_succ, Bool.false_eq_true, if_false, if_true, if_pos, List.any_cons, List.any_nil, ofO_some, ofO_none, setMany, bindT, D.truth, D.isTy, D.isBox, bi_len_tup, bi_len_list, bi_len_str, bi_tuple_list, bi_tuple_tup, bi_list_list, bi_list_tup, bi_int_int, eq_int, ne_int, lt_int, le_int, gt_int, ge_int, Bool.or_false, Bool.or_true, Bool.false_or, Bool.true_or, Bool.and_true, Bool.true_and, Bool.not_true, Bool.not_false, Bool.and_false, Bool.false_and, Option.map_some, reduceCtorEq, and_true, true_and, and_self, f3, List.length_cons, List.length_nil, List.replicate]
  refine ⟨rfl, ?_⟩
  simp only [wB, wS, wE, wA, wAnd, wOr, wAndT, wOrT, wP, wI, tru, eQ, exAt_eq, IAs.isNil, List.map_cons, List.map_nil, List.cons_append, List.nil_append, List.getElem?_cons_zero, List.getElem?_cons_succ, List.set_cons_zero, List.set_cons_succ, Bool.false_eq_true, if_false, if_true, if_pos, List.any_cons, List.any_nil, ofO_some, ofO_none, setMany, bindT, D.truth, D.isTy, D.isBox, bi_len_tup, bi_len_list, bi_len_str, bi_tuple_list, bi_tuple_tup, bi_list_list, bi_list_tup, bi_int_int, eq_int, ne_int, lt_int, le_int, gt_int, ge_int, Bool.or_false, Bool.or_true, Bool.false_or, Bool.true_or, Bool.and_true, Bool.true_and, Bool.not_true, Bool.not_false, Bool.and_false, Bool.false_and, Option.map_some, reduceCtorEq, and_true, true_and, and_self]
  refine ⟨by decide, by decide, ?_⟩
  refine forL_rule (fun rest r n1 => n1 + 30000 * rest.length ≤ 1000 + 30000 * 4 ∧ ∃ x1 x2 x3 x4 x5 x6 x7 x8 x9 x10, r = [.sh .box, x1, x2, x3, x4, x5, x6, x7, x8, x9, x10, .no]) ?_ ?_ _ _ _ ⟨by rw [iota_len]; show n + 30000 * 4 ≤ _; omega, .no, .no, .no, .no, .no, .no, .no, .no, .no, .no, rfl⟩
  · rintro d rest r n1 ⟨hb, x1, x2, x3, x4, x5, x6, x7, x8, x9, x10, rfl⟩ c hc
    rw [List.length_cons] at hb
    simp only [wB, wS, wE, wA, wAnd, wOr, wAndT, wOrT, wP, wI, tru, eQ, exAt_eq, IAs.isNil, List.map_cons, List.map_nil, List.cons_append, List.nil_append, List.getElem?_cons_zero, List.getElem?_cons_succ, List.set_cons_zero, List.set_cons_succ, Bool.false_eq_true, if_false, if_true, if_pos, List.any_cons, List.any_nil, ofO_some, ofO_none, setMany, bindT, D.truth, D.isTy, D.isBox, bi_len_tup, bi_len_list, bi_len_str, bi_tuple_list, bi_tuple_tup, bi_list_list, bi_list_tup, bi_int_int, eq_int, ne_int, lt_int, le_int, gt_int, ge_int, Bool.or_false, Bool.or_true, Bool.false_or, Bool.true_or, Bool.and_true, Bool.true_and, Bool.not_true, Bool.not_false, Bool.and_false, Bool.false_and, Option.map_some, reduceCtorEq, and_true, true_and, and_self, f4, f5]
    refine ⟨2, rfl, by decide, by decide, by omega, fun r h0 h1 => ?_⟩
    obtain ⟨m, rfl⟩ : ∃ m : Nat, r = m := ⟨r.toNat, by omega⟩
    have e1 : binop .add (.int 1) (.int (m : Int)) = some (.int ((1 + m : Nat) : Int)) := by
      show some (D.int (1 + (m : Int))) = _
      congr 2
    simp only [wB, wS, wE, wA, wAnd, wOr, wAndT, wOrT, wP, wI, tru, eQ, exAt_eq, IAs.isNil, List.map_cons, List.map_nil, List.cons_append, List.nil_append, List.getElem?_cons_zero, List.getElem?_cons_succ, List.set_cons_zero, List.set_cons_succ, Bool.false_eq_true, if_false, if_true, if_pos, List.any_cons, List.any_nil, ofO_some, ofO_none, setMany, bindT, D.truth, D.isTy, D.isBox, bi_len_tup, bi_len_list, bi_len_str, bi_tuple_list, bi_tuple_tup, bi_list_list, bi_list_tup, bi_int_int, eq_int, ne_int, lt_int, le_int, gt_int, ge_int, Bool.or_false, Bool.or_true, Bool.false_or, Bool.true_or, Bool.and_true, Bool.true_and, Bool.not_true, Bool.not_false, Bool.and_false, Bool.false_and, Option.map_some, reduceCtorEq, and_true, true_and, and_self, e1]
    refine ⟨1 + m, rfl, by omega, by omega, fun fs n2 lf ndf nmf hn2 => ?_⟩
    simp only [wB, wS, wE, wA, wAnd, wOr, wAndT, wOrT, wP, wI, tru, eQ, exAt_eq, IAs.isNil, List.map_cons, List.map_nil, List.cons_append, List.nil_append, List.getElem?_cons_zero, List.getElem?_cons_succ, List.set_cons_zero, List.set_cons_succ, Bool.false_eq_true, if_false, if_true, if_pos, List.any_cons, List.any_nil, ofO_some, ofO_none, setMany, bindT, D.truth, D.isTy, D.isBox, bi_len_tup, bi_len_list, bi_len_str, bi_tuple_list, bi_tuple_tup, bi_list_list, bi_list_tup, bi_int_int, eq_int, ne_int, lt_int, le_int, gt_int, ge_int, Bool.or_false, Bool.or_true, Bool.false_or, Bool.true_or, Bool.and_true, Bool.true_and, Bool.not_true, Bool.not_false, Bool.and_false, Bool.false_and, Option.map_some, reduceCtorEq, and_true, true_and, and_self]
    refine ⟨3, rfl, by omega, by omega, fun ws n3 lw ndw nmw hn3 => ?_⟩
    simp only [wB, wS, wE, wA, wAnd, wOr, wAndT, wOrT, wP, wI, tru, eQ, exAt_eq, IAs.isNil, List.map_cons, List.map_nil, List.cons_append, List.nil_append, List.getElem?_cons_zero, List.getElem?_cons_succ, List.set_cons_zero, List.set_cons_succ, Bool.false_eq_true, if_false, if_true, if_pos, List.any_cons, List.any_nil, ofO_some, ofO_none, setMany, bindT, D.truth, D.isTy, D.isBox, bi_len_tup, bi_len_list, bi_len_str, bi_tuple_list, bi_tuple_tup, bi_list_list, bi_list_tup, bi_int_int, eq_int, ne_int, lt_int, le_int, gt_int, ge_int, Bool.or_false, Bool.or_true, Bool.false_or, Bool.true_or, Bool.and_true, Bool.true_and, Bool.not_true, Bool.not_false, Bool.and_false, Bool.false_and, Option.map_some, reduceCtorEq, and_true, true_and, and_self, setManyF]
    refine ⟨Nat.zero_le _, ?_⟩
    refine ⟨4, rfl, by omega, by omega, fun ys n4 ly ndy nmy hn4 => ?_⟩
    have fok : FOk fs := ⟨by omega, by omega, ndf, nmf⟩
    simp only [wB, wS, wE, wA, wAnd, wOr, wAndT, wOrT, wP, wI, tru, eQ, exAt_eq, IAs.isNil, List.map_cons, List.map_nil, List.cons_append, List.nil_append, List.getElem?_cons_zero, List.getElem?_cons_succ, List.set_cons_zero, List.set_cons_succ, Bool.false_eq_true, if_false, if_true, if_pos, List.any_cons, List.any_nil, ofO_some, ofO_none, setMany, bindT, D.truth, D.isTy, D.isBox, bi_len_tup, bi_len_list, bi_len_str, bi_tuple_list, bi_tuple_tup, bi_list_list, bi_list_tup, bi_int_int, eq_int, ne_int, lt_int, le_int, gt_int, ge_int, Bool.or_false, Bool.or_true, Bool.false_or, Bool.true_or, Bool.and_true, Bool.true_and, Bool.not_true, Bool.not_false, Bool.and_false, Bool.false_and, Option.map_some, reduceCtorEq, and_true, true_and, and_self, itemsD]
    refine forL_enc (e := D.str) (fun rest2 r n5 => ∃ ks : List Kd, ks.map Kd.nm ++ rest2 = ys ∧ (∀ k ∈ ks, Kd.ok fs k) ∧ n5 ≤ n4 + 5001 * ks.length ∧ ∃ x5, r = [.sh .box, .sh d, .sh (.tup (fs.map .str)), .sh (.list (ws.map .str)), .ow (.list (ks.map Kd.d)), x5, x6, x7, x8, x9, x10, .no]) ?_ ?_ ys _ _ ⟨[], rfl, (fun k hk => by cases hk), by simp, x5, rfl⟩
    · rintro y rest2 r n5 ⟨ks, hks, hok, hn5, x5, rfl⟩ c2 hc2
      have lk : ks.length ≤ 4 := by
        have := congrArg List.length hks
        rw [List.length_append, List.length_map] at this
        omega
      simp only [wB, wS, wE, wA, wAnd, wOr, wAndT, wOrT, wP, wI, tru, eQ, exAt_eq, IAs.isNil, List.map_cons, List.map_nil, List.cons_append, List.nil_append, List.getElem?_cons_zero, List.getElem?_cons_succ, List.set_cons_zero, List.set_cons_succ, Bool.false_eq_true, if_false, if_true, if_pos, List.any_cons, List.any_nil, ofO_some, ofO_none, setMany, bindT, D.truth, D.isTy, D.isBox, bi_len_tup, bi_len_list, bi_len_str, bi_tuple_list, bi_tuple_tup, bi_list_list, bi_list_tup, bi_int_int, eq_int, ne_int, lt_int, le_int, gt_int, ge_int, Bool.or_false, Bool.or_true, Bool.false_or, Bool.true_or, Bool.and_true, Bool.true_and, Bool.not_true, Bool.not_false, Bool.and_false, Bool.false_and, Option.map_some, reduceCtorEq, and_true, true_and, and_self, owD, f5, f6]
      refine ⟨le_size (by omega), 3, rfl, by decide, by decide, by omega, fun r h0 h1 => ?_⟩
      obtain ⟨p, rfl⟩ : ∃ p : Nat, r = p := ⟨r.toNat, by omega⟩
      have es : slcD (.list [.int 0, .int 7]) none (some (p : Int)) = some (.list ((([0, 7] : List Int).take p).map .int)) := by
        show some (D.list (cutD _ none (some (p : Int)))) = _
        rw [cut_take, List.map_take]
        rfl
      simp only [wB, wS, wE, wA, wAnd, wOr, wAndT, wOrT, wP, wI, tru, eQ, exAt_eq, IAs.isNil, List.map_cons, List.map_nil, List.cons_append, List.nil_append, List.getElem?_cons_zero, List.getElem?_cons_succ, List.set_cons_zero, List.set_cons_succ, Bool.false_eq_true, if_false, if_true, if_pos, List.any_cons, List.any_nil, ofO_some, ofO_none, setMany, bindT, D.truth, D.isTy, D.isBox, bi_len_tup, bi_len_list, bi_len_str, bi_tuple_list, bi_tuple_tup, bi_list_list, bi_list_tup, bi_int_int, eq_int, ne_int, lt_int, le_int, gt_int, ge_int, Bool.or_false, Bool.or_true, Bool.false_or, Bool.true_or, Bool.and_true, Bool.true_and, Bool.not_true, Bool.not_false, Bool.and_false, Bool.false_and, Option.map_some, reduceCtorEq, and_true, true_and, and_self, es]
      refine ⟨fs, y, ws, ([0, 7] : List Int).take p, 1, rfl, by omega, fok.pos, fok.len, by omega, by omega, nmw, nmy y (by rw [← hks]; simp), by rw [List.length_take]; simp; omega, by omega, fun k n6 hk1 hk2 hn6 => ?_⟩
      refine ⟨by rw [List.length_map]; have := sizeLine_eq; omega, ?_⟩
      refine hc2 _ _ ⟨ks ++ [k], by rw [List.map_append, ← hks]; simp [hk2], fun o ho => ?_, by rw [List.length_append, List.length_singleton]; omega, .sh (.str y), by simp⟩
      rcases List.mem_append.mp ho with z | z
      · exact hok o z
      · rw [List.mem_singleton.mp z]; exact hk1
    · rintro r n5 ⟨ks, hks, hok, hn5, x5, rfl⟩
      rw [List.append_nil] at hks
      have lk : ks.length = 4 := by
        have := congrArg List.length hks
        rw [List.length_map] at this
        omega
      have kok : KsOk fs ks := ⟨hok, by rw [hks]; exact ndy, by omega⟩
      simp only [wB, wS, wE, wA, wAnd, wOr, wAndT, wOrT, wP, wI, tru, eQ, exAt_eq, IAs.isNil, List.map_cons, List.map_nil, List.cons_append, List.nil_append, List.getElem?_cons_zero, List.getElem?_cons_succ, List.set_cons_zero, List.set_cons_succ, Bool.false_eq_true, if_false, if_true, if_pos, List.any_cons, List.any_nil, ofO_some, ofO_none, setMany, bindT, D.truth, D.isTy, D.isBox, bi_len_tup, bi_len_list, bi_len_str, bi_tuple_list, bi_tuple_tup, bi_list_list, bi_list_tup, bi_int_int, eq_int, ne_int, lt_int, le_int, gt_int, ge_int, Bool.or_false, Bool.or_true, Bool.false_or, Bool.true_or, Bool.and_true, Bool.true_and, Bool.not_true, Bool.not_false, Bool.and_false, Bool.false_and, Option.map_some, reduceCtorEq, and_true, true_and, and_self, freeze, f5, f7, f8]
      refine ⟨le_size (by omega), rfl, by omega, fun is lis => ?_⟩
      refine ⟨13, rfl, by decide, by decide, by omega, fun r h0 h1 => ?_⟩
      obtain ⟨p, rfl⟩ : ∃ p : Nat, r = p := ⟨r.toNat, by omega⟩
      refine ⟨fs, ks, is, p, rfl, by omega, by omega, hok, lis, by omega, by omega, fun cs n6 lcs hcs hn6 => ?_⟩
      simp only [wB, wS, wE, wA, wAnd, wOr, wAndT, wOrT, wP, wI, tru, eQ, exAt_eq, IAs.isNil, List.map_cons, List.map_nil, List.cons_append, List.nil_append, List.getElem?_cons_zero, List.getElem?_cons_succ, List.set_cons_zero, List.set_cons_succ, Bool.false_eq_true, if_false, if_true, if_pos, List.any_cons, List.any_nil, ofO_some, ofO_none, setMany, bindT, D.truth, D.isTy, D.isBox, bi_len_tup, bi_len_list, bi_len_str, bi_tuple_list, bi_tuple_tup, bi_list_list, bi_list_tup, bi_int_int, eq_int, ne_int, lt_int, le_int, gt_int, ge_int, Bool.or_false, Bool.or_true, Bool.false_or, Bool.true_or, Bool.and_true, Bool.true_and, Bool.not_true, Bool.not_false, Bool.and_false, Bool.false_and, Option.map_some, reduceCtorEq, and_true, true_and, and_self, itemsD, f9]
      refine compL_draw (e := clD) (fun rest3 acc n7 => ∃ ls : List Ln, acc = ls.map Ln.d ∧ ls.length + rest3.length = p ∧ (∀ l ∈ ls, l.ok ks) ∧ (∀ c ∈ rest3, clOk ks c) ∧ n7 ≤ n6 + ls.length) ?_ ?_ cs _ _ ⟨[], rfl, by simp; omega, (fun l hl => by cases hl), hcs, by simp⟩
      · rintro cl rest3 acc n7 ⟨ls, rfl, h1, h2, h3, h4⟩ k hk
        rw [List.length_cons] at h1
        refine of_ws (by omega) (by omega) (by omega) fun w hw => ⟨le_size (by omega), hk _ _ ⟨ls ++ [⟨cl.1, cl.2, w⟩], by simp [Ln.d, Ln.call, clD], ?_, fun l hl => ?_, fun c hc => h3 c (List.mem_cons_of_mem _ hc), ?_⟩⟩
        · rw [List.length_append, List.length_singleton]; omega
        · rcases List.mem_append.mp hl with z | z
          · exact h2 l z
          · rw [List.mem_singleton.mp z]
            exact h3 cl (List.mem_cons_self ..)
        · rw [List.length_append, List.length_singleton]; omega
      · rintro acc n7 ⟨ls, rfl, h1, h2, _, h4⟩
        rw [List.length_nil] at h1
        simp only [wB, wS, wE, wA, wAnd, wOr, wAndT, wOrT, wP, wI, tru, eQ, exAt_eq, IAs.isNil, List.map_cons, List.map_nil, List.cons_append, List.nil_append, List.getElem?_cons_zero, List.getElem?_cons_succ, List.set_cons_zero, List.set_cons_succ, Bool.false_eq_true, if_false, if_true, if_pos, List.any_cons, List.any_nil, ofO_some, ofO_none, setMany, bindT, D.truth, D.isTy, D.isBox, bi_len_tup, bi_len_list, bi_len_str, bi_tuple_list, bi_tuple_tup, bi_list_list, bi_list_tup, bi_int_int, eq_int, ne_int, lt_int, le_int, gt_int, ge_int, Bool.or_false, Bool.or_true, Bool.false_or, Bool.true_or, Bool.and_true, Bool.true_and, Bool.not_true, Bool.not_false, Bool.and_false, Bool.false_and, Option.map_some, reduceCtorEq, and_true, true_and, and_self, freeze, c1, f10, f1, f2, f11, k1]
        refine ⟨fs, ks, _, _, rfl, by rw [D.dp]; exact strs_dps fs 0, tups_enc tupD_str fs, ?_, ?_, fok, kok, ?_⟩
        · rw [D.dp]; exact kds_dps hok
        · rw [tupD, tups_id fun x hx => by
            obtain ⟨k, _, rfl⟩ := List.mem_map.mp hx
            exact k.tup]
        refine ⟨fs, ks, ls, rfl, kok, h2, by omega, ?_⟩
        simp only [wB, wS, wE, wA, wAnd, wOr, wAndT, wOrT, wP, wI, tru, eQ, exAt_eq, IAs.isNil, List.map_cons, List.map_nil, List.cons_append, List.nil_append, List.getElem?_cons_zero, List.getElem?_cons_succ, List.set_cons_zero, List.set_cons_succ, Bool.false_eq_true, if_false, if_true, if_pos, List.any_cons, List.any_nil, ofO_some, ofO_none, setMany, bindT, D.truth, D.isTy, D.isBox, bi_len_tup, bi_len_list, bi_len_str, bi_tuple_list, bi_tuple_tup, bi_list_list, bi_list_tup, bi_int_int, eq_int, ne_int, lt_int, le_int, gt_int, ge_int, Bool.or_false, Bool.or_true, Bool.false_or, Bool.true_or, Bool.and_true, Bool.true_and, Bool.not_true, Bool.not_false, Bool.and_false, Bool.false_and, Option.map_some, reduceCtorEq, and_true, true_and, and_self]
        refine ⟨fs, ks, ls, _, rfl, mixed_tup ls, kok, h2, ?_⟩
        have hnd := lns_nodes ls
        have en : (D.tup (ls.map Ln.d)).nodes = D.nodesL (ls.map Ln.d) + 1 := by rw [D.nodes]
        refine ⟨_, rfl, dp_mono (by decide) _ (lns_dp ls), by omega, fun x n8 hx hd hn8 => ?_⟩
        rw [tups_enc Ln.tup] at hx
        refine ⟨x, _, rfl, fs, ks, ls, x, rfl, mixed_of hx hd, kok, h2, ?_⟩
        refine ⟨le_size (by omega), le_size (by omega), ?_⟩
        refine ⟨[bndP ks ls, bndP ks ls], [bndP ks ls, bndP ks ls], rfl, ?_⟩
        rw [decide_eq_true rfl]
        simp only [wB, wS, wE, wA, wAnd, wOr, wAndT, wOrT, wP, wI, tru, eQ, exAt_eq, IAs.isNil, List.map_cons, List.map_nil, List.cons_append, List.nil_append, List.getElem?_cons_zero, List.getElem?_cons_succ, List.set_cons_zero, List.set_cons_succ, Bool.false_eq_true, if_false, if_true, if_pos, List.any_cons, List.any_nil, ofO_some, ofO_none, setMany, bindT, D.truth, D.isTy, D.isBox, bi_len_tup, bi_len_list, bi_len_str, bi_tuple_list, bi_tuple_tup, bi_list_list, bi_list_tup, bi_int_int, eq_int, ne_int, lt_int, le_int, gt_int, ge_int, Bool.or_false, Bool.or_true, Bool.false_or, Bool.true_or, Bool.and_true, Bool.true_and, Bool.not_true, Bool.not_false, Bool.and_false, Bool.false_and, Option.map_some, reduceCtorEq, and_true, true_and, and_self]
        exact hc _ _ ⟨by omega, _, _, _, _, _, _, _, _, _, _, rfl⟩
  · rintro r n1 ⟨_, x1, x2, x3, x4, x5, x6, x7, x8, x9, x10, rfl⟩
    exact q n1
end
end Dl

set_option Elab.async false
set_option linter.all false
set_option maxRecDepth 100000
set_option maxHeartbeats 4000000
/-! The law's source of draws. -/
namespace Sg
open PySem PySem.Spec PyProof.Rows L2
def topS (i : Nat) : Stmt := PySem.Challenge.pw_stillgood_k23_how_many_calls_at_most.main.body.getD i (.Pass ⟨0, 0, 0, 0⟩)
abbrev sBox : Stmt := topS 43
abbrev sTake : Stmt := topS 44
abbrev sCells : Stmt := topS 45
/-- the built-in names that the module leaves alone -/
structure Blt (mg : Str → Option Value) : Prop where
  int : mg "int" = none
  abs : mg "abs" = none
  len : mg "len" = none
  list : mg "list" = none
  tuple : mg "tuple" = none
  dict : mg "dict" = none
  bool : mg "bool" = none
  str : mg "str" = none
  range : mg "range" = none
  enumerate : mg "enumerate" = none
  zip : mg "zip" = none
  all : mg "all" = none
  sum : mg "sum" = none
  isinstance : mg "isinstance" = none

/-! ### heaps -/
theorem same_upd {H : Hp} {p : Addr} {o : HO} (h : H p = none) : Same H (upd H p o) := fun b x e => by
  rw [upd_ne (ne_of_none e h)]
  exact e
/-- all that was tracked is as it was, but b -/
def But (b : Addr) (H H' : Hp) : Prop := ∀ c o, c ≠ b → H c = some o → H' c = some o
theorem But.refl {b : Addr} {H : Hp} : But b H H := fun _ _ _ e => e
theorem But.trans {b : Addr} {H H1 H2 : Hp} (a : But b H H1) (c : But b H1 H2) : But b H H2 := fun d o n e => c d o n (a d o n e)
theorem But.upd {b : Addr} {H : Hp} {o : HO} : But b H (upd H b o) := fun c u n e => by
  rw [upd_ne n]
  exact e
theorem But.of {b : Addr} {H H' : Hp} (s : Same H H') : But b H H' := fun c o _ e => s c o e
theorem But.free {b l : Addr} {H H' : Hp} (a : But b H H') (n : l ≠ b) (h : H' l = none) : H l = none := by
  cases q : H l with
  | none => rfl
  | some o =>
    rw [a l o n q] at h
    cases h
/-- the source of draws stands at b; it has made at most n mixed numbers -/
def BoxAt (H : Hp) (b : Addr) (n : Nat) : Prop := ∃ x y z : Int, H b = some (.lst [.int x, .int y, .int z]) ∧ 0 ≤ z ∧ z ≤ n
theorem BoxAt.same {H H' : Hp} {b : Addr} {n : Nat} (h : BoxAt H b n) (s : Same H H') : BoxAt H' b n := by
  obtain ⟨x, y, z, e, r⟩ := h
  exact ⟨x, y, z, s _ _ e, r⟩
theorem BoxAt.mono {H : Hp} {b : Addr} {n m : Nat} (h : BoxAt H b n) (l : n ≤ m) : BoxAt H b m := by
  obtain ⟨x, y, z, e, r1, r2⟩ := h
  exact ⟨x, y, z, e, r1, by omega⟩

section
variable {P : Program} {w : World} {K : PySem.W.Frag} {mg : Str → Option Value} {base : Heap}
/-! ### take -/
def spTake : Sp := fun vs H Q _ => ∃ (b : Addr) (n : Nat) (m : Int), vs = [.ref b, .int m] ∧ 0 < m ∧ m ≤ 10 ^ 31 ∧ n ≤ 1000000000 ∧ BoxAt H b n ∧
  ∀ (r x y z : Int), 0 ≤ r → r < m → 0 ≤ z → z ≤ (n + 1 : Nat) → Q (.int r) (upd H b (.lst [.int x, .int y, .int z]))
theorem scTake : FnScope ["_law_box_here", "_law_below", "_law_drawn", "_law_once", "_law_odd", "_law_twice"] ["_law_box_here", "_law_below"] (defScope sTake) := ⟨rfl, rfl, rfl, by decide +kernel, rfl, by decide +kernel, by decide +kernel⟩
theorem divw {m x : Int} (h : 0 < m) (h2 : m ≤ 10 ^ 31) : CDivW x m := by
  have e : (10 : Int) ^ 31 < 2 ^ 200 := by decide
  exact wide_div (b := 200) h (by omega) (by decide) (by decide)
theorem ok_take {f : Addr} {fd : FuncData} {k : Nat} (F : Fun K "_law_take" "_law_take" sTake f fd) (T : Blt mg) : FnOk P w K mg base CX0 (k + 1) f fd ["_law_box_here", "_law_below"] spTake := by
  refine F.ok scTake (fun vs H Q E h => ?_) (fun cdv A outer s H vs Q E hr h => ?_)
  · obtain ⟨b, n, m, rfl, _⟩ := h
    rfl
  · obtain ⟨b, n, m, rfl, hm, hm2, hn, ⟨x, y, z, hb, hz0, hzn⟩, q⟩ := h
    refine ⟨_, pss_cons (ps_if (pt_cmpR op_gt (pe_ix ix_list (pv 0) pe_int (fun _ _ => rfl)) pe_int (nomark _))
        (pss_cons (ps_set (i := 2) scTake.nd rfl (.inl rfl) (pe_op op_mod (pe_callTy call_int1 (by rfl) T.int boot_int (pa_cons (pe_ix ix_list (pv 0) pe_int (fun _ _ => rfl)) pa_nil)) (pv 1)))
        (pss_cons (ps_asg (pe_op op_fdivW (pe_ix ix_list (pv 0) pe_int (fun _ _ => rfl)) (pv 1)) (pg_sub (pv 0) pe_int set_list))
        (pss_one (ps_ret (pv 2))))) pss_nil)
      (pss_cons (ps_asg (pe_op op_add (pe_ix ix_list (pv 0) pe_int (fun _ _ => rfl)) pe_int) (pg_sub (pv 0) pe_int set_list))
      (pss_cons (ps_set (i := 3) scTake.nd rfl (.inl rfl) (pe_op op_mod (pe_callTy call_int1 (by rfl) T.int boot_int (pa_cons
          (pe_op op_mul (pe_op op_add (pe_ix ix_list (pv 0) pe_int (fun _ _ => rfl)) (pe_op op_mul pe_int (pe_ix ix_list (pv 0) pe_int (fun _ _ => rfl)))) (pe_op op_add pe_int (pe_ix ix_list (pv 0) pe_int (fun _ _ => rfl)))) pa_nil)) pe_int))
      (pss_cons (ps_set (i := 4) scTake.nd rfl (.inl rfl) (pe_op op_add (pe_op op_mod (pe_callTy call_int1 (by rfl) T.int boot_int (pa_cons (pv 3) pa_nil)) pe_int) pe_int))
      (pss_cons (ps_set (i := 5) scTake.nd rfl (.inl rfl) (pe_op op_mod (pe_callTy call_int1 (by rfl) T.int boot_int (pa_cons
          (pe_op op_mul (pe_op op_add (pe_op op_add (pv 3) (pe_ix ix_list (pv 0) pe_int (fun _ _ => rfl))) (pe_op op_fdiv (pe_ix ix_list (pv 0) pe_int (fun _ _ => rfl)) pe_int)) (pv 4)) pa_nil)) pe_int))
      (pss_one (ps_ret (pe_op op_mod (pe_callTy call_int1 (by rfl) T.int boot_int (pa_cons (pe_op op_fdiv (pe_op op_mod (pe_callTy call_int1 (by rfl) T.int boot_int (pa_cons
          (pe_op op_add (pe_op op_mul (pv 5) pe_int) (pv 3)) pa_nil)) pe_int) pe_int) pa_nil)) (pv 1)))))))), ?_⟩
    refine ⟨_, rfl, b, _, 0, .int x, rfl, rfl, SqL.of hb, rfl, x, 0, rfl, rfl, _, rfl, ite2 (fun c => ?_) (fun c => ?_)⟩
    · refine ⟨_, rfl, b, _, 0, .int x, rfl, rfl, SqL.of hb, rfl, .inl ⟨x, rfl, ?_⟩⟩
      refine ⟨_, rfl, x, m, rfl, rfl, hm, ?_⟩
      refine ⟨_, rfl, b, _, 0, .int x, rfl, rfl, SqL.of hb, rfl, _, rfl, x, m, rfl, rfl, divw hm hm2, ?_⟩
      refine ⟨_, rfl, b, _, 0, 0, rfl, rfl, hb, rfl, ?_⟩
      exact ⟨_, rfl, q _ _ _ _ (Int.emod_nonneg _ (by omega)) (Int.emod_lt_of_pos _ hm) hz0 (by omega)⟩
    · refine ⟨_, rfl, b, _, 2, .int z, rfl, rfl, SqL.of hb, rfl, z, 1, rfl, rfl, ?_⟩
      refine ⟨_, rfl, b, _, 2, 2, rfl, rfl, hb, rfl, ?_⟩
      have hb2 : upd H b (.lst [.int x, .int y, .int (z + 1)]) b = some (.lst [.int x, .int y, .int (z + 1)]) := upd_same
      have e2 : ([.int x, .int y, .int z] : List V).set 2 (.int (z + 1)) = [.int x, .int y, .int (z + 1)] := rfl
      rw [e2]
      refine ⟨_, rfl, b, _, 1, .int y, rfl, rfl, SqL.of hb2, rfl, _, rfl, b, _, 2, .int (z + 1), rfl, rfl, SqL.of hb2, rfl, 48271, z + 1, rfl, rfl, .inl ⟨by decide, by decide⟩, y, _, rfl, rfl, ?_⟩
      refine ⟨_, rfl, b, _, 2, .int (z + 1), rfl, rfl, SqL.of hb2, rfl, 39373, z + 1, rfl, rfl, _, _, rfl, rfl, .inr ⟨by omega, by omega⟩, .inl ⟨_, rfl, ?_⟩⟩
      refine ⟨_, 2147483647, rfl, rfl, (show (0 : Int) < 2147483647 by decide), ?_⟩
      refine ⟨_, rfl, .inl ⟨_, rfl, ?_⟩⟩
      refine ⟨_, 40009, rfl, rfl, (show (0 : Int) < 40009 by decide), _, 7, rfl, rfl, ?_⟩
      have h1 : 0 ≤ (y + 48271 * (z + 1)) * (39373 + (z + 1)) % 2147483647 % 40009 := Int.emod_nonneg _ (by decide)
      have h2 : (y + 48271 * (z + 1)) * (39373 + (z + 1)) % 2147483647 % 40009 < 40009 := Int.emod_lt_of_pos _ (by decide)
      refine ⟨_, rfl, _, rfl, b, _, 2, .int (z + 1), rfl, rfl, SqL.of hb2, rfl, _, z + 1, rfl, rfl, _, rfl, b, _, 1, .int y, rfl, rfl, SqL.of hb2, rfl, y, 1000003, rfl, rfl, ⟨by decide, by decide⟩, _, _, rfl, rfl, ?_⟩
      refine ⟨_, rfl, _, _, rfl, rfl, .inr ⟨by show (-(2 ^ 64) : Int) < (y + 48271 * (z + 1)) * (39373 + (z + 1)) % 2147483647 % 40009 + 7; omega, by show (y + 48271 * (z + 1)) * (39373 + (z + 1)) % 2147483647 % 40009 + 7 < 2 ^ 64; omega⟩, .inl ⟨_, rfl, _, 2147483629, rfl, rfl, (show (0 : Int) < 2147483629 by decide), ?_⟩⟩
      refine ⟨_, rfl, _, 48271, rfl, rfl, .inr ⟨by decide, by decide⟩, _, rfl, _, _, rfl, rfl, .inl ⟨_, rfl, _, 2147483587, rfl, rfl, (show (0 : Int) < 2147483587 by decide), _, 64, rfl, rfl, ⟨by decide, by decide⟩, .inl ⟨_, rfl, _, rfl, _, m, rfl, rfl, hm, ?_⟩⟩⟩
      exact q _ _ _ _ (Int.emod_nonneg _ (by omega)) (Int.emod_lt_of_pos _ hm) (by omega) (by omega)
end
theorem at_of_lt {α : Type} {xs : List α} {i : Int} (h0 : 0 ≤ i) (h1 : i < xs.length) : ∃ v ∈ xs, atI xs i = some v := by
  obtain ⟨j, rfl⟩ : ∃ j : Nat, i = j := ⟨i.toNat, by omega⟩
  have hj : j < xs.length := by omega
  exact ⟨xs[j], List.getElem_mem hj, atI_nat (List.getElem?_eq_getElem hj)⟩
section
variable {P : Program} {w : World} {K : PySem.W.Frag} {mg : Str → Option Value} {base : Heap}
/-! ### box -/
def spBox (K : PySem.W.Frag) : Sp := fun vs H Q _ => ∃ (a : Addr) (ns : List Int) (k : Int), vs = [.ref a, .int k] ∧ SqL K H a (ns.map V.int) ∧ 0 ≤ k ∧ k < ns.length ∧
  ∀ (p : Addr) (x y : Int), H p = none → Q (.ref p) (upd H p (.lst [.int x, .int y, .int 0]))
theorem scBox : FnScope ["_law_script", "_law_k", "_law_cell"] ["_law_script", "_law_k"] (defScope sBox) := ⟨rfl, rfl, rfl, by decide +kernel, rfl, by decide +kernel, by decide +kernel⟩
theorem ok_box {f : Addr} {fd : FuncData} {k : Nat} (F : Fun K "_law_box" "_law_box" sBox f fd) (T : Blt mg) : FnOk P w K mg base CX0 (k + 1) f fd ["_law_script", "_law_k"] (spBox K) := by
  refine F.ok scBox (fun vs H Q E h => ?_) (fun cdv A outer s H vs Q E hr h => ?_)
  · obtain ⟨a, ns, k, rfl, _⟩ := h
    rfl
  · obtain ⟨a, ns, k, rfl, hS, hk0, hk1, q⟩ := h
    refine ⟨_, pss_cons (ps_set (i := 2) scBox.nd rfl (.inl rfl) (pe_ifExp (pt_cmpR op_lt (pv 1) (pe_callB call_len_seq (by rfl) T.len boot_len (pa_cons (pv 0) pa_nil)) (nomark _)) (pe_ix ix_list (pv 0) (pv 1) (fun _ _ => rfl)) pe_int))
      (pss_one (ps_ret (pe_lst (pa_cons
        (pe_op op_mul (pe_callB call_abs (by rfl) T.abs (by decide +kernel) (pa_cons (pv 2) pa_nil)) (pe_callTy call_int1 (by rfl) T.int boot_int (pa_cons (pe_cmpR op_ge (pe_callB call_abs (by rfl) T.abs (by decide +kernel) (pa_cons (pv 2) pa_nil)) (pe_op op_pow pe_int pe_int) (nomark _)) pa_nil)))
        (pa_cons (pe_op op_add (pe_op op_add (pe_op op_mod (pe_callTy call_int1 (by rfl) T.int boot_int (pa_cons (pv 2) pa_nil)) pe_int) (pe_op op_mul pe_int (pv 1))) pe_int)
        (pa_cons pe_int pa_nil)))))), ?_⟩
    have hk2 : k < ((ns.map V.int).length : Int) := by rw [List.length_map]; exact hk1
    obtain ⟨v, hv, hat⟩ := at_of_lt hk0 hk2
    obtain ⟨c, hc, rfl⟩ := List.mem_map.mp hv
    refine ⟨_, rfl, _, rfl, a, _, rfl, .inl hS, k, _, rfl, rfl, _, rfl, ?_⟩
    rw [decide_eq_true hk2]
    refine iteT ⟨_, rfl, _, rfl, a, _, k, _, rfl, rfl, hS, hat, ?_⟩
    refine ⟨_, rfl, c, rfl, _, rfl, c, rfl, 10, 18, rfl, rfl, ⟨by decide, by decide, by decide⟩, _, _, rfl, rfl, .inr ⟨_, rfl, ?_⟩⟩
    refine ⟨_, _, rfl, rfl, .inr ?_, ?_⟩
    · constructor <;> (repeat' split) <;> decide
    · refine ⟨_, rfl, .inl ⟨c, rfl, c, 2305843009213693951, rfl, rfl, (show (0 : Int) < 2305843009213693951 by decide), ?_⟩⟩
      refine ⟨_, rfl, 39373, k, rfl, rfl, .inl ⟨by decide, by decide⟩, _, _, rfl, rfl, _, 58523, rfl, rfl, (by show 3 ≤ sizeLine; decide), fun p hp => ?_⟩
      exact q p _ _ hp
end
theorem cutV_ints (ns : List Int) (lo hi : Option Int) : ∃ ms : List Int, cutV (ns.map V.int) lo hi = ms.map V.int ∧ ms.length ≤ ns.length := by
  refine ⟨(ns.drop (HT.sIx ns.length 0 lo)).take (HT.sIx ns.length ns.length hi - HT.sIx ns.length 0 lo), ?_, ?_⟩
  · unfold cutV
    rw [List.length_map, List.map_take, List.map_drop]
  · rw [List.length_take, List.length_drop]
    omega
theorem cutV_hi (ns : List Int) (m : Nat) : cutV (ns.map V.int) none (some (m : Int)) = (ns.take m).map V.int := by
  unfold cutV
  rw [List.length_map, show HT.sIx ns.length ns.length (some (m : Int)) = min m ns.length from HT.sIx_nat ns.length ns.length m, HT.sIx_none]
  rw [List.map_take, List.drop_zero, Nat.sub_zero]
  by_cases h : m ≤ ns.length
  · rw [Nat.min_eq_left h]
  · rw [Nat.min_eq_right (by omega), List.take_of_length_le (by rw [List.length_map]; exact Nat.le_refl _), List.take_of_length_le (by rw [List.length_map]; omega)]
theorem cutV_lo (ns : List Int) (m : Nat) (hi : Option Int) (h : ns.length ≤ m) : cutV (ns.map V.int) (some (m : Int)) hi = [] := by
  unfold cutV
  rw [List.length_map, show HT.sIx ns.length 0 (some (m : Int)) = min m ns.length from HT.sIx_nat ns.length 0 m]
  rw [show min m ns.length = ns.length by omega, List.drop_of_length_le (by rw [List.length_map]; exact Nat.le_refl _), List.take_nil]
section
variable {P : Program} {w : World} {K : PySem.W.Frag} {mg : Str → Option Value} {base : Heap}
def spCells (K : PySem.W.Frag) : Sp := fun vs H Q _ => ∃ (a : Addr) (ns : List Int) (m : Nat), vs = [.ref a, .int m] ∧ SqL K H a (ns.map V.int) ∧ ns.length ≤ 63 ∧ 1 ≤ m ∧ m ≤ 10 ∧
  ∀ (p : Addr) (cs : List Int) (H' : Hp), H p = none → Same H H' → 1 ≤ cs.length → cs.length ≤ m → H' p = some (.lst (cs.map V.int)) → Q (.ref p) H'
theorem or_cells {H : Hp} {a : Addr} {ns : List Int} {m : Nat} {Q : VK} {σ : L2.St} (hS : SqL K H a (ns.map V.int)) (hm : 1 ≤ m)
    (key : ∀ (p : Addr) (cs : List Int) (H1 : Hp), H p = none → Same H H1 → H1 p = some (.lst (cs.map V.int)) → 1 ≤ cs.length → cs.length ≤ m → (m < ns.length → cs.length = m) → Q (.ref p) H1) :
    tOrT K (tCB (fun xs H Q => ∃ p ys, xs = [.ref p] ∧ (SqL K H p ys ∨ SqT K H p ys) ∧ ∀ l, H l = none → Q (.ref l) (upd H l (.lst ys))) (tCons (tSl (rSlL K) (tVar 0) tNoPart (tPart (tVar 1))) tNil)) (tLst (tCons (tC (.int 0)) tNil)) (some (.ref a) :: some (.int m) :: σ) H Q := by
  refine ⟨_, rfl, _, rfl, m, rfl, a, _, rfl, hS, fun c nc => ?_⟩
  rw [cutV_hi]
  refine ⟨c, _, rfl, .inl (SqL.of upd_same), fun p np => ?_⟩
  have npc : p ≠ c := fun e => by
    rw [e, upd_same] at np
    cases np
  have p0 : H p = none := by
    rw [upd_ne npc] at np
    exact np
  refine ⟨_, .inl ⟨_, SqL.of upd_same, rfl⟩, ite2 (fun h => ?_) (fun h => ?_)⟩
  · refine key p (ns.take m) _ p0 ((same_upd nc).trans (same_upd np)) upd_same ?_ ?_ ?_
    · cases ns with
      | nil =>
        rw [List.take_nil] at h
        exact absurd h (by decide)
      | cons x r =>
        rw [List.length_take, List.length_cons]
        omega
    · rw [List.length_take]
      omega
    · intro hb
      rw [List.length_take]
      omega
  · refine ⟨(by show 1 ≤ sizeLine; decide), fun r nr => ?_⟩
    have r1 : upd H c (.lst ((ns.take m).map V.int)) r = none := (same_upd np).free nr
    refine key r [0] _ ((same_upd nc).free r1) (((same_upd nc).trans (same_upd np)).trans (same_upd nr)) upd_same (Nat.le_refl _) hm ?_
    intro hb
    cases ns with
    | nil => exact absurd hb (by simp)
    | cons x r =>
      exfalso
      apply h
      cases m with
      | zero => omega
      | succ m => rfl
abbrev nCells : List Str := ["_law_script", "_law_most_so", "_law_cells_here", "_law_k", "_law_cell", "_law_at_so"]
theorem scCells : FnScope nCells ["_law_script", "_law_most_so"] (defScope sCells) := ⟨rfl, rfl, rfl, by decide +kernel, rfl, by decide +kernel, by decide +kernel⟩
theorem ok_cells {f : Addr} {fd : FuncData} {k : Nat} (F : Fun K "_law_cells" "_law_cells" sCells f fd) (T : Blt mg) : FnOk P w K mg base CX0 (k + 1) f fd ["_law_script", "_law_most_so"] (spCells K) := by
  refine F.ok scCells (fun vs H Q E h => ?_) (fun cdv A outer s H vs Q E hr h => ?_)
  · obtain ⟨a, ns, m, rfl, _⟩ := h
    rfl
  · obtain ⟨a, ns, m, rfl, hS, hlen, hm1, hm2, q⟩ := h
    refine ⟨_, pss_cons (ps_set (i := 2) scCells.nd rfl (.inl rfl) (pe_orT (pe_callTy call_list_of (by rfl) T.list boot_list (pa_cons (pe_slice sl_list (pv 0) po_none (po_some (pv 1))) pa_nil)) (pe_one (pe_lst (pa_cons pe_int pa_nil)))))
      (pss_cons (ps_for PassesOwn.never rfl (pi_enum (by rfl) T.enumerate (pa_cons (pe_slice sl_list (pv 0) (po_some (pv 1)) (po_some pe_int)) pa_nil)) (pg_tup rfl (pgs_cons (pg_name (i := 3) scCells.nd rfl (.inl rfl)) (pgs_cons (pg_name (i := 4) scCells.nd rfl (.inl rfl)) pgs_nil)))
        (pss_cons (ps_set (i := 5) scCells.nd rfl (.inl rfl) (pe_op op_mod (pe_callTy call_int1 (by rfl) T.int boot_int (pa_cons (pv 3) pa_nil)) (pv 1)))
        (pss_one (ps_asg (pe_op op_add (pe_ix ix_list (pv 2) (pv 5) (fun _ _ => rfl)) (pe_op op_mul (pv 4) (pe_op op_add (pv 3) pe_int))) (pg_sub (pv 2) (pv 5) set_list)))))
      (pss_one (ps_ret (pv 2)))), ?_⟩
    refine or_cells hS hm1 fun p cs H1 p0 s1 hp h1 h2 h3 => ?_
    -- enumerate(script[most:63])
    refine ⟨_, rfl, _, rfl, m, rfl, 63, rfl, a, _, rfl, s1.seq hS, fun c nc => ?_⟩
    have npc : p ≠ c := ne_of_none hp nc
    have c0 : H c = none := s1.free nc
    have s2 : Same H1 (upd H1 c (.lst (cutV (ns.map V.int) (some (m : Int)) (some 63)))) := same_upd nc
    obtain ⟨ms, ems, hms⟩ := cutV_ints ns (some (m : Int)) (some 63)
    refine ⟨c, _, rfl, SqL.of upd_same, for_it (walk_enum (xs := ms.map V.int)) (fun i σ H2 => ∃ (cs' : List Int) (y3 y4 y5 : Option V), σ = [some (.ref a), some (.int m), some (.ref p), y3, y4, y5] ∧ cs'.length = cs.length ∧ Same H H2 ∧ H2 c = some (.lst (ms.map V.int)) ∧ H2 p = some (.lst (cs'.map V.int))) ?_ ?_ ?_ ?_⟩
    · refine ⟨cs, none, none, none, rfl, rfl, s1.trans s2, by rw [upd_same, ems], by rw [upd_ne npc]; exact hp⟩
    · rintro i σ H2 hi ⟨cs', y3, y4, y5, rfl, hl, sm, hc2, hp2⟩
      exact SqL.of hc2
    · rintro i v σ H2 H3 hi ⟨cs', y3, y4, y5, rfl, hl, sm, hc2, hp2⟩ hy
      obtain ⟨Tp, x1, x2, rfl, nT, rfl, e1, e2⟩ := hy
      obtain rfl : x1 = .int (i : Nat) := (Option.some.inj e1).symm
      have hi' : i < ms.length := by rw [List.length_map] at hi; exact hi
      obtain ⟨z, rfl⟩ : ∃ z, x2 = V.int z := by
        have e2 : (ms.map V.int)[i]? = some x2 := e2
        rw [List.getElem?_map, List.getElem?_eq_getElem hi'] at e2
        exact ⟨_, (Option.some.inj e2).symm⟩
      have nTp : p ≠ Tp := ne_of_none hp2 nT
      have nTc : c ≠ Tp := ne_of_none hc2 nT
      have big : cs.length = m := by
        by_cases hb : m < ns.length
        · exact h3 hb
        · rw [cutV_lo ns m (some 63) (by omega)] at ems
          have : ms = [] := by
            cases ms with
            | nil => rfl
            | cons x r => cases ems
          rw [this] at hi'
          exact absurd hi' (by simp)
      have pT : (upd H2 Tp (.tup [.int (i : Nat), .int z])) p = some (.lst (cs'.map V.int)) := (upd_ne nTp).trans hp2
      refine ⟨Tp, _, rfl, SqT.of upd_same, rfl, _, _, rfl, _, _, rfl, rfl, ?_⟩
      refine ⟨_, rfl, .inl ⟨_, rfl, _, rfl, _, _, rfl, rfl, (by show (0 : Int) < m; omega), ?_⟩⟩
      have r0 : (0 : Int) ≤ (i : Int) % m := Int.emod_nonneg _ (by omega)
      have r1 : (i : Int) % m < ((cs'.map V.int).length : Int) := by
        rw [List.length_map, hl, big]
        exact Int.emod_lt_of_pos _ (by omega)
      obtain ⟨v, hv, hat⟩ := at_of_lt r0 r1
      obtain ⟨d, hd, rfl⟩ := List.mem_map.mp hv
      refine ⟨_, rfl, _, rfl, p, _, _, _, rfl, rfl, SqL.of pT, hat, _, rfl, _, rfl, _, 2, rfl, rfl, z, _, rfl, rfl, .inr ⟨by show (-(2 ^ 64) : Int) < (i : Int) + 2; omega, by show (i : Int) + 2 < 2 ^ 64; omega⟩, _, _, rfl, rfl, ?_⟩
      obtain ⟨j, hj⟩ : ∃ j, ixN (cs'.map V.int).length ((i : Int) % m) = some j := ⟨((i : Int) % m).toNat, by unfold ixN; rw [if_pos r0, if_pos r1]⟩
      refine ⟨_, rfl, _, rfl, p, _, _, j, rfl, rfl, pT, hj, ?_⟩
      refine ⟨cs'.set j (d + z * ((i : Int) + 2)), _, _, _, rfl, by rw [List.length_set]; exact hl, ?_, ?_, ?_⟩
      · intro b o e
        rw [upd_ne (ne_of_none e p0)]
        exact same_upd nT _ _ (sm _ _ e)
      · rw [upd_ne npc.symm, upd_ne nTc]
        exact hc2
      · rw [upd_same, ← List.map_set]
    · rintro σ H2 ⟨cs', y3, y4, y5, rfl, hl, sm, hc2, hp2⟩
      exact ⟨_, rfl, q p cs' H2 p0 sm (by omega) (by omega) hp2⟩
end
end Sg

set_option Elab.async false
set_option linter.all false
set_option maxRecDepth 100000
set_option maxHeartbeats 4000000
/-! From the defs that are walked by hand to those over data, and back. -/
namespace Dl
open PySem PySem.Spec PyProof.Rows L2
section
variable {P : Program} {w : World} {K : PySem.W.Frag} {mg : Str → Option Value} {base : Heap} {k : Nat} {f : Addr} {fd : FuncData} {ps : List Str} {sp : Sp}
theorem fn_up (F : FnOk P w K mg base CX0 k f fd ps sp) : FnOk P w K mg base (L2.CX P w) k f fd ps sp :=
  ⟨F.len, fun A outer s H args us vs Q E hr he hb hv hs => codeAny_mono (F.run A outer s H args us vs Q E hr he hb hv hs) fun r s' hq => by
    cases r with
    | error e => exact False.elim hq
    | ok fl => cases fl <;> exact hq⟩
theorem fn_dn (F : FnOk P w K mg base (L2.CX P w) k f fd ps sp) : FnOk P w K mg base CX0 k f fd ps (fun vs H Q _ => sp vs H Q fun _ _ _ => False) :=
  ⟨fun vs H Q _ q => F.len vs H Q _ q, fun A outer s H args us vs Q E hr he hb hv hs => codeAny_mono (F.run A outer s H args us vs Q _ hr he hb hv hs) fun r s' hq => by
    cases r with
    | error e =>
      obtain ⟨_, _, _, _, _, _, _, _, _, _, _, _, z⟩ := hq
      exact z.elim
    | ok fl => cases fl <;> exact hq⟩
theorem take_fs (F : FnOk P w K mg base CX0 k f fd ["_law_box_here", "_law_below"] Sg.spTake) : FnOk P w K mg base (L2.CX P w) k f fd ["_law_box_here", "_law_below"] (spOf ⟨K, mg⟩ fsTake) := by
  refine (fn_up F).imp fun vs H Q E h => ?_
  obtain ⟨b, G, n, ds, Qd, Ex, ok, r, ⟨m, rfl, h1, h2, h3, q⟩, x, kk⟩ := h
  cases r with
  | cons r1 r =>
    cases r with
    | cons r2 r =>
      cases r
      cases r1 with
      | @box p hb =>
        have e2 := rp_int_inv r2
        subst e2
        obtain ⟨gp, x0, y0, z0, e, hz0, hzn⟩ := ok.box p hb
        refine ⟨p, n, m, rfl, h1, by omega, by unfold B9 at h3; omega, ⟨x0, y0, z0, e, hz0, hzn⟩, fun r x y z r0 r1 z0 z1 => ?_⟩
        refine kk (.int r) G _ (n + 1) (.int r) ⟨Same.refl _, fun a o ea => ?_, fun a o na ea => ?_, fun a o ea => .inl ea, fun p' hp' => ?_⟩ (.int r) (q r r0 r1)
        · have na : a ≠ p := fun e => by rw [e, gp] at ea; cases ea
          rw [upd_ne na]
          exact ok.sub a o ea
        · have na : a ≠ p := fun e => na (by rw [e, hb])
          rw [upd_ne na]
          exact ea
        · rw [hb] at hp'
          cases hp'
          exact ⟨x, y, z, upd_same, z0, z1⟩
end
end Dl

set_option Elab.async false
set_option linter.all false
set_option maxRecDepth 100000
set_option maxHeartbeats 4000000
/-! The defs over data, one by one. -/
namespace Dl
open PySem PySem.Spec PyProof.Rows L2
open Sg (topS)
def inClass (s : Stmt) (j : Nat) : Stmt := match s with
  | .ClassDef _ _ _ b _ _ _ _ _ _ _ => b.getD j (.Pass ⟨0, 0, 0, 0⟩)
  | _ => .Pass ⟨0, 0, 0, 0⟩
def gvL : List (Str × D) := [(("LETTERS" : Str), D.str lettersS), (("LONGEST" : Str), D.int 8), (("MOST_FIELDS" : Str), D.int 2), (("MOST_PARAMETERS" : Str), D.int 2)]
def gvK : Str → Option D := fun x => gvL.lookup x
def gdK : Str → Option (List (Str × D)) := fun x => List.lookup x [(("SIZES" : Str), sizesD)]
abbrev LF := List (Str × FS)
def tabOf (l me cl kw : LF) : Tab := { fs := fun g => l.lookup g, gv := gvK, gd := gdK, fl := flK, me := fun c m => bif c == "Book" then me.lookup m else none, cl := fun c => cl.lookup c, kw := fun f ks => bif ks == (["lines", "book"] : List Str) then kw.lookup f else none }
abbrev tab0 : Tab := tabOf [] [] [] []
def DF (K : PySem.W.Frag) (mg : Str → Option Value) (nm : Str) (st : Stmt) (f : Addr) : Prop := mg nm = some (.ref f) ∧ ∃ fd, Fun K nm nm st f fd
/-- a method of Book -/
def MF (K : PySem.W.Frag) (nm qual : Str) (st : Stmt) : Prop := ∃ (C f : Addr) (fd : FuncData), PySem.W.nsIn K mainGlobals "Book" = some (some (.ref C)) ∧ PySem.W.findIn K (.ref C) nm = some (some (.ref f)) ∧ PySem.W.fnIn K f = true ∧ PySem.W.isFn K (.ref f) = true ∧ Fun K nm qual st f fd
/-- Book's maker -/
def CF (K : PySem.W.Frag) (mg : Str → Option Value) (st : Stmt) : Prop := ∃ (C f : Addr) (fd : FuncData), PySem.W.nsIn K mainGlobals "Book" = some (some (.ref C)) ∧ mg "Book" = some (.ref C) ∧ Mk K C f ∧ Fun K "__init__" "Book.__init__" st f fd
/-- Book's two fields -/
structure FlB (K : PySem.W.Frag) : Prop where
  a : FlD K "Book" "own_fields"
  b : FlD K "Book" "own_kinds"
theorem FlB.all {K : PySem.W.Frag} (h : FlB K) (c f : Str) (e : flK c f = true) : FlD K c f := by
  unfold flK at e
  rw [Bool.and_eq_true, Bool.or_eq_true, beq_iff_eq, beq_iff_eq, beq_iff_eq] at e
  obtain ⟨rfl, rfl | rfl⟩ := e
  · exact h.a
  · exact h.b
theorem lookup_mem {l : LF} {g : Str} {gs : FS} (h : l.lookup g = some gs) : ∃ p ∈ l, p.1 = g ∧ p.2 = gs := by
  induction l with
  | nil => cases h
  | cons p r ih =>
    obtain ⟨a, b⟩ := p
    rw [List.lookup_cons] at h
    split at h
    · rename_i e
      cases h
      exact ⟨(a, _), List.mem_cons_self .., (beq_iff_eq.mp e).symm, rfl⟩
    · obtain ⟨p, hp, q⟩ := ih h
      exact ⟨p, List.mem_cons_of_mem _ hp, q⟩
def Alls (R : Str → FS → Prop) (l : LF) : Prop := ∀ p ∈ l, R p.1 p.2
theorem Alls.nil {R : Str → FS → Prop} : Alls R [] := fun p h => by cases h
theorem Alls.cons {R : Str → FS → Prop} {x : Str} {fs : FS} {l : LF} (h : R x fs) (g : Alls R l) : Alls R ((x, fs) :: l) := fun p hp => by
  rcases List.mem_cons.mp hp with e | e
  · rw [e]; exact h
  · exact g p e
theorem Alls.at {R : Str → FS → Prop} {l : LF} {g : Str} {gs : FS} (a : Alls R l) (h : l.lookup g = some gs) : R g gs := by
  obtain ⟨p, hp, rfl, rfl⟩ := lookup_mem h
  exact a p hp
section
variable {P : Program} {w : World} {K : PySem.W.Frag} {mg : Str → Option Value} {base : Heap}
theorem md_of {l me cl kw : LF} (M : Md w K mg tab0) : Md w K mg (tabOf l me cl kw) := ⟨M.blt, M.gv, M.gd⟩
theorem tq_mk {k : Nat} {l me cl kw : LF} (B : FlB K) (hl : Alls (FnQ P w K mg base k) l) (hm : Alls (MeQ P w K mg base k "Book") me) (hc : Alls (ClQ P w K mg base k) cl) (hk : Alls (fun f fs => KwQ P w K mg base k f ["lines", "book"] fs) kw) : TabQ P w K mg base k (tabOf l me cl kw) := by
  refine ⟨fun g gs h => hl.at h, fun C m ps gs h => ?_, B.all, fun c m fs h => ?_, fun c fs h => hc.at h, fun f ks fs h => ?_⟩
  · cases h
  · have h : (bif c == "Book" then me.lookup m else none) = some fs := h
    cases e : c == ("Book" : Str) with
    | true =>
      rw [e] at h
      rw [beq_iff_eq.mp e]
      exact hm.at h
    | false =>
      rw [e] at h
      cases h
  · have h : (bif ks == (["lines", "book"] : List Str) then kw.lookup f else none) = some fs := h
    cases e : ks == (["lines", "book"] : List Str) with
    | true =>
      rw [e] at h
      rw [beq_iff_eq.mp e]
      exact hk.at h
    | false =>
      rw [e] at h
      cases h
theorem fn_q {x : Str} {st : Stmt} {N ps mu ob : List Str} {k : Nat} {fs : FS} (d : ∃ f, DF K mg x st f) (S : FnScope N ps (defScope st)) (bnd : ∀ f fd, Fun K x x st f fd → Binds K fd ps []) (l me cl kw : LF) (ir : ISs) (hir : cSs 60 ⟨N, defScope st, mu, ob⟩ (defBody st) = ir)
    (M : Md w K mg tab0) (TQ : TabQ P w K mg base k (tabOf l me cl kw)) (hp : ps.length ≤ N.length)
    (hlen : ∀ ds n Q E, fs ds n Q E → ds.length = ps.length) (hbody : ∀ ds n Q E, fs ds n Q E → wB (tabOf l me cl kw) ir (ent0 N ds) n (eQ Q E)) : FnQ P w K mg base (k + 1) x fs := by
  obtain ⟨f, g, fd, F⟩ := d
  exact ⟨f, fd, ps, g, F.kp, bnd f fd F, fn_ok F S (tabOf l me cl kw) 60 mu ob ir hir (md_of M) TQ hp hlen hbody⟩
theorem me_q {x qual : Str} {st : Stmt} {N ps mu ob : List Str} {fs : FS} (d : MF K x qual st) (S : FnScope N ps (defScope st)) (bnd : ∀ f fd, Fun K x qual st f fd → Binds K fd ps []) (ir : ISs) (hir : cSs 60 ⟨N, defScope st, mu, ob⟩ (defBody st) = ir)
    (M : Md w K mg tab0) (B : FlB K) (hp : ps.length ≤ N.length)
    (hlen : ∀ ds n Q E, fs ds n Q E → ds.length = ps.length) (hbody : ∀ ds n Q E, fs ds n Q E → wB tab0 ir (ent0 N ds) n (eQ Q E)) : MeQ P w K mg base 2 "Book" x fs := by
  obtain ⟨C, f, fd, h1, h2, h3, h4, F⟩ := d
  exact ⟨C, f, fd, ps, 1, h1, h2, h3, h4, bnd f fd F, by decide, fn_ok F S tab0 60 mu ob ir hir M (tq_mk B .nil .nil .nil .nil) hp hlen hbody⟩
theorem b_law_is_number {T : Tab} {n : Nat} {Q : D → Nat → Prop} {E : QX} {ds : List D} (h : fsNum ds n Q E) : wB T ir_law_is_number (ent0 ["_law_matter"] ds) n (eQ Q E) := b_is_number h
theorem sc_is_number : FnScope ["thing"] ["thing"] (defScope (topS 5)) := ⟨rfl, rfl, rfl, by decide +kernel, rfl, by decide +kernel, by decide +kernel⟩
theorem ir_is_number_ok : cSs 60 ⟨["thing"], defScope (topS 5), [], ["Book"]⟩ (defBody (topS 5)) = ir_is_number := by kernel_rfl
theorem sc_is_name : FnScope ["thing", "sign"] ["thing"] (defScope (topS 6)) := ⟨rfl, rfl, rfl, by decide +kernel, rfl, by decide +kernel, by decide +kernel⟩
theorem ir_is_name_ok : cSs 60 ⟨["thing", "sign"], defScope (topS 6), [], ["Book"]⟩ (defBody (topS 6)) = ir_is_name := by kernel_rfl
theorem sc_are_names : FnScope ["thing", "least", "most", "name"] ["thing", "least", "most"] (defScope (topS 7)) := ⟨rfl, rfl, rfl, by decide +kernel, rfl, by decide +kernel, by decide +kernel⟩
theorem ir_are_names_ok : cSs 60 ⟨["thing", "least", "most", "name"], defScope (topS 7), [], ["Book"]⟩ (defBody (topS 7)) = ir_are_names := by kernel_rfl
theorem sc_is_term : FnScope ["thing", "names"] ["thing", "names"] (defScope (topS 23)) := ⟨rfl, rfl, rfl, by decide +kernel, rfl, by decide +kernel, by decide +kernel⟩
theorem ir_is_term_ok : cSs 60 ⟨["thing", "names"], defScope (topS 23), [], ["Book"]⟩ (defBody (topS 23)) = ir_is_term := by kernel_rfl
theorem sc_is_change : FnScope ["fields", "thing", "names", "value"] ["fields", "thing", "names"] (defScope (topS 24)) := ⟨rfl, rfl, rfl, by decide +kernel, rfl, by decide +kernel, by decide +kernel⟩
theorem ir_is_change_ok : cSs 60 ⟨["fields", "thing", "names", "value"], defScope (topS 24), [], ["Book"]⟩ (defBody (topS 24)) = ir_is_change := by kernel_rfl
theorem sc_is_body : FnScope ["fields", "thing", "names", "there", "word", "changes", "term", "field", "value", "name", "body", "one"] ["fields", "thing", "names", "there"] (defScope (topS 25)) := ⟨rfl, rfl, rfl, by decide +kernel, rfl, by decide +kernel, by decide +kernel⟩
theorem ir_is_body_ok : cSs 60 ⟨["fields", "thing", "names", "there", "word", "changes", "term", "field", "value", "name", "body", "one"], defScope (topS 25), [], ["Book"]⟩ (defBody (topS 25)) = ir_is_body := by kernel_rfl
theorem sc_is_kind_of : FnScope ["fields", "thing", "name", "parameters", "body"] ["fields", "thing"] (defScope (topS 26)) := ⟨rfl, rfl, rfl, by decide +kernel, rfl, by decide +kernel, by decide +kernel⟩
theorem ir_is_kind_of_ok : cSs 60 ⟨["fields", "thing", "name", "parameters", "body"], defScope (topS 26), [], ["Book"]⟩ (defBody (topS 26)) = ir_is_kind_of := by kernel_rfl
theorem sc_tupled : FnScope ["thing", "part"] ["thing"] (defScope (topS 4)) := ⟨rfl, rfl, rfl, by decide +kernel, rfl, by decide +kernel, by decide +kernel⟩
theorem ir_tupled_ok : cSs 60 ⟨["thing", "part"], defScope (topS 4), [], ["Book"]⟩ (defBody (topS 4)) = ir_tupled := by kernel_rfl
theorem sc_terms_of : FnScope ["change"] ["change"] (defScope (topS 32)) := ⟨rfl, rfl, rfl, by decide +kernel, rfl, by decide +kernel, by decide +kernel⟩
theorem ir_terms_of_ok : cSs 60 ⟨["change"], defScope (topS 32), [], ["Book"]⟩ (defBody (topS 32)) = ir_terms_of := by kernel_rfl
theorem sc_has_read_name : FnScope ["lets", "changes", "change", "term"] ["lets", "changes"] (defScope (topS 34)) := ⟨rfl, rfl, rfl, by decide +kernel, rfl, by decide +kernel, by decide +kernel⟩
theorem ir_has_read_name_ok : cSs 60 ⟨["lets", "changes", "change", "term"], defScope (topS 34), [], ["Book"]⟩ (defBody (topS 34)) = ir_has_read_name := by kernel_rfl
theorem sc_hides : FnScope ["one", "other", "path", "many", "lets", "changes", "word", "its_path", "its_many", "its_lets", "its_changes", "its_word"] ["one", "other"] (defScope (topS 35)) := ⟨rfl, rfl, rfl, by decide +kernel, rfl, by decide +kernel, by decide +kernel⟩
theorem ir_hides_ok : cSs 60 ⟨["one", "other", "path", "many", "lets", "changes", "word", "its_path", "its_many", "its_lets", "its_changes", "its_word"], defScope (topS 35), [], ["Book"]⟩ (defBody (topS 35)) = ir_hides := by kernel_rfl
theorem sc_branches_of : FnScope ["body", "rows", "found", "truth", "part", "path", "many", "names", "changes", "word"] ["body"] (defScope (topS 27)) := ⟨rfl, rfl, rfl, by decide +kernel, rfl, by decide +kernel, by decide +kernel⟩
theorem ir_branches_of_ok : cSs 60 ⟨["body", "rows", "found", "truth", "part", "path", "many", "names", "changes", "word"], defScope (topS 27), ["found"], ["Book"]⟩ (defBody (topS 27)) = ir_branches_of := by kernel_rfl
theorem sc_hiding : FnScope ["book", "name", "branches", "one", "other"] ["book", "name"] (defScope (topS 36)) := ⟨rfl, rfl, rfl, by decide +kernel, rfl, by decide +kernel, by decide +kernel⟩
theorem ir_hiding_ok : cSs 60 ⟨["book", "name", "branches", "one", "other"], defScope (topS 36), [], ["Book", "book"]⟩ (defBody (topS 36)) = ir_hiding := by kernel_rfl
theorem sc_is_telling : FnScope ["book", "name"] ["book", "name"] (defScope (topS 37)) := ⟨rfl, rfl, rfl, by decide +kernel, rfl, by decide +kernel, by decide +kernel⟩
theorem ir_is_telling_ok : cSs 60 ⟨["book", "name"], defScope (topS 37), [], ["Book", "book"]⟩ (defBody (topS 37)) = ir_is_telling := by kernel_rfl
theorem sc_length_of : FnScope ["book", "name", "path", "many", "lets", "changes", "word"] ["book", "name"] (defScope (topS 38)) := ⟨rfl, rfl, rfl, by decide +kernel, rfl, by decide +kernel, by decide +kernel⟩
theorem ir_length_of_ok : cSs 60 ⟨["book", "name", "path", "many", "lets", "changes", "word"], defScope (topS 38), [], ["Book", "book"]⟩ (defBody (topS 38)) = ir_length_of := by kernel_rfl
theorem sc_is_call : FnScope ["book", "thing", "part"] ["book", "thing"] (defScope (topS 16)) := ⟨rfl, rfl, rfl, by decide +kernel, rfl, by decide +kernel, by decide +kernel⟩
theorem ir_is_call_ok : cSs 60 ⟨["book", "thing", "part"], defScope (topS 16), [], ["Book", "book"]⟩ (defBody (topS 16)) = ir_is_call := by kernel_rfl
theorem sc_called : FnScope ["book", "call", "own"] ["book", "call"] (defScope (topS 17)) := ⟨rfl, rfl, rfl, by decide +kernel, rfl, by decide +kernel, by decide +kernel⟩
theorem ir_called_ok : cSs 60 ⟨["book", "call", "own"], defScope (topS 17), [], ["Book", "book"]⟩ (defBody (topS 17)) = ir_called := by kernel_rfl
theorem sc_lined : FnScope ["book", "lines", "call", "word"] ["book", "lines"] (defScope (topS 18)) := ⟨rfl, rfl, rfl, by decide +kernel, rfl, by decide +kernel, by decide +kernel⟩
theorem ir_lined_ok : cSs 60 ⟨["book", "lines", "call", "word"], defScope (topS 18), [], ["Book", "book"]⟩ (defBody (topS 18)) = ir_lined := by kernel_rfl
theorem sc_bound_of : FnScope ["book", "lines", "best", "hidden", "place", "call", "word", "size"] ["book", "lines"] (defScope (topS 40)) := ⟨rfl, rfl, rfl, by decide +kernel, rfl, by decide +kernel, by decide +kernel⟩
theorem ir_bound_of_ok : cSs 60 ⟨["book", "lines", "best", "hidden", "place", "call", "word", "size"], defScope (topS 40), [], ["Book", "book"]⟩ (defBody (topS 40)) = ir_bound_of := by kernel_rfl
theorem sc_most_calls : FnScope ["book", "lines"] ["book", "lines"] (defScope (topS 41)) := ⟨rfl, rfl, rfl, by decide +kernel, rfl, by decide +kernel, by decide +kernel⟩
theorem ir_most_calls_ok : cSs 60 ⟨["book", "lines"], defScope (topS 41), [], ["Book", "book"]⟩ (defBody (topS 41)) = ir_most_calls := by kernel_rfl
theorem sc_law_is_number : FnScope ["_law_matter"] ["_law_matter"] (defScope (topS 49)) := ⟨rfl, rfl, rfl, by decide +kernel, rfl, by decide +kernel, by decide +kernel⟩
theorem ir_law_is_number_ok : cSs 60 ⟨["_law_matter"], defScope (topS 49), [], ["Book"]⟩ (defBody (topS 49)) = ir_law_is_number := by kernel_rfl
theorem sc_law_of : FnScope ["_law_box_here", "_law_some"] ["_law_box_here", "_law_some"] (defScope (topS 46)) := ⟨rfl, rfl, rfl, by decide +kernel, rfl, by decide +kernel, by decide +kernel⟩
theorem ir_law_of_ok : cSs 60 ⟨["_law_box_here", "_law_some"], defScope (topS 46), [], ["Book"]⟩ (defBody (topS 46)) = ir_law_of := by kernel_rfl
theorem sc_law_names : FnScope ["_law_box_here", "_law_many", "_law_found", "_law_k", "_law_word_so", "_law_lap"] ["_law_box_here", "_law_many"] (defScope (topS 50)) := ⟨rfl, rfl, rfl, by decide +kernel, rfl, by decide +kernel, by decide +kernel⟩
theorem ir_law_names_ok : cSs 60 ⟨["_law_box_here", "_law_many", "_law_found", "_law_k", "_law_word_so", "_law_lap"], defScope (topS 50), ["_law_found"], ["Book"]⟩ (defBody (topS 50)) = ir_law_names := by kernel_rfl
theorem sc_law_pool : FnScope ["_law_box_here", "_law_low_so"] ["_law_box_here"] (defScope (topS 51)) := ⟨rfl, rfl, rfl, by decide +kernel, rfl, by decide +kernel, by decide +kernel⟩
theorem ir_law_pool_ok : cSs 60 ⟨["_law_box_here", "_law_low_so"], defScope (topS 51), [], ["Book"]⟩ (defBody (topS 51)) = ir_law_pool := by kernel_rfl
theorem sc_law_say : FnScope ["_law_box_here", "_law_fields_so", "_law_terms_so", "_law_words_so", "_law_changes_so", "_law_lap", "_law_key_so", "_law_sort_so", "_law_own"] ["_law_box_here", "_law_fields_so", "_law_terms_so", "_law_words_so"] (defScope (topS 52)) := ⟨rfl, rfl, rfl, by decide +kernel, rfl, by decide +kernel, by decide +kernel⟩
theorem ir_law_say_ok : cSs 60 ⟨["_law_box_here", "_law_fields_so", "_law_terms_so", "_law_words_so", "_law_changes_so", "_law_lap", "_law_key_so", "_law_sort_so", "_law_own"], defScope (topS 52), ["_law_changes_so"], ["Book"]⟩ (defBody (topS 52)) = ir_law_say := by kernel_rfl
theorem sc_law_body : FnScope ["_law_box_here", "_law_fields_so", "_law_terms_so", "_law_sure_so", "_law_tests_so", "_law_lets_so", "_law_words_so", "_law_name_so", "_law_spot", "_law_field_so", "_law_rest", "_law_first_so", "_law_head", "_law_one_so", "_law_key_so", "_law_other_so"] ["_law_box_here", "_law_fields_so", "_law_terms_so", "_law_sure_so", "_law_tests_so", "_law_lets_so", "_law_words_so"] (defScope (topS 53)) := ⟨rfl, rfl, rfl, by decide +kernel, rfl, by decide +kernel, by decide +kernel⟩
theorem ir_law_body_ok : cSs 60 ⟨["_law_box_here", "_law_fields_so", "_law_terms_so", "_law_sure_so", "_law_tests_so", "_law_lets_so", "_law_words_so", "_law_name_so", "_law_spot", "_law_field_so", "_law_rest", "_law_first_so", "_law_head", "_law_one_so", "_law_key_so", "_law_other_so"], defScope (topS 53), [], ["Book"]⟩ (defBody (topS 53)) = ir_law_body := by kernel_rfl
theorem sc_law_kind : FnScope ["_law_box_here", "_law_fields_so", "_law_name_so", "_law_words_so", "_law_lets_so", "_law_most_tests", "_law_consts_so", "_law_names_so", "_law_terms_so", "_law_body_so"] ["_law_box_here", "_law_fields_so", "_law_name_so", "_law_words_so", "_law_lets_so", "_law_most_tests", "_law_consts_so"] (defScope (topS 54)) := ⟨rfl, rfl, rfl, by decide +kernel, rfl, by decide +kernel, by decide +kernel⟩
theorem ir_law_kind_ok : cSs 60 ⟨["_law_box_here", "_law_fields_so", "_law_name_so", "_law_words_so", "_law_lets_so", "_law_most_tests", "_law_consts_so", "_law_names_so", "_law_terms_so", "_law_body_so"], defScope (topS 54), [], ["Book"]⟩ (defBody (topS 54)) = ir_law_kind := by kernel_rfl
theorem sc_law_call : FnScope ["_law_box_here", "_law_book_so", "_law_pool_so", "_law_own", "_law_name_so"] ["_law_box_here", "_law_book_so", "_law_pool_so"] (defScope (topS 55)) := ⟨rfl, rfl, rfl, by decide +kernel, rfl, by decide +kernel, by decide +kernel⟩
theorem ir_law_call_ok : cSs 60 ⟨["_law_box_here", "_law_book_so", "_law_pool_so", "_law_own", "_law_name_so"], defScope (topS 55), [], ["Book"]⟩ (defBody (topS 55)) = ir_law_call := by kernel_rfl
theorem sc_law_calls : FnScope ["_law_box_here", "_law_book_so", "_law_pool_so", "_law_many_so", "_law_lap"] ["_law_box_here", "_law_book_so", "_law_pool_so", "_law_many_so"] (defScope (topS 56)) := ⟨rfl, rfl, rfl, by decide +kernel, rfl, by decide +kernel, by decide +kernel⟩
theorem ir_law_calls_ok : cSs 60 ⟨["_law_box_here", "_law_book_so", "_law_pool_so", "_law_many_so", "_law_lap"], defScope (topS 56), [], ["Book"]⟩ (defBody (topS 56)) = ir_law_calls := by kernel_rfl
theorem sc_law_kind_of : FnScope ["_law_book_so", "_law_name_so", "_law_own"] ["_law_book_so", "_law_name_so"] (defScope (topS 57)) := ⟨rfl, rfl, rfl, by decide +kernel, rfl, by decide +kernel, by decide +kernel⟩
theorem ir_law_kind_of_ok : cSs 60 ⟨["_law_book_so", "_law_name_so", "_law_own"], defScope (topS 57), [], ["Book"]⟩ (defBody (topS 57)) = ir_law_kind_of := by kernel_rfl
theorem sc_law_says : FnScope ["_law_body_so", "_law_many_so", "_law_lets_so"] ["_law_body_so", "_law_many_so", "_law_lets_so"] (defScope (topS 58)) := ⟨rfl, rfl, rfl, by decide +kernel, rfl, by decide +kernel, by decide +kernel⟩
theorem ir_law_says_ok : cSs 60 ⟨["_law_body_so", "_law_many_so", "_law_lets_so"], defScope (topS 58), [], ["Book"]⟩ (defBody (topS 58)) = ir_law_says := by kernel_rfl
theorem sc_law_tells : FnScope ["_law_says_so", "_law_many_so", "_law_lets_so", "_law_changes_so", "_law_word_so", "_law_change_so", "_law_bits", "_law_own", "_law_bit"] ["_law_says_so"] (defScope (topS 59)) := ⟨rfl, rfl, rfl, by decide +kernel, rfl, by decide +kernel, by decide +kernel⟩
theorem ir_law_tells_ok : cSs 60 ⟨["_law_says_so", "_law_many_so", "_law_lets_so", "_law_changes_so", "_law_word_so", "_law_change_so", "_law_bits", "_law_own", "_law_bit"], defScope (topS 59), [], ["Book"]⟩ (defBody (topS 59)) = ir_law_tells := by kernel_rfl
theorem sc_law_due : FnScope ["_law_book_so", "_law_lines_so", "_law_found", "_law_hidden", "_law_place", "_law_says_so", "_law_long_so", "_law_own"] ["_law_book_so", "_law_lines_so"] (defScope (topS 60)) := ⟨rfl, rfl, rfl, by decide +kernel, rfl, by decide +kernel, by decide +kernel⟩
theorem ir_law_due_ok : cSs 60 ⟨["_law_book_so", "_law_lines_so", "_law_found", "_law_hidden", "_law_place", "_law_says_so", "_law_long_so", "_law_own"], defScope (topS 60), ["_law_found"], ["Book"]⟩ (defBody (topS 60)) = ir_law_due := by kernel_rfl
theorem sc_law_mixed : FnScope ["_law_box_here", "_law_matter", "_law_bits", "_law_bit"] ["_law_box_here", "_law_matter"] (defScope (topS 47)) := ⟨rfl, rfl, rfl, by decide +kernel, rfl, by decide +kernel, by decide +kernel⟩
theorem ir_law_mixed_ok : cSs 60 ⟨["_law_box_here", "_law_matter", "_law_bits", "_law_bit"], defScope (topS 47), [], ["Book"]⟩ (defBody (topS 47)) = ir_law_mixed := by kernel_rfl
theorem sc_law_same : FnScope ["_law_got", "_law_due_here", "_law_key", "_law_mine", "_law_its"] ["_law_got", "_law_due_here"] (defScope (topS 48)) := ⟨rfl, rfl, rfl, by decide +kernel, rfl, by decide +kernel, by decide +kernel⟩
theorem ir_law_same_ok : cSs 60 ⟨["_law_got", "_law_due_here", "_law_key", "_law_mine", "_law_its"], defScope (topS 48), [], ["Book", "_law_mine"]⟩ (defBody (topS 48)) = ir_law_same := by kernel_rfl
theorem sc_law_by_hand_right : FnScope ["_law_make_so", "_law_link_so", "_law_copy_so", "_law_mine", "_law_rows", "_law_flip_so", "_law_flips_so", "_law_told_so", "_law_own"] [] (defScope (topS 61)) := ⟨rfl, rfl, rfl, by decide +kernel, rfl, by decide +kernel, by decide +kernel⟩
theorem ir_law_by_hand_right_ok : cSs 60 ⟨["_law_make_so", "_law_link_so", "_law_copy_so", "_law_mine", "_law_rows", "_law_flip_so", "_law_flips_so", "_law_told_so", "_law_own"], defScope (topS 61), [], ["Book", "_law_mine"]⟩ (defBody (topS 61)) = ir_law_by_hand_right := by kernel_rfl
theorem sc_law_right : FnScope ["_law_box_here", "_law_turn", "_law_fields_so", "_law_words_so", "_law_kinds_so", "_law_name_so", "_law_book_so", "_law_calls_so", "_law_lines_so", "_law_mine", "_law_due_here", "_law_call_so"] ["_law_box_here"] (defScope (topS 62)) := ⟨rfl, rfl, rfl, by decide +kernel, rfl, by decide +kernel, by decide +kernel⟩
theorem ir_law_right_ok : cSs 60 ⟨["_law_box_here", "_law_turn", "_law_fields_so", "_law_words_so", "_law_kinds_so", "_law_name_so", "_law_book_so", "_law_calls_so", "_law_lines_so", "_law_mine", "_law_due_here", "_law_call_so"], defScope (topS 62), ["_law_kinds_so"], ["Book", "_law_mine"]⟩ (defBody (topS 62)) = ir_law_right := by kernel_rfl
theorem sc_Book_contains : FnScope ["self", "x", "kind"] ["self", "x"] (defScope (inClass (topS 28) 8)) := ⟨rfl, rfl, rfl, by decide +kernel, rfl, by decide +kernel, by decide +kernel⟩
theorem ir_Book_contains_ok : cSs 60 ⟨["self", "x", "kind"], defScope (inClass (topS 28) 8), [], ["Book"]⟩ (defBody (inClass (topS 28) 8)) = ir_Book_contains := by kernel_rfl
theorem sc_Book_getitem : FnScope ["self", "at", "kind"] ["self", "at"] (defScope (inClass (topS 28) 9)) := ⟨rfl, rfl, rfl, by decide +kernel, rfl, by decide +kernel, by decide +kernel⟩
theorem ir_Book_getitem_ok : cSs 60 ⟨["self", "at", "kind"], defScope (inClass (topS 28) 9), [], ["Book"]⟩ (defBody (inClass (topS 28) 9)) = ir_Book_getitem := by kernel_rfl
theorem m_Book_contains (M : Md w K mg tab0) (B : FlB K) (d : MF K "__contains__" "Book.__contains__" (inClass (topS 28) 8)) : MeQ P w K mg base 2 "Book" "__contains__" fsHas := me_q (mu := []) (ob := ["Book"]) d sc_Book_contains (fun f fd F => F.binds fun _ _ _ _ _ _ us hl => match us, hl with | [_, _], _ => rfl) ir_Book_contains ir_Book_contains_ok M B (by decide) (fun ds n Q E h => by obtain ⟨_, _, _, rfl, _⟩ := h; rfl) (fun ds n Q E h => b_Book_contains rfl h)
theorem m_Book_getitem (M : Md w K mg tab0) (B : FlB K) (d : MF K "__getitem__" "Book.__getitem__" (inClass (topS 28) 9)) : MeQ P w K mg base 2 "Book" "__getitem__" fsGet := me_q (mu := []) (ob := ["Book"]) d sc_Book_getitem (fun f fd F => F.binds fun _ _ _ _ _ _ us hl => match us, hl with | [_, _], _ => rfl) ir_Book_getitem ir_Book_getitem_ok M B (by decide) (fun ds n Q E h => by obtain ⟨_, _, _, rfl, _⟩ := h; rfl) (fun ds n Q E h => b_Book_getitem rfl h)
theorem q_is_number (M : Md w K mg tab0) (B : FlB K) (d : ∃ f, DF K mg "is_number" (topS 5) f)  : FnQ P w K mg base 1 "is_number" fsNum := fn_q (mu := []) (ob := ["Book"]) d sc_is_number (fun f fd F => F.binds fun _ _ _ _ _ _ us hl => match us, hl with | [_], _ => rfl) [] [] [] [] ir_is_number ir_is_number_ok M (tq_mk B .nil .nil .nil .nil) (by decide) (fun ds n Q E h => by obtain ⟨_, rfl, _⟩ := h; rfl) (fun ds n Q E h => b_is_number h)
theorem q_is_name (M : Md w K mg tab0) (B : FlB K) (d : ∃ f, DF K mg "is_name" (topS 6) f)  : FnQ P w K mg base 1 "is_name" fsName := fn_q (mu := []) (ob := ["Book"]) d sc_is_name (fun f fd F => F.binds fun _ _ _ _ _ _ us hl => match us, hl with | [_], _ => rfl) [] [] [] [] ir_is_name ir_is_name_ok M (tq_mk B .nil .nil .nil .nil) (by decide) (fun ds n Q E h => by obtain ⟨_, rfl, _⟩ := h; rfl) (fun ds n Q E h => b_is_name rfl rfl h)
theorem q_are_names (M : Md w K mg tab0) (B : FlB K) (d : ∃ f, DF K mg "are_names" (topS 7) f) (h0 : FnQ P w K mg base 1 "is_name" fsName) : FnQ P w K mg base 2 "are_names" fsNames := fn_q (mu := []) (ob := ["Book"]) d sc_are_names (fun f fd F => F.binds fun _ _ _ _ _ _ us hl => match us, hl with | [_, _, _], _ => rfl) [(("is_name" : Str), fsName)] [] [] [] ir_are_names ir_are_names_ok M (tq_mk B (.cons (h0.mono (by decide)) .nil) .nil .nil .nil) (by decide) (fun ds n Q E h => by obtain ⟨_, _, _, _, rfl, _⟩ := h; rfl) (fun ds n Q E h => b_are_names rfl h)
theorem q_is_term (M : Md w K mg tab0) (B : FlB K) (d : ∃ f, DF K mg "is_term" (topS 23) f) (h0 : FnQ P w K mg base 1 "is_number" fsNum) : FnQ P w K mg base 2 "is_term" fsTerm := fn_q (mu := []) (ob := ["Book"]) d sc_is_term (fun f fd F => F.binds fun _ _ _ _ _ _ us hl => match us, hl with | [_, _], _ => rfl) [(("is_number" : Str), fsNum)] [] [] [] ir_is_term ir_is_term_ok M (tq_mk B (.cons (h0.mono (by decide)) .nil) .nil .nil .nil) (by decide) (fun ds n Q E h => by obtain ⟨_, _, rfl, _⟩ := h; rfl) (fun ds n Q E h => b_is_term rfl h)
theorem q_is_change (M : Md w K mg tab0) (B : FlB K) (d : ∃ f, DF K mg "is_change" (topS 24) f) (h0 : FnQ P w K mg base 2 "is_term" fsTerm) : FnQ P w K mg base 3 "is_change" fsChange := fn_q (mu := []) (ob := ["Book"]) d sc_is_change (fun f fd F => F.binds fun _ _ _ _ _ _ us hl => match us, hl with | [_, _, _], _ => rfl) [(("is_term" : Str), fsTerm)] [] [] [] ir_is_change ir_is_change_ok M (tq_mk B (.cons (h0.mono (by decide)) .nil) .nil .nil .nil) (by decide) (fun ds n Q E h => by obtain ⟨_, _, _, _, rfl, _⟩ := h; rfl) (fun ds n Q E h => b_is_change rfl h)
theorem q_is_body (M : Md w K mg tab0) (B : FlB K) (d : ∃ f, DF K mg "is_body" (topS 25) f) (h0 : FnQ P w K mg base 1 "is_name" fsName) (h1 : FnQ P w K mg base 2 "is_term" fsTerm) (h2 : FnQ P w K mg base 3 "is_change" fsChange) : ∀ m, FnQ P w K mg base (3 + m + 1) "is_body" (fsBody m)
  | 0 => fn_q (mu := []) (ob := ["Book"]) d sc_is_body (fun f fd F => F.binds fun _ _ _ _ _ _ us hl => match us, hl with | [_, _, _, _], _ => rfl) [(("is_name" : Str), fsName), (("is_term" : Str), fsTerm), (("is_change" : Str), fsChange)] [] [] [] ir_is_body ir_is_body_ok M (tq_mk B (.cons (h0.mono (by omega)) (.cons (h1.mono (by omega)) (.cons (h2.mono (by omega)) .nil))) .nil .nil .nil) (by decide) (fun ds n Q E h => by obtain ⟨_, _, _, _, rfl, _⟩ := h; rfl) (fun ds n Q E h => b_is_body 0 rfl rfl rfl (fun j e => nomatch e) rfl h)
  | m + 1 => fn_q (mu := []) (ob := ["Book"]) d sc_is_body (fun f fd F => F.binds fun _ _ _ _ _ _ us hl => match us, hl with | [_, _, _, _], _ => rfl) [(("is_body" : Str), fsBody m), (("is_name" : Str), fsName), (("is_term" : Str), fsTerm), (("is_change" : Str), fsChange)] [] [] [] ir_is_body ir_is_body_ok M (tq_mk B (.cons ((q_is_body M B d h0 h1 h2 m).mono (by omega)) (.cons (h0.mono (by omega)) (.cons (h1.mono (by omega)) (.cons (h2.mono (by omega)) .nil)))) .nil .nil .nil) (by decide) (fun ds n Q E h => by obtain ⟨_, _, _, _, rfl, _⟩ := h; rfl) (fun ds n Q E h => b_is_body (m + 1) rfl rfl rfl (fun j e => by cases e; rfl) rfl h)
theorem q_is_kind_of (M : Md w K mg tab0) (B : FlB K) (d : ∃ f, DF K mg "is_kind_of" (topS 26) f) (h0 : FnQ P w K mg base 1 "is_name" fsName) (h1 : FnQ P w K mg base 2 "are_names" fsNames) (h2 : FnQ P w K mg base 24 "is_body" (fsBody 20)) : FnQ P w K mg base 25 "is_kind_of" (fsKind 20) := fn_q (mu := []) (ob := ["Book"]) d sc_is_kind_of (fun f fd F => F.binds fun _ _ _ _ _ _ us hl => match us, hl with | [_, _], _ => rfl) [(("is_name" : Str), fsName), (("are_names" : Str), fsNames), (("is_body" : Str), (fsBody 20))] [] [] [] ir_is_kind_of ir_is_kind_of_ok M (tq_mk B (.cons (h0.mono (by decide)) (.cons (h1.mono (by decide)) (.cons (h2.mono (by decide)) .nil))) .nil .nil .nil) (by decide) (fun ds n Q E h => by obtain ⟨_, _, rfl, _⟩ := h; rfl) (fun ds n Q E h => b_is_kind_of 20 (by decide) rfl rfl rfl rfl h)
theorem q_tupled (M : Md w K mg tab0) (B : FlB K) (d : ∃ f, DF K mg "tupled" (topS 4) f)  : ∀ m, FnQ P w K mg base (0 + m + 1) "tupled" (fsTupled m)
  | 0 => fn_q (mu := []) (ob := ["Book"]) d sc_tupled (fun f fd F => F.binds fun _ _ _ _ _ _ us hl => match us, hl with | [_], _ => rfl) [] [] [] [] ir_tupled ir_tupled_ok M (tq_mk B .nil .nil .nil .nil) (by decide) (fun ds n Q E h => by obtain ⟨_, rfl, _⟩ := h; rfl) (fun ds n Q E h => b_tupled 0 (fun j e => nomatch e) h)
  | m + 1 => fn_q (mu := []) (ob := ["Book"]) d sc_tupled (fun f fd F => F.binds fun _ _ _ _ _ _ us hl => match us, hl with | [_], _ => rfl) [(("tupled" : Str), fsTupled m)] [] [] [] ir_tupled ir_tupled_ok M (tq_mk B (.cons ((q_tupled M B d  m).mono (by omega)) .nil) .nil .nil .nil) (by decide) (fun ds n Q E h => by obtain ⟨_, rfl, _⟩ := h; rfl) (fun ds n Q E h => b_tupled (m + 1) (fun j e => by cases e; rfl) h)
theorem q_terms_of (M : Md w K mg tab0) (B : FlB K) (d : ∃ f, DF K mg "terms_of" (topS 32) f)  : FnQ P w K mg base 1 "terms_of" fsTerms := fn_q (mu := []) (ob := ["Book"]) d sc_terms_of (fun f fd F => F.binds fun _ _ _ _ _ _ us hl => match us, hl with | [_], _ => rfl) [] [] [] [] ir_terms_of ir_terms_of_ok M (tq_mk B .nil .nil .nil .nil) (by decide) (fun ds n Q E h => by obtain ⟨_, rfl, _⟩ := h; rfl) (fun ds n Q E h => b_terms_of h)
theorem q_has_read_name (M : Md w K mg tab0) (B : FlB K) (d : ∃ f, DF K mg "has_read_name" (topS 34) f) (h0 : FnQ P w K mg base 1 "terms_of" fsTerms) : FnQ P w K mg base 2 "has_read_name" fsRead := fn_q (mu := []) (ob := ["Book"]) d sc_has_read_name (fun f fd F => F.binds fun _ _ _ _ _ _ us hl => match us, hl with | [_, _], _ => rfl) [(("terms_of" : Str), fsTerms)] [] [] [] ir_has_read_name ir_has_read_name_ok M (tq_mk B (.cons (h0.mono (by decide)) .nil) .nil .nil .nil) (by decide) (fun ds n Q E h => by obtain ⟨_, _, rfl, _⟩ := h; rfl) (fun ds n Q E h => b_has_read_name rfl h)
theorem q_hides (M : Md w K mg tab0) (B : FlB K) (d : ∃ f, DF K mg "hides" (topS 35) f) (h0 : FnQ P w K mg base 2 "has_read_name" fsRead) : FnQ P w K mg base 3 "hides" fsHides := fn_q (mu := []) (ob := ["Book"]) d sc_hides (fun f fd F => F.binds fun _ _ _ _ _ _ us hl => match us, hl with | [_, _], _ => rfl) [(("has_read_name" : Str), fsRead)] [] [] [] ir_hides ir_hides_ok M (tq_mk B (.cons (h0.mono (by decide)) .nil) .nil .nil .nil) (by decide) (fun ds n Q E h => by obtain ⟨_, _, rfl, _⟩ := h; rfl) (fun ds n Q E h => b_hides rfl h)
theorem q_branches_of (M : Md w K mg tab0) (B : FlB K) (d : ∃ f, DF K mg "branches_of" (topS 27) f)  : ∀ m, FnQ P w K mg base (0 + m + 1) "branches_of" (fsBrs m)
  | 0 => fn_q (mu := ["found"]) (ob := ["Book"]) d sc_branches_of (fun f fd F => F.binds fun _ _ _ _ _ _ us hl => match us, hl with | [_], _ => rfl) [] [] [] [] ir_branches_of ir_branches_of_ok M (tq_mk B .nil .nil .nil .nil) (by decide) (fun ds n Q E h => by obtain ⟨_, rfl, _⟩ := h; rfl) (fun ds n Q E h => b_branches_of 0 (fun j e => nomatch e) h)
  | m + 1 => fn_q (mu := ["found"]) (ob := ["Book"]) d sc_branches_of (fun f fd F => F.binds fun _ _ _ _ _ _ us hl => match us, hl with | [_], _ => rfl) [(("branches_of" : Str), fsBrs m)] [] [] [] ir_branches_of ir_branches_of_ok M (tq_mk B (.cons ((q_branches_of M B d  m).mono (by omega)) .nil) .nil .nil .nil) (by decide) (fun ds n Q E h => by obtain ⟨_, rfl, _⟩ := h; rfl) (fun ds n Q E h => b_branches_of (m + 1) (fun j e => by cases e; rfl) h)
theorem q_hiding (M : Md w K mg tab0) (B : FlB K) (d : ∃ f, DF K mg "hiding" (topS 36) f) (h0 : FnQ P w K mg base 9 "branches_of" (fsBrs 8)) (h1 : FnQ P w K mg base 3 "hides" fsHides) (m0 : MeQ P w K mg base 2 "Book" "__getitem__" fsGet) : FnQ P w K mg base 10 "hiding" fsHiding := fn_q (mu := []) (ob := ["Book", "book"]) d sc_hiding (fun f fd F => F.binds fun _ _ _ _ _ _ us hl => match us, hl with | [_, _], _ => rfl) [(("branches_of" : Str), (fsBrs 8)), (("hides" : Str), fsHides)] [(("__getitem__" : Str), fsGet)] [] [] ir_hiding ir_hiding_ok M (tq_mk B (.cons (h0.mono (by decide)) (.cons (h1.mono (by decide)) .nil)) (.cons (m0.mono (by decide)) .nil) .nil .nil) (by decide) (fun ds n Q E h => by obtain ⟨_, _, _, rfl, _⟩ := h; rfl) (fun ds n Q E h => b_hiding rfl rfl rfl h)
theorem q_is_telling (M : Md w K mg tab0) (B : FlB K) (d : ∃ f, DF K mg "is_telling" (topS 37) f) (h0 : FnQ P w K mg base 10 "hiding" fsHiding) : FnQ P w K mg base 11 "is_telling" fsTelling := fn_q (mu := []) (ob := ["Book", "book"]) d sc_is_telling (fun f fd F => F.binds fun _ _ _ _ _ _ us hl => match us, hl with | [_, _], _ => rfl) [(("hiding" : Str), fsHiding)] [] [] [] ir_is_telling ir_is_telling_ok M (tq_mk B (.cons (h0.mono (by decide)) .nil) .nil .nil .nil) (by decide) (fun ds n Q E h => by obtain ⟨_, _, _, rfl, _⟩ := h; rfl) (fun ds n Q E h => b_is_telling rfl h)
theorem q_length_of (M : Md w K mg tab0) (B : FlB K) (d : ∃ f, DF K mg "length_of" (topS 38) f) (h0 : FnQ P w K mg base 9 "branches_of" (fsBrs 8)) (m0 : MeQ P w K mg base 2 "Book" "__getitem__" fsGet) : FnQ P w K mg base 10 "length_of" fsLength := fn_q (mu := []) (ob := ["Book", "book"]) d sc_length_of (fun f fd F => F.binds fun _ _ _ _ _ _ us hl => match us, hl with | [_, _], _ => rfl) [(("branches_of" : Str), (fsBrs 8))] [(("__getitem__" : Str), fsGet)] [] [] ir_length_of ir_length_of_ok M (tq_mk B (.cons (h0.mono (by decide)) .nil) (.cons (m0.mono (by decide)) .nil) .nil .nil) (by decide) (fun ds n Q E h => by obtain ⟨_, _, _, rfl, _⟩ := h; rfl) (fun ds n Q E h => b_length_of rfl rfl h)
theorem q_is_call (M : Md w K mg tab0) (B : FlB K) (d : ∃ f, DF K mg "is_call" (topS 16) f) (h0 : FnQ P w K mg base 1 "is_number" fsNum) (m0 : MeQ P w K mg base 2 "Book" "__getitem__" fsGet) (m1 : MeQ P w K mg base 2 "Book" "__contains__" fsHas) : FnQ P w K mg base 3 "is_call" fsIsCall := fn_q (mu := []) (ob := ["Book", "book"]) d sc_is_call (fun f fd F => F.binds fun _ _ _ _ _ _ us hl => match us, hl with | [_, _], _ => rfl) [(("is_number" : Str), fsNum)] [(("__getitem__" : Str), fsGet), (("__contains__" : Str), fsHas)] [] [] ir_is_call ir_is_call_ok M (tq_mk B (.cons (h0.mono (by decide)) .nil) (.cons (m0.mono (by decide)) (.cons (m1.mono (by decide)) .nil)) .nil .nil) (by decide) (fun ds n Q E h => by obtain ⟨_, _, _, rfl, _⟩ := h; rfl) (fun ds n Q E h => b_is_call rfl rfl rfl h)
theorem q_called (M : Md w K mg tab0) (B : FlB K) (d : ∃ f, DF K mg "called" (topS 17) f) (h0 : FnQ P w K mg base 3 "tupled" (fsTupled 2)) (h1 : FnQ P w K mg base 3 "is_call" fsIsCall) : FnQ P w K mg base 4 "called" fsCalled := fn_q (mu := []) (ob := ["Book", "book"]) d sc_called (fun f fd F => F.binds fun _ _ _ _ _ _ us hl => match us, hl with | [_, _], _ => rfl) [(("tupled" : Str), (fsTupled 2)), (("is_call" : Str), fsIsCall)] [] [] [] ir_called ir_called_ok M (tq_mk B (.cons (h0.mono (by decide)) (.cons (h1.mono (by decide)) .nil)) .nil .nil .nil) (by decide) (fun ds n Q E h => by obtain ⟨_, _, _, _, rfl, _⟩ := h; rfl) (fun ds n Q E h => b_called rfl rfl h)
theorem q_lined (M : Md w K mg tab0) (B : FlB K) (d : ∃ f, DF K mg "lined" (topS 18) f) (h0 : FnQ P w K mg base 4 "called" fsCalled) : FnQ P w K mg base 5 "lined" fsLined := fn_q (mu := []) (ob := ["Book", "book"]) d sc_lined (fun f fd F => F.binds fun _ _ _ _ _ _ us hl => match us, hl with | [_, _], _ => rfl) [(("called" : Str), fsCalled)] [] [] [] ir_lined ir_lined_ok M (tq_mk B (.cons (h0.mono (by decide)) .nil) .nil .nil .nil) (by decide) (fun ds n Q E h => by obtain ⟨_, _, _, _, rfl, _⟩ := h; rfl) (fun ds n Q E h => b_lined rfl h)
theorem q_bound_of (M : Md w K mg tab0) (B : FlB K) (d : ∃ f, DF K mg "bound_of" (topS 40) f) (h0 : FnQ P w K mg base 10 "length_of" fsLength) (h1 : FnQ P w K mg base 11 "is_telling" fsTelling) : FnQ P w K mg base 12 "bound_of" fsBound := fn_q (mu := []) (ob := ["Book", "book"]) d sc_bound_of (fun f fd F => F.binds fun _ _ _ _ _ _ us hl => match us, hl with | [_, _], _ => rfl) [(("length_of" : Str), fsLength), (("is_telling" : Str), fsTelling)] [] [] [] ir_bound_of ir_bound_of_ok M (tq_mk B (.cons (h0.mono (by decide)) (.cons (h1.mono (by decide)) .nil)) .nil .nil .nil) (by decide) (fun ds n Q E h => by obtain ⟨_, _, _, rfl, _⟩ := h; rfl) (fun ds n Q E h => b_bound_of rfl rfl h)
theorem q_most_calls (M : Md w K mg tab0) (B : FlB K) (d : ∃ f, DF K mg "most_calls" (topS 41) f) (h0 : FnQ P w K mg base 12 "bound_of" fsBound) (h1 : FnQ P w K mg base 5 "lined" fsLined) : FnQ P w K mg base 13 "most_calls" fsMost := fn_q (mu := []) (ob := ["Book", "book"]) d sc_most_calls (fun f fd F => F.binds fun _ _ _ _ _ _ us hl => match us, hl with | [_, _], _ => rfl) [(("bound_of" : Str), fsBound), (("lined" : Str), fsLined)] [] [] [] ir_most_calls ir_most_calls_ok M (tq_mk B (.cons (h0.mono (by decide)) (.cons (h1.mono (by decide)) .nil)) .nil .nil .nil) (by decide) (fun ds n Q E h => by obtain ⟨_, _, _, _, rfl, _⟩ := h; rfl) (fun ds n Q E h => b_most_calls rfl rfl h)
theorem q_law_is_number (M : Md w K mg tab0) (B : FlB K) (d : ∃ f, DF K mg "_law_is_number" (topS 49) f)  : FnQ P w K mg base 1 "_law_is_number" fsNum := fn_q (mu := []) (ob := ["Book"]) d sc_law_is_number (fun f fd F => F.binds fun _ _ _ _ _ _ us hl => match us, hl with | [_], _ => rfl) [] [] [] [] ir_law_is_number ir_law_is_number_ok M (tq_mk B .nil .nil .nil .nil) (by decide) (fun ds n Q E h => by obtain ⟨_, rfl, _⟩ := h; rfl) (fun ds n Q E h => b_law_is_number h)
theorem q_law_of (M : Md w K mg tab0) (B : FlB K) (d : ∃ f, DF K mg "_law_of" (topS 46) f) (h0 : FnQ P w K mg base 1 "_law_take" fsTake) : FnQ P w K mg base 2 "_law_of" fsOf := fn_q (mu := []) (ob := ["Book"]) d sc_law_of (fun f fd F => F.binds fun _ _ _ _ _ _ us hl => match us, hl with | [_, _], _ => rfl) [(("_law_take" : Str), fsTake)] [] [] [] ir_law_of ir_law_of_ok M (tq_mk B (.cons (h0.mono (by decide)) .nil) .nil .nil .nil) (by decide) (fun ds n Q E h => by obtain ⟨_, _, rfl, _⟩ := h; rfl) (fun ds n Q E h => b_law_of rfl h)
theorem q_law_names (M : Md w K mg tab0) (B : FlB K) (d : ∃ f, DF K mg "_law_names" (topS 50) f) (h0 : FnQ P w K mg base 1 "_law_take" fsTake) (h1 : FnQ P w K mg base 2 "_law_of" fsOf) : FnQ P w K mg base 3 "_law_names" fsNamesG := fn_q (mu := ["_law_found"]) (ob := ["Book"]) d sc_law_names (fun f fd F => F.binds fun _ _ _ _ _ _ us hl => match us, hl with | [_, _], _ => rfl) [(("_law_take" : Str), fsTake), (("_law_of" : Str), fsOf)] [] [] [] ir_law_names ir_law_names_ok M (tq_mk B (.cons (h0.mono (by decide)) (.cons (h1.mono (by decide)) .nil)) .nil .nil .nil) (by decide) (fun ds n Q E h => by obtain ⟨_, rfl, _⟩ := h; rfl) (fun ds n Q E h => b_law_names rfl rfl h)
theorem q_law_pool (M : Md w K mg tab0) (B : FlB K) (d : ∃ f, DF K mg "_law_pool" (topS 51) f) (h0 : FnQ P w K mg base 1 "_law_take" fsTake) : FnQ P w K mg base 2 "_law_pool" fsPool := fn_q (mu := []) (ob := ["Book"]) d sc_law_pool (fun f fd F => F.binds fun _ _ _ _ _ _ us hl => match us, hl with | [_], _ => rfl) [(("_law_take" : Str), fsTake)] [] [] [] ir_law_pool ir_law_pool_ok M (tq_mk B (.cons (h0.mono (by decide)) .nil) .nil .nil .nil) (by decide) (fun ds n Q E h => by obtain ⟨rfl, _⟩ := h; rfl) (fun ds n Q E h => b_law_pool rfl h)
theorem q_law_say (M : Md w K mg tab0) (B : FlB K) (d : ∃ f, DF K mg "_law_say" (topS 52) f) (h0 : FnQ P w K mg base 1 "_law_take" fsTake) (h1 : FnQ P w K mg base 2 "_law_of" fsOf) : FnQ P w K mg base 3 "_law_say" fsSayG := fn_q (mu := ["_law_changes_so"]) (ob := ["Book"]) d sc_law_say (fun f fd F => F.binds fun _ _ _ _ _ _ us hl => match us, hl with | [_, _, _, _], _ => rfl) [(("_law_take" : Str), fsTake), (("_law_of" : Str), fsOf)] [] [] [] ir_law_say ir_law_say_ok M (tq_mk B (.cons (h0.mono (by decide)) (.cons (h1.mono (by decide)) .nil)) .nil .nil .nil) (by decide) (fun ds n Q E h => by obtain ⟨_, _, _, _, _, rfl, _⟩ := h; rfl) (fun ds n Q E h => b_law_say rfl rfl h)
theorem q_law_body (M : Md w K mg tab0) (B : FlB K) (d : ∃ f, DF K mg "_law_body" (topS 53) f) (h0 : FnQ P w K mg base 1 "_law_take" fsTake) (h1 : FnQ P w K mg base 2 "_law_of" fsOf) (h2 : FnQ P w K mg base 3 "_law_say" fsSayG) : ∀ m, FnQ P w K mg base (3 + m + 1) "_law_body" (fsBodyG m)
  | 0 => fn_q (mu := []) (ob := ["Book"]) d sc_law_body (fun f fd F => F.binds fun _ _ _ _ _ _ us hl => match us, hl with | [_, _, _, _, _, _, _], _ => rfl) [(("_law_take" : Str), fsTake), (("_law_of" : Str), fsOf), (("_law_say" : Str), fsSayG)] [] [] [] ir_law_body ir_law_body_ok M (tq_mk B (.cons (h0.mono (by omega)) (.cons (h1.mono (by omega)) (.cons (h2.mono (by omega)) .nil))) .nil .nil .nil) (by decide) (fun ds n Q E h => by obtain ⟨_, _, _, _, _, _, _, rfl, _⟩ := h; rfl) (fun ds n Q E h => b_law_body 0 rfl rfl rfl (fun j e => nomatch e) h)
  | m + 1 => fn_q (mu := []) (ob := ["Book"]) d sc_law_body (fun f fd F => F.binds fun _ _ _ _ _ _ us hl => match us, hl with | [_, _, _, _, _, _, _], _ => rfl) [(("_law_body" : Str), fsBodyG m), (("_law_take" : Str), fsTake), (("_law_of" : Str), fsOf), (("_law_say" : Str), fsSayG)] [] [] [] ir_law_body ir_law_body_ok M (tq_mk B (.cons ((q_law_body M B d h0 h1 h2 m).mono (by omega)) (.cons (h0.mono (by omega)) (.cons (h1.mono (by omega)) (.cons (h2.mono (by omega)) .nil)))) .nil .nil .nil) (by decide) (fun ds n Q E h => by obtain ⟨_, _, _, _, _, _, _, rfl, _⟩ := h; rfl) (fun ds n Q E h => b_law_body (m + 1) rfl rfl rfl (fun j e => by cases e; rfl) h)
theorem q_law_kind (M : Md w K mg tab0) (B : FlB K) (d : ∃ f, DF K mg "_law_kind" (topS 54) f) (h0 : FnQ P w K mg base 1 "_law_take" fsTake) (h1 : FnQ P w K mg base 2 "_law_of" fsOf) (h2 : FnQ P w K mg base 8 "_law_body" (fsBodyG 4)) : FnQ P w K mg base 9 "_law_kind" fsKindG := fn_q (mu := []) (ob := ["Book"]) d sc_law_kind (fun f fd F => F.binds fun _ _ _ _ _ _ us hl => match us, hl with | [_, _, _, _, _, _, _], _ => rfl) [(("_law_take" : Str), fsTake), (("_law_of" : Str), fsOf), (("_law_body" : Str), (fsBodyG 4))] [] [] [] ir_law_kind ir_law_kind_ok M (tq_mk B (.cons (h0.mono (by decide)) (.cons (h1.mono (by decide)) (.cons (h2.mono (by decide)) .nil))) .nil .nil .nil) (by decide) (fun ds n Q E h => by obtain ⟨_, _, _, _, _, rfl, _⟩ := h; rfl) (fun ds n Q E h => b_law_kind rfl rfl rfl h)
theorem q_law_call (M : Md w K mg tab0) (B : FlB K) (d : ∃ f, DF K mg "_law_call" (topS 55) f) (h0 : FnQ P w K mg base 2 "_law_of" fsOf) : FnQ P w K mg base 3 "_law_call" fsCallG := fn_q (mu := []) (ob := ["Book"]) d sc_law_call (fun f fd F => F.binds fun _ _ _ _ _ _ us hl => match us, hl with | [_, _, _], _ => rfl) [(("_law_of" : Str), fsOf)] [] [] [] ir_law_call ir_law_call_ok M (tq_mk B (.cons (h0.mono (by decide)) .nil) .nil .nil .nil) (by decide) (fun ds n Q E h => by obtain ⟨_, _, _, rfl, _⟩ := h; rfl) (fun ds n Q E h => b_law_call rfl h)
theorem q_law_calls (M : Md w K mg tab0) (B : FlB K) (d : ∃ f, DF K mg "_law_calls" (topS 56) f) (h0 : FnQ P w K mg base 3 "_law_call" fsCallG) : FnQ P w K mg base 4 "_law_calls" fsCallsG := fn_q (mu := []) (ob := ["Book"]) d sc_law_calls (fun f fd F => F.binds fun _ _ _ _ _ _ us hl => match us, hl with | [_, _, _, _], _ => rfl) [(("_law_call" : Str), fsCallG)] [] [] [] ir_law_calls ir_law_calls_ok M (tq_mk B (.cons (h0.mono (by decide)) .nil) .nil .nil .nil) (by decide) (fun ds n Q E h => by obtain ⟨_, _, _, _, rfl, _⟩ := h; rfl) (fun ds n Q E h => b_law_calls rfl h)
theorem q_law_kind_of (M : Md w K mg tab0) (B : FlB K) (d : ∃ f, DF K mg "_law_kind_of" (topS 57) f)  : FnQ P w K mg base 1 "_law_kind_of" fsKindOf := fn_q (mu := []) (ob := ["Book"]) d sc_law_kind_of (fun f fd F => F.binds fun _ _ _ _ _ _ us hl => match us, hl with | [_, _], _ => rfl) [] [] [] [] ir_law_kind_of ir_law_kind_of_ok M (tq_mk B .nil .nil .nil .nil) (by decide) (fun ds n Q E h => by obtain ⟨_, _, _, rfl, _⟩ := h; rfl) (fun ds n Q E h => b_law_kind_of h)
theorem q_law_says (M : Md w K mg tab0) (B : FlB K) (d : ∃ f, DF K mg "_law_says" (topS 58) f)  : ∀ m, FnQ P w K mg base (0 + m + 1) "_law_says" (fsSays m)
  | 0 => fn_q (mu := []) (ob := ["Book"]) d sc_law_says (fun f fd F => F.binds fun _ _ _ _ _ _ us hl => match us, hl with | [_, _, _], _ => rfl) [] [] [] [] ir_law_says ir_law_says_ok M (tq_mk B .nil .nil .nil .nil) (by decide) (fun ds n Q E h => by obtain ⟨_, _, _, rfl, _⟩ := h; rfl) (fun ds n Q E h => b_law_says 0 (fun j e => nomatch e) h)
  | m + 1 => fn_q (mu := []) (ob := ["Book"]) d sc_law_says (fun f fd F => F.binds fun _ _ _ _ _ _ us hl => match us, hl with | [_, _, _], _ => rfl) [(("_law_says" : Str), fsSays m)] [] [] [] ir_law_says ir_law_says_ok M (tq_mk B (.cons ((q_law_says M B d  m).mono (by omega)) .nil) .nil .nil .nil) (by decide) (fun ds n Q E h => by obtain ⟨_, _, _, rfl, _⟩ := h; rfl) (fun ds n Q E h => b_law_says (m + 1) (fun j e => by cases e; rfl) h)
theorem q_law_tells (M : Md w K mg tab0) (B : FlB K) (d : ∃ f, DF K mg "_law_tells" (topS 59) f)  : FnQ P w K mg base 1 "_law_tells" fsTells := fn_q (mu := []) (ob := ["Book"]) d sc_law_tells (fun f fd F => F.binds fun _ _ _ _ _ _ us hl => match us, hl with | [_], _ => rfl) [] [] [] [] ir_law_tells ir_law_tells_ok M (tq_mk B .nil .nil .nil .nil) (by decide) (fun ds n Q E h => by obtain ⟨_, rfl, _⟩ := h; rfl) (fun ds n Q E h => b_law_tells h)
theorem q_law_due (M : Md w K mg tab0) (B : FlB K) (d : ∃ f, DF K mg "_law_due" (topS 60) f) (h0 : FnQ P w K mg base 1 "_law_kind_of" fsKindOf) (h1 : FnQ P w K mg base 9 "_law_says" (fsSays 8)) (h2 : FnQ P w K mg base 1 "_law_tells" fsTells) : FnQ P w K mg base 10 "_law_due" fsDue := fn_q (mu := ["_law_found"]) (ob := ["Book"]) d sc_law_due (fun f fd F => F.binds fun _ _ _ _ _ _ us hl => match us, hl with | [_, _], _ => rfl) [(("_law_kind_of" : Str), fsKindOf), (("_law_says" : Str), (fsSays 8)), (("_law_tells" : Str), fsTells)] [] [] [] ir_law_due ir_law_due_ok M (tq_mk B (.cons (h0.mono (by decide)) (.cons (h1.mono (by decide)) (.cons (h2.mono (by decide)) .nil))) .nil .nil .nil) (by decide) (fun ds n Q E h => by obtain ⟨_, _, _, rfl, _⟩ := h; rfl) (fun ds n Q E h => b_law_due rfl rfl rfl h)
theorem q_law_mixed (M : Md w K mg tab0) (B : FlB K) (d : ∃ f, DF K mg "_law_mixed" (topS 47) f) (h0 : FnQ P w K mg base 1 "_law_take" fsTake) : ∀ m, FnQ P w K mg base (1 + m + 1) "_law_mixed" (fsMixed m)
  | 0 => fn_q (mu := []) (ob := ["Book"]) d sc_law_mixed (fun f fd F => F.binds fun _ _ _ _ _ _ us hl => match us, hl with | [_, _], _ => rfl) [(("_law_take" : Str), fsTake)] [] [] [] ir_law_mixed ir_law_mixed_ok M (tq_mk B (.cons (h0.mono (by omega)) .nil) .nil .nil .nil) (by decide) (fun ds n Q E h => by obtain ⟨_, rfl, _⟩ := h; rfl) (fun ds n Q E h => b_law_mixed 0 rfl (fun j e => nomatch e) h)
  | m + 1 => fn_q (mu := []) (ob := ["Book"]) d sc_law_mixed (fun f fd F => F.binds fun _ _ _ _ _ _ us hl => match us, hl with | [_, _], _ => rfl) [(("_law_mixed" : Str), fsMixed m), (("_law_take" : Str), fsTake)] [] [] [] ir_law_mixed ir_law_mixed_ok M (tq_mk B (.cons ((q_law_mixed M B d h0 m).mono (by omega)) (.cons (h0.mono (by omega)) .nil)) .nil .nil .nil) (by decide) (fun ds n Q E h => by obtain ⟨_, rfl, _⟩ := h; rfl) (fun ds n Q E h => b_law_mixed (m + 1) rfl (fun j e => by cases e; rfl) h)
theorem q_law_same0 (M : Md w K mg tab0) (B : FlB K) (d : ∃ f, DF K mg "_law_same" (topS 48) f) (h0 : FnQ P w K mg base 1 "_law_is_number" fsNum) : FnQ P w K mg base 2 "_law_same" fsSame0 := fn_q (mu := []) (ob := ["Book", "_law_mine"]) d sc_law_same (fun f fd F => F.binds fun _ _ _ _ _ _ us hl => match us, hl with | [_, _], _ => rfl) [(("_law_is_number" : Str), fsNum)] [] [] [] ir_law_same ir_law_same_ok M (tq_mk B (.cons (h0.mono (by decide)) .nil) .nil .nil .nil) (by decide) (fun ds n Q E h => by obtain ⟨_, _, rfl, _⟩ := h; rfl) (fun ds n Q E h => b_law_same0 rfl h)
theorem q_law_same (M : Md w K mg tab0) (B : FlB K) (d : ∃ f, DF K mg "_law_same" (topS 48) f) (h0 : FnQ P w K mg base 2 "_law_same" fsSame0) : FnQ P w K mg base 3 "_law_same" fsSame1 := fn_q (mu := []) (ob := ["Book", "_law_mine"]) d sc_law_same (fun f fd F => F.binds fun _ _ _ _ _ _ us hl => match us, hl with | [_, _], _ => rfl) [(("_law_same" : Str), fsSame0)] [] [] [] ir_law_same ir_law_same_ok M (tq_mk B (.cons (h0.mono (by decide)) .nil) .nil .nil .nil) (by decide) (fun ds n Q E h => by obtain ⟨_, _, rfl, _⟩ := h; rfl) (fun ds n Q E h => b_law_same1 rfl h)
theorem q_law_by_hand_right (M : Md w K mg tab0) (B : FlB K) (d : ∃ f, DF K mg "_law_by_hand_right" (topS 61) f) (h0 : FnQ P w K mg base 13 "most_calls" fsMost) (h1 : FnQ P w K mg base 3 "_law_same" fsSame1) (c0 : ClQ P w K mg base 27 "Book" fsBookC) : FnQ P w K mg base 28 "_law_by_hand_right" fsHand := fn_q (mu := []) (ob := ["Book", "_law_mine"]) d sc_law_by_hand_right (fun f fd F => F.binds fun _ _ _ _ _ _ us hl => match us, hl with | [], _ => rfl) [(("most_calls" : Str), fsMost), (("_law_same" : Str), fsSame1)] [] [(("Book" : Str), fsBookC)] [] ir_law_by_hand_right ir_law_by_hand_right_ok M (tq_mk B (.cons (h0.mono (by decide)) (.cons (h1.mono (by decide)) .nil)) .nil (.cons (c0.mono (by decide)) .nil) .nil) (by decide) (fun ds n Q E h => by obtain ⟨rfl, _⟩ := h; rfl) (fun ds n Q E h => b_law_by_hand rfl rfl rfl h)
theorem q_law_right (M : Md w K mg tab0) (B : FlB K) (d : ∃ f, DF K mg "_law_right" (topS 62) f) (h0 : FnQ P w K mg base 13 "most_calls" fsMost) (h1 : FnQ P w K mg base 3 "_law_same" fsSame1) (h2 : FnQ P w K mg base 28 "_law_by_hand_right" fsHand) (h3 : FnQ P w K mg base 3 "_law_names" fsNamesG) (h4 : FnQ P w K mg base 1 "_law_take" fsTake) (h5 : FnQ P w K mg base 9 "_law_kind" fsKindG) (h6 : FnQ P w K mg base 4 "_law_calls" fsCallsG) (h7 : FnQ P w K mg base 2 "_law_pool" fsPool) (h8 : FnQ P w K mg base 2 "_law_of" fsOf) (h9 : FnQ P w K mg base 10 "_law_due" fsDue) (h10 : FnQ P w K mg base 6 "_law_mixed" (fsMixed 4)) (c0 : ClQ P w K mg base 27 "Book" fsBookC) (k0 : KwQ P w K mg base 13 "most_calls" ["lines", "book"] fsMostK) : FnQ P w K mg base 29 "_law_right" fsRight := fn_q (mu := ["_law_kinds_so"]) (ob := ["Book", "_law_mine"]) d sc_law_right (fun f fd F => F.binds fun _ _ _ _ _ _ us hl => match us, hl with | [_], _ => rfl) [(("most_calls" : Str), fsMost), (("_law_same" : Str), fsSame1), (("_law_by_hand_right" : Str), fsHand), (("_law_names" : Str), fsNamesG), (("_law_take" : Str), fsTake), (("_law_kind" : Str), fsKindG), (("_law_calls" : Str), fsCallsG), (("_law_pool" : Str), fsPool), (("_law_of" : Str), fsOf), (("_law_due" : Str), fsDue), (("_law_mixed" : Str), (fsMixed 4))] [] [(("Book" : Str), fsBookC)] [(("most_calls" : Str), fsMostK)] ir_law_right ir_law_right_ok M (tq_mk B (.cons (h0.mono (by decide)) (.cons (h1.mono (by decide)) (.cons (h2.mono (by decide)) (.cons (h3.mono (by decide)) (.cons (h4.mono (by decide)) (.cons (h5.mono (by decide)) (.cons (h6.mono (by decide)) (.cons (h7.mono (by decide)) (.cons (h8.mono (by decide)) (.cons (h9.mono (by decide)) (.cons (h10.mono (by decide)) .nil))))))))))) .nil (.cons (c0.mono (by decide)) .nil) (.cons (k0.mono (by decide)) .nil)) (by decide) (fun ds n Q E h => by obtain ⟨rfl, _⟩ := h; rfl) (fun ds n Q E h => b_law_right rfl rfl rfl rfl rfl rfl rfl rfl rfl rfl rfl rfl rfl h)
abbrev stInit : Stmt := (inClass (topS 28) 0)
theorem sc_Book_init : FnScope ["self", "fields", "kinds", "own", "rows", "place", "kind", "names", "name"] ["self", "fields", "kinds"] (defScope stInit) := ⟨rfl, rfl, rfl, by decide +kernel, rfl, by decide +kernel, by decide +kernel⟩
def initB : List Stmt := (defBody stInit).dropLast
theorem ir_Book_init_ok : cSs 60 ⟨["self", "fields", "kinds", "own", "rows", "place", "kind", "names", "name"], defScope stInit, [], ["Book"]⟩ initB = ir_Book_init := by kernel_rfl
theorem c_Book (M : Md w K mg tab0) (B : FlB K) (d : CF K mg stInit) (h0 : FnQ P w K mg base 15 "tupled" (fsTupled 14)) (h1 : FnQ P w K mg base 2 "are_names" fsNames) (h2 : FnQ P w K mg base 25 "is_kind_of" (fsKind 20)) : ClQ P w K mg base 27 "Book" fsBookC := by
  obtain ⟨C, f, fd, a, g, m, F⟩ := d
  refine ⟨C, f, fd, ["self", "fields", "kinds"], 26, g, m, F.binds fun _ _ _ _ _ _ us hl => match us, hl with | [_, _, _], _ => rfl, by decide, ?_⟩
  refine mk_ok (c := "Book") (f1 := "own_fields") (f2 := "own_kinds") (slf := "self") (x1 := "own") (x2 := "rows") (i1 := 3) (i2 := 4) (sts := initB) F sc_Book_init (tabOf [(("tupled" : Str), fsTupled 14), (("are_names" : Str), fsNames), (("is_kind_of" : Str), fsKind 20)] [] [] []) 60 [] ["Book"] ir_Book_init (by rfl) ir_Book_init_ok (by decide +kernel) (md_of M) (tq_mk B (.cons (h0.mono (by decide)) (.cons (h1.mono (by decide)) (.cons (h2.mono (by decide)) .nil))) .nil .nil .nil) (by decide) a B.a B.b (by decide) rfl rfl rfl (by decide +kernel) (by decide +kernel) (by decide +kernel) (by decide +kernel) (by decide +kernel) (by decide +kernel) (fun ds n Q E h => ?_) (fun ds n Q o h => b_Book_init rfl rfl rfl rfl h)
  obtain ⟨_, _, _, _, rfl, _⟩ := h
  rfl
def turn2 {α : Type} : List α → List α
  | [a, b] => [b, a]
  | l => l
theorem k_most_calls (M : Md w K mg tab0) (B : FlB K) (d : ∃ f, DF K mg "most_calls" (topS 41) f) (h0 : FnQ P w K mg base 12 "bound_of" fsBound) (h1 : FnQ P w K mg base 5 "lined" fsLined) : KwQ P w K mg base 13 "most_calls" ["lines", "book"] fsMostK := by
  obtain ⟨f, g, fd, F⟩ := d
  refine ⟨f, fd, ["book", "lines"], fun _ ws => turn2 ws, fun _ zs => turn2 zs, spOf ⟨K, mg⟩ fsMost, g, F.kp, ⟨fun s us ws _ hu hw => ?_, fun {vs us zs ws} _ h2 => ?_⟩, fn_ok F sc_most_calls (tabOf [(("bound_of" : Str), fsBound), (("lined" : Str), fsLined)] [] [] []) 60 [] ["Book", "book"] ir_most_calls ir_most_calls_ok (md_of M) (tq_mk B (.cons (h0.mono (by decide)) (.cons (h1.mono (by decide)) .nil)) .nil .nil .nil) (by decide) (fun ds n Q E h => by obtain ⟨_, _, _, _, rfl, _⟩ := h; rfl) (fun ds n Q E h => b_most_calls rfl rfl h), fun zs H Q E h => ?_⟩
  · obtain ⟨oc, od, kV, doc, pm, an, cdv, ct, osl, rfl, lk, hcd⟩ := F.ex
    match us, hu, ws, hw with
    | [], _, [_, _], _ => exact .of_eq rfl
  · cases h2 with
    | nil => exact .nil
    | cons a h2 =>
      cases h2 with
      | nil => exact .cons a .nil
      | cons b h2 =>
        cases h2 with
        | nil => exact .cons b (.cons a .nil)
        | cons c h2 => exact .cons a (.cons b (.cons c h2))
  · obtain ⟨b, G, n, ds, Qd, Ex, ok, r, ⟨x, y, rfl, hm⟩, hx, hk⟩ := h
    cases r with
    | cons r1 r =>
      cases r with
      | cons r2 r =>
        cases r
        exact ⟨rfl, b, G, n, [y, x], Qd, Ex, ok, .cons r2 (.cons r1 .nil), hm, hx, hk⟩
end
end Dl

set_option Elab.async false
set_option linter.all false
set_option maxRecDepth 100000
set_option maxHeartbeats 4000000
/-! The law itself. -/
namespace Sg
open PySem PySem.Spec PyProof.Rows L2
abbrev sLaw : Stmt := topS 63
def spRight : Sp := fun vs H Q _ => ∃ b : Addr, vs = [.ref b] ∧ BoxAt H b 0 ∧ ∀ H', But b H H' → Q (.bl true) H'
section
variable {P : Program} {w : World} {K : PySem.W.Frag} {mg : Str → Option Value} {base : Heap}
theorem right_dn {f : Addr} {fd : FuncData} {k : Nat} {ps : List Str} (F : FnOk P w K mg base (L2.CX P w) k f fd ps (Dl.spOf ⟨K, mg⟩ Dl.fsRight)) : FnOk P w K mg base CX0 k f fd ps spRight := by
  refine (Dl.fn_dn F).imp fun vs H Q E h => ?_
  obtain ⟨b, rfl, ⟨x, y, z, e, hz⟩, q⟩ := h
  refine ⟨some b, fun _ => none, 0, [.box], fun d _ => d = .bl true, fun _ _ => False, ⟨fun a o h => (nomatch h), fun p hp => ?_⟩, .cons (.box rfl) .nil, ⟨rfl, by decide, fun _ => rfl⟩, fun cls d G' H' n' xx st rx z => z, fun v G' H' n' d st rr qq => ?_⟩
  · cases hp
    exact ⟨rfl, x, y, z, e, hz⟩
  · subst qq
    rw [Dl.rp_bl_inv rr]
    exact q H' fun c o nc ec => st.kp c o (fun e => nc (Option.some.inj e)) ec
def spLaw (K : PySem.W.Frag) : Sp := fun vs H Q _ => ∃ (a : Addr) (ns : List Int), vs = [.ref a] ∧ SqL K H a (ns.map V.int) ∧ ns.length ≤ 63 ∧ ∀ H', Q (.bl true) H'
abbrev nLaw : List Str := ["_law_script", "_law_cells_here", "_law_k"]
theorem scLaw : FnScope nLaw ["_law_script"] (defScope sLaw) := ⟨rfl, rfl, rfl, by decide +kernel, rfl, by decide +kernel, by decide +kernel⟩
theorem ok_law {psR : List Str} {f fC fB fR : Addr} {fd fdC fdB fdR : FuncData} (F : Fun K "law" "law" sLaw f fd) (T : Blt mg)
    (GC : FnOk P w K mg base CX0 1 fC fdC ["_law_script", "_law_most_so"] (spCells K)) (gC : mg "_law_cells" = some (.ref fC)) (kC : PySem.W.keepIn K (.ref fC) = true) (bC : Binds K fdC ["_law_script", "_law_most_so"] [])
    (GB : FnOk P w K mg base CX0 1 fB fdB ["_law_script", "_law_k"] (spBox K)) (gB : mg "_law_box" = some (.ref fB)) (kB : PySem.W.keepIn K (.ref fB) = true) (bB : Binds K fdB ["_law_script", "_law_k"] [])
    (GR : FnOk P w K mg base CX0 29 fR fdR psR spRight) (gR : mg "_law_right" = some (.ref fR)) (kR : PySem.W.keepIn K (.ref fR) = true) (bR : Binds K fdR psR []) :
    FnOk P w K mg base CX0 30 f fd ["_law_script"] (spLaw K) := by
  refine F.ok scLaw (fun vs H Q E h => ?_) (fun cdv A outer s H vs Q E hr h => ?_)
  · obtain ⟨a, ns, rfl, _⟩ := h
    rfl
  · obtain ⟨a, ns, rfl, hS, hlen, q⟩ := h
    refine ⟨_, pss_cons (ps_set (i := 1) scLaw.nd rfl (.inr rfl) (pe_call GC (hr.mono (by decide)) (by rfl) gC kC bC .nil pass0 (pa_cons (pv 0) (pa_cons pe_int pa_nil))))
      (pss_one (ps_ret (pe_callB (cr_all rfl) (by rfl) T.all (by decide +kernel) (pa_cons
        (pe_lc (te := tCall spRight [] E0 (tCons (tCall (spBox K) [] E0 (tCons (tVar 1) (tCons (tVar 2) tNil))) tNil)) (own := [("_law_k", 2)]) (g := gName 2) (tt := tYes) rfl scLaw.nd
          (pi_range1 (by rfl) T.range (pa_cons (pe_callB call_len_seq (by rfl) T.len boot_len (pa_cons (pv 1) pa_nil)) pa_nil))
          (blkOk_by (own := [("_law_k", 2)]) (N := nLaw) (sc := defScope sLaw) (by decide +kernel)) (fun _ _ _ _ _ => pg_name (i := 2) scLaw.nd rfl (.inl rfl)) (fun _ _ _ _ _ => pts_nil)
          (fun _ _ _ _ _ => pe_call GR (hr.mono (by decide)) (by rfl) gR kR bR .nil pass0 (pa_cons (pe_call GB (hr.mono (by decide)) (by rfl) gB kB bB .nil pass0 (pa_cons (pv 1) (pa_cons (pv 2) pa_nil))) pa_nil))) pa_nil)))), ?_⟩
    refine ⟨_, rfl, a, ns, 3, rfl, hS, hlen, by decide, by decide, fun p cs H1 np s1 h1 h2 hp => ?_⟩
    refine ⟨_, rfl, p, _, rfl, .inl (SqL.of hp), _, rfl, by omega, by rw [List.length_map]; omega, fun D nD => ?_⟩
    refine lc_range (lo := 0) (n := (((cs.map V.int).length : Nat) : Int).toNat) (fun j J => ∃ bs : List Bool, bs.length = j ∧ (∀ b ∈ bs, b = true) ∧ J D = some (.lst (bs.map V.bl)) ∧ Same H1 J) ?_ ?_ ?_
    · exact ⟨[], rfl, (fun b hb => absurd hb (by simp)), upd_same, same_upd nD⟩
    · rintro j J hj ⟨bs, hb, hbt, hD, sj⟩
      rw [List.length_map, Int.toNat_natCast] at hj
      refine ⟨rfl, _, rfl, _, rfl, p, cs, _, rfl, SqL.of (sj _ _ hp), by omega, by omega, fun b x y nb => ?_⟩
      have nbD : b ≠ D := (ne_of_none hD nb).symm
      refine ⟨b, rfl, ⟨x, y, 0, upd_same, by decide, by decide⟩, fun J2 bu => ?_⟩
      have s2 : Same J J2 := fun c o e => bu c o (ne_of_none e nb) (same_upd nb _ _ e)
      refine ⟨_, s2 _ _ hD, ?_, bs ++ [true], by rw [List.length_append, hb]; rfl, fun b hb' => ?_, by rw [upd_same, List.map_append]; rfl, fun c o e => ?_⟩
      · rw [List.length_map, hb, sizeLine_eq]
        omega
      · rcases List.mem_append.mp hb' with z | z
        · exact hbt b z
        · exact List.mem_singleton.mp z
      · rw [upd_ne (ne_of_none e nD)]
        exact s2 _ _ (sj _ _ e)
    · rintro J ⟨bs, hb, hbt, hD, sj⟩
      refine ⟨D, _, rfl, SqL.of hD, ?_⟩
      have ea : bs.all id = true := List.all_eq_true.mpr fun b hb' => hbt b hb'
      rw [ea]
      exact q _
end
end Sg

set_option Elab.async false
set_option linter.all false
set_option maxRecDepth 100000
set_option maxHeartbeats 4000000
/-! What the head tells, put together. -/
namespace Dl
open PySem PySem.Spec PyProof.Rows L2
theorem law_binds {K : PySem.W.Frag} {f : Addr} {fd : FuncData} (F : Fun K "law" "law" Sg.sLaw f fd) (s : Shared) (v : Value) : BindsTo s fd ⟨[v], []⟩ [("_law_script", v)] := by
  obtain ⟨oc, od, kV, doc, pm, an, cdv, ct, osl, rfl, lk, hcd⟩ := F.ex
  exact .of_eq rfl
section
variable {P : Program} {w : World} {K : PySem.W.Frag} {h : Heap} {mg : Str → Option Value}
theorem def_mk {nm : Str} {st : Stmt} {f : Addr} {oc kV doc pm cdv ct : Value} {od an : Option Addr} {osl : Array (Option Value)} (X : K.In h) (G : h.Ns mainGlobals mg) (a : PySem.W.nsIn K mainGlobals nm = some (some (.ref f)))
    (l1 : K.lookup f = some ⟨oc, od, .func (PySem.W.fnOf nm nm (defArgs st) (defBody st) (defScope st) .none kV doc pm an cdv ct), osl⟩) (c : PySem.W.codeIn K cdv nm = true) (k : PySem.W.keepIn K (.ref f) = true) : ∃ f, DF K mg nm st f :=
  ⟨f, PySem.W.mg_of X G a, _, fun_mk l1 c k⟩
theorem def_mkL {nm : Str} {st : Stmt} {f fa : Addr} {oc kV doc pm cdv ct : Value} {od an : Option Addr} {osl : Array (Option Value)} (X : K.In h) (G : h.Ns mainGlobals mg) (hfa : mg nm = some (.ref fa)) (a : PySem.W.nsIn K mainGlobals nm = some (some (.ref f)))
    (l1 : K.lookup f = some ⟨oc, od, .func (PySem.W.fnOf nm nm (defArgs st) (defBody st) (defScope st) .none kV doc pm an cdv ct), osl⟩) (c : PySem.W.codeIn K cdv nm = true) (k : PySem.W.keepIn K (.ref f) = true) : DF K mg nm st fa := by
  have e := hfa.symm.trans (PySem.W.mg_of X G a)
  cases e
  exact ⟨PySem.W.mg_of X G a, _, fun_mk l1 c k⟩
theorem fl_mk {C : Addr} (aC : PySem.W.nsIn K mainGlobals "Book" = some (some (.ref C))) (pg : PySem.W.plainGet K C Str.empty = true) (hd : PySem.W.hasDictIn K C = true) (po : PySem.W.plainOver K C = true) (sa : PySem.W.findIn K (.ref C) "__setattr__" = some (some (.builtin "object.__setattr__")))
    (n1 : PySem.W.findIn K (.ref C) "own_fields" = some none) (n2 : PySem.W.findIn K (.ref C) "own_kinds" = some none) : FlB K := ⟨⟨C, aC, ⟨pg, hd, po, sa⟩, n1⟩, ⟨C, aC, ⟨pg, hd, po, sa⟩, n2⟩⟩
theorem mf_mk {nm qual : Str} {st : Stmt} {C f : Addr} {oc kV doc pm cdv ct : Value} {od an : Option Addr} {osl : Array (Option Value)} (aC : PySem.W.nsIn K mainGlobals "Book" = some (some (.ref C))) (fi : PySem.W.findIn K (.ref C) nm = some (some (.ref f))) (fn : PySem.W.fnIn K f = true) (isf : PySem.W.isFn K (.ref f) = true)
    (l1 : K.lookup f = some ⟨oc, od, .func (PySem.W.fnOf nm qual (defArgs st) (defBody st) (defScope st) .none kV doc pm an cdv ct), osl⟩) (c : PySem.W.codeIn K cdv qual = true) (k : PySem.W.keepIn K (.ref f) = true) : MF K nm qual st := ⟨C, f, _, aC, fi, fn, isf, fun_mk l1 c k⟩
theorem cf_mk {st : Stmt} {C f : Addr} {oc kV doc pm cdv ct : Value} {od an : Option Addr} {osl : Array (Option Value)} (X : K.In h) (G : h.Ns mainGlobals mg) (aC : PySem.W.nsIn K mainGlobals "Book" = some (some (.ref C))) (mk : PySem.W.makesIn K C = true) (fi : PySem.W.findIn K (.ref C) "__init__" = some (some (.ref f))) (isf : PySem.W.isFn K (.ref f) = true) (kC : PySem.W.keepIn K (.ref C) = true)
    (l1 : K.lookup f = some ⟨oc, od, .func (PySem.W.fnOf "__init__" "Book.__init__" (defArgs st) (defBody st) (defScope st) .none kV doc pm an cdv ct), osl⟩) (c : PySem.W.codeIn K cdv "Book.__init__" = true) (k : PySem.W.keepIn K (.ref f) = true) : CF K mg st := ⟨C, f, _, aC, PySem.W.mg_of X G aC, ⟨mk, fi, isf, kC⟩, fun_mk l1 c k⟩
theorem sizes_at {d : Addr} {e1 e2 e3 e4 : DictEntry} {n : Nat} {t1 t2 t3 t4 u1 u2 u3 u4 : Tok} (l : K.lookup d = some ⟨.type "dict", none, .dict #[e1, e2, e3, e4] n, #[]⟩) (k1 : e1.key = .str "say" t1) (k2 : e2.key = .str "has" t2) (k3 : e3.key = .str "is" t3) (k4 : e4.key = .str "let" t4)
    (v1 : e1.val = .int 3 u1) (v2 : e2.val = .int 4 u2) (v3 : e3.val = .int 6 u3) (v4 : e4.val = .int 5 u4) (k : Str) : (∃ u v, PySem.W.nsIn K d k = some (some u) ∧ L2.RelV v u ∧ ∃ e, sizesD.lookup k = some e ∧ ∀ b G, Rp K b G v e) ∨ (PySem.W.nsIn K d k = some none ∧ sizesD.lookup k = none) := by
  have r1 : ∀ (y : Str) (t : Tok), (Value.str y t).isStr k = (y == k) := fun _ _ => rfl
  have ns : PySem.W.nsIn K d k = (match [e1, e2, e3, e4].find? (·.key.isStr k) with
      | some e => some (some e.val)
      | none => if [e1, e2, e3, e4].any (·.refKey) then none else some none) := by
    unfold PySem.W.nsIn
    rw [l]
    rfl
  have q1 : ∀ y : Str, (k == y) = (y == k) := fun y => by
    rw [Bool.eq_iff_iff, beq_iff_eq, beq_iff_eq]
    exact ⟨Eq.symm, Eq.symm⟩
  rw [ns]
  unfold sizesD
  simp only [List.find?, k1, k2, k3, k4, r1, List.lookup, q1]
  cases h1 : ((Str.ofString "say") == k) with
  | true => exact .inl ⟨_, .int 3, (show some (some e1.val) = some (some (.int 3 u1)) by rw [v1]), ⟨_, rfl⟩, _, rfl, fun _ _ => .int _⟩
  | false =>
    cases h2 : ((Str.ofString "has") == k) with
    | true => exact .inl ⟨_, .int 4, (show some (some e2.val) = some (some (.int 4 u2)) by rw [v2]), ⟨_, rfl⟩, _, rfl, fun _ _ => .int _⟩
    | false =>
      cases h3 : ((Str.ofString "is") == k) with
      | true => exact .inl ⟨_, .int 6, (show some (some e3.val) = some (some (.int 6 u3)) by rw [v3]), ⟨_, rfl⟩, _, rfl, fun _ _ => .int _⟩
      | false =>
        cases h4 : ((Str.ofString "let") == k) with
        | true => exact .inl ⟨_, .int 5, (show some (some e4.val) = some (some (.int 5 u4)) by rw [v4]), ⟨_, rfl⟩, _, rfl, fun _ _ => .int _⟩
        | false =>
          refine .inr ⟨?_, rfl⟩
          show (if [e1, e2, e3, e4].any (·.refKey) then none else some none) = some none
          rw [if_neg]
          simp [PySem.DictEntry.refKey, k1, k2, k3, k4]
theorem md_mk {d : Addr} {e1 e2 e3 e4 : DictEntry} {n : Nat} {t1 t2 t3 t4 u1 u2 u3 u4 tl tn tm tf : Tok} (X : K.In h) (G : h.Ns mainGlobals mg) (aL : PySem.W.nsIn K mainGlobals "LETTERS" = some (some (.str lettersS tl))) (aN : PySem.W.nsIn K mainGlobals "LONGEST" = some (some (.int 8 tn))) (aF : PySem.W.nsIn K mainGlobals "MOST_FIELDS" = some (some (.int 2 tf))) (aM : PySem.W.nsIn K mainGlobals "MOST_PARAMETERS" = some (some (.int 2 tm))) (aS : PySem.W.nsIn K mainGlobals "SIZES" = some (some (.ref d)))
    (l : K.lookup d = some ⟨.type "dict", none, .dict #[e1, e2, e3, e4] n, #[]⟩) (k1 : e1.key = .str "say" t1) (k2 : e2.key = .str "has" t2) (k3 : e3.key = .str "is" t3) (k4 : e4.key = .str "let" t4)
    (v1 : e1.val = .int 3 u1) (v2 : e2.val = .int 4 u2) (v3 : e3.val = .int 6 u3) (v4 : e4.val = .int 5 u4) (kl : PySem.W.KeysLit w.params [e1, e2, e3, e4]) (low : (d == sysModules) = false) (bl : ∀ x ∈ bltNames, mg x = none) : Md w K mg tab0 := by
  refine ⟨bl, fun x dd hx => ?_, fun x kv hx => ?_⟩
  · have hx : List.lookup x [(("LETTERS" : Str), D.str lettersS), (("LONGEST" : Str), D.int 8), (("MOST_FIELDS" : Str), D.int 2), (("MOST_PARAMETERS" : Str), D.int 2)] = some dd := hx
    simp only [List.lookup] at hx
    split at hx
    · rename_i e
      cases hx
      rw [beq_iff_eq.mp e]
      exact ⟨.str lettersS, _, PySem.W.mg_of X G aL, ⟨_, rfl⟩, fun _ _ => .str _ (by rw [sizeLine_eq]; decide) (by decide +kernel)⟩
    · split at hx
      · rename_i e
        cases hx
        rw [beq_iff_eq.mp e]
        exact ⟨.int 8, _, PySem.W.mg_of X G aN, ⟨_, rfl⟩, fun _ _ => .int _⟩
      · split at hx
        · rename_i e
          cases hx
          rw [beq_iff_eq.mp e]
          exact ⟨.int 2, _, PySem.W.mg_of X G aF, ⟨_, rfl⟩, fun _ _ => .int _⟩
        · split at hx
          · rename_i e
            cases hx
            rw [beq_iff_eq.mp e]
            exact ⟨.int 2, _, PySem.W.mg_of X G aM, ⟨_, rfl⟩, fun _ _ => .int _⟩
          · cases hx
  · have hx : List.lookup x [(("SIZES" : Str), sizesD)] = some kv := hx
    simp only [List.lookup] at hx
    split at hx
    · rename_i e
      cases hx
      rw [beq_iff_eq.mp e]
      exact ⟨d, _, n, PySem.W.mg_of X G aS, ⟨l, kl, low⟩, sizes_at l k1 k2 k3 k4 v1 v2 v3 v4⟩
    · cases hx
theorem blt_mk (X : K.In h) (G : h.Ns mainGlobals mg) (z_len : PySem.W.nsIn K mainGlobals "len" = some none) (z_tuple : PySem.W.nsIn K mainGlobals "tuple" = some none) (z_list : PySem.W.nsIn K mainGlobals "list" = some none) (z_all : PySem.W.nsIn K mainGlobals "all" = some none) (z_any : PySem.W.nsIn K mainGlobals "any" = some none) (z_int : PySem.W.nsIn K mainGlobals "int" = some none) (z_abs : PySem.W.nsIn K mainGlobals "abs" = some none) (z_isinstance : PySem.W.nsIn K mainGlobals "isinstance" = some none) (z_bool : PySem.W.nsIn K mainGlobals "bool" = some none) (z_str : PySem.W.nsIn K mainGlobals "str" = some none) (z_dict : PySem.W.nsIn K mainGlobals "dict" = some none) (z_range : PySem.W.nsIn K mainGlobals "range" = some none) (z_enumerate : PySem.W.nsIn K mainGlobals "enumerate" = some none) (z_zip : PySem.W.nsIn K mainGlobals "zip" = some none) (z_set : PySem.W.nsIn K mainGlobals "set" = some none) (z_sum : PySem.W.nsIn K mainGlobals "sum" = some none) (z_max : PySem.W.nsIn K mainGlobals "max" = some none) (z_min : PySem.W.nsIn K mainGlobals "min" = some none) (z_sorted : PySem.W.nsIn K mainGlobals "sorted" = some none) : ∀ x ∈ bltNames, mg x = none := fun x hx => by
  simp only [bltNames, List.mem_cons, List.not_mem_nil, or_false] at hx
  rcases hx with rfl | rfl | rfl | rfl | rfl | rfl | rfl | rfl | rfl | rfl | rfl | rfl | rfl | rfl | rfl | rfl | rfl | rfl | rfl
  · exact PySem.W.mg_none_of X G z_len
  · exact PySem.W.mg_none_of X G z_tuple
  · exact PySem.W.mg_none_of X G z_list
  · exact PySem.W.mg_none_of X G z_all
  · exact PySem.W.mg_none_of X G z_any
  · exact PySem.W.mg_none_of X G z_int
  · exact PySem.W.mg_none_of X G z_abs
  · exact PySem.W.mg_none_of X G z_isinstance
  · exact PySem.W.mg_none_of X G z_bool
  · exact PySem.W.mg_none_of X G z_str
  · exact PySem.W.mg_none_of X G z_dict
  · exact PySem.W.mg_none_of X G z_range
  · exact PySem.W.mg_none_of X G z_enumerate
  · exact PySem.W.mg_none_of X G z_zip
  · exact PySem.W.mg_none_of X G z_set
  · exact PySem.W.mg_none_of X G z_sum
  · exact PySem.W.mg_none_of X G z_max
  · exact PySem.W.mg_none_of X G z_min
  · exact PySem.W.mg_none_of X G z_sorted
theorem all_mk {l : PySem.W.OpenLaw} {fa : Addr} (M : Md w K mg tab0) (B : FlB K) (cf : CF K mg stInit) (mc : MF K "__contains__" "Book.__contains__" (inClass (Sg.topS 28) 8)) (mi : MF K "__getitem__" "Book.__getitem__" (inClass (Sg.topS 28) 9)) (dL : DF K mg "law" Sg.sLaw fa)
    (d_tupled : ∃ f, DF K mg "tupled" (Sg.topS 4) f)
    (d_is_number : ∃ f, DF K mg "is_number" (Sg.topS 5) f)
    (d_is_name : ∃ f, DF K mg "is_name" (Sg.topS 6) f)
    (d_are_names : ∃ f, DF K mg "are_names" (Sg.topS 7) f)
    (d_is_term : ∃ f, DF K mg "is_term" (Sg.topS 23) f)
    (d_is_change : ∃ f, DF K mg "is_change" (Sg.topS 24) f)
    (d_is_body : ∃ f, DF K mg "is_body" (Sg.topS 25) f)
    (d_is_kind_of : ∃ f, DF K mg "is_kind_of" (Sg.topS 26) f)
    (d_terms_of : ∃ f, DF K mg "terms_of" (Sg.topS 32) f)
    (d_has_read_name : ∃ f, DF K mg "has_read_name" (Sg.topS 34) f)
    (d_hides : ∃ f, DF K mg "hides" (Sg.topS 35) f)
    (d_branches_of : ∃ f, DF K mg "branches_of" (Sg.topS 27) f)
    (d_hiding : ∃ f, DF K mg "hiding" (Sg.topS 36) f)
    (d_is_telling : ∃ f, DF K mg "is_telling" (Sg.topS 37) f)
    (d_length_of : ∃ f, DF K mg "length_of" (Sg.topS 38) f)
    (d_is_call : ∃ f, DF K mg "is_call" (Sg.topS 16) f)
    (d_called : ∃ f, DF K mg "called" (Sg.topS 17) f)
    (d_lined : ∃ f, DF K mg "lined" (Sg.topS 18) f)
    (d_bound_of : ∃ f, DF K mg "bound_of" (Sg.topS 40) f)
    (d_most_calls : ∃ f, DF K mg "most_calls" (Sg.topS 41) f)
    (d_law_box : ∃ f, DF K mg "_law_box" (Sg.topS 43) f)
    (d_law_take : ∃ f, DF K mg "_law_take" (Sg.topS 44) f)
    (d_law_cells : ∃ f, DF K mg "_law_cells" (Sg.topS 45) f)
    (d_law_of : ∃ f, DF K mg "_law_of" (Sg.topS 46) f)
    (d_law_mixed : ∃ f, DF K mg "_law_mixed" (Sg.topS 47) f)
    (d_law_same : ∃ f, DF K mg "_law_same" (Sg.topS 48) f)
    (d_law_is_number : ∃ f, DF K mg "_law_is_number" (Sg.topS 49) f)
    (d_law_names : ∃ f, DF K mg "_law_names" (Sg.topS 50) f)
    (d_law_pool : ∃ f, DF K mg "_law_pool" (Sg.topS 51) f)
    (d_law_say : ∃ f, DF K mg "_law_say" (Sg.topS 52) f)
    (d_law_body : ∃ f, DF K mg "_law_body" (Sg.topS 53) f)
    (d_law_kind : ∃ f, DF K mg "_law_kind" (Sg.topS 54) f)
    (d_law_call : ∃ f, DF K mg "_law_call" (Sg.topS 55) f)
    (d_law_calls : ∃ f, DF K mg "_law_calls" (Sg.topS 56) f)
    (d_law_kind_of : ∃ f, DF K mg "_law_kind_of" (Sg.topS 57) f)
    (d_law_says : ∃ f, DF K mg "_law_says" (Sg.topS 58) f)
    (d_law_tells : ∃ f, DF K mg "_law_tells" (Sg.topS 59) f)
    (d_law_due : ∃ f, DF K mg "_law_due" (Sg.topS 60) f)
    (d_law_by_hand_right : ∃ f, DF K mg "_law_by_hand_right" (Sg.topS 61) f)
    (d_law_right : ∃ f, DF K mg "_law_right" (Sg.topS 62) f) :
    ∃ fd : FuncData, (∀ (s : Shared) (v : Value), BindsTo s fd ⟨[v], []⟩ [("_law_script", v)]) ∧ ∀ base : Heap, K.In base → base.Ns mainGlobals mg → FnOk l.prog w K mg base CX0 30 fa fd ["_law_script"] (Sg.spLaw K) := by
  have Z : Sg.Blt mg := ⟨M.blt _ (by decide +kernel), M.blt _ (by decide +kernel), M.blt _ (by decide +kernel), M.blt _ (by decide +kernel), M.blt _ (by decide +kernel), M.blt _ (by decide +kernel), M.blt _ (by decide +kernel), M.blt _ (by decide +kernel), M.blt _ (by decide +kernel), M.blt _ (by decide +kernel), M.blt _ (by decide +kernel), M.blt _ (by decide +kernel), M.blt _ (by decide +kernel), M.blt _ (by decide +kernel)⟩
  obtain ⟨_, fdL, FL⟩ := dL
  refine ⟨fdL, fun s v => law_binds FL s v, fun base _ _ => ?_⟩
  have i_num := q_is_number (P := l.prog) (base := base) M B d_is_number
  have i_name := q_is_name (P := l.prog) (base := base) M B d_is_name
  have i_names := q_are_names M B d_are_names i_name
  have i_term := q_is_term M B d_is_term i_num
  have i_change := q_is_change M B d_is_change i_term
  have i_body := q_is_body M B d_is_body i_name i_term i_change 20
  have i_kind := q_is_kind_of M B d_is_kind_of i_name i_names i_body
  have i_tup := q_tupled (P := l.prog) (base := base) M B d_tupled
  have book := c_Book M B cf (i_tup 14) i_names i_kind
  have p_has := m_Book_contains (P := l.prog) (base := base) M B mc
  have p_get := m_Book_getitem (P := l.prog) (base := base) M B mi
  have p_terms := q_terms_of (P := l.prog) (base := base) M B d_terms_of
  have p_read := q_has_read_name M B d_has_read_name p_terms
  have p_hides := q_hides M B d_hides p_read
  have p_brs := q_branches_of (P := l.prog) (base := base) M B d_branches_of 8
  have p_hiding := q_hiding M B d_hiding p_brs p_hides p_get
  have p_tell := q_is_telling M B d_is_telling p_hiding
  have p_len := q_length_of M B d_length_of p_brs p_get
  have p_iscall := q_is_call M B d_is_call i_num p_get p_has
  have p_called := q_called M B d_called (i_tup 2) p_iscall
  have p_lined := q_lined M B d_lined p_called
  have p_bound := q_bound_of M B d_bound_of p_len p_tell
  have p_most := q_most_calls M B d_most_calls p_bound p_lined
  have p_mostk := k_most_calls M B d_most_calls p_bound p_lined
  have l_num := q_law_is_number (P := l.prog) (base := base) M B d_law_is_number
  have take : FnQ l.prog w K mg base 1 "_law_take" fsTake := by
    obtain ⟨f, g, fd, F⟩ := d_law_take
    exact ⟨f, fd, _, g, F.kp, F.binds fun _ _ _ _ _ _ us hl => match us, hl with | [_, _], _ => rfl, take_fs (Sg.ok_take F Z)⟩
  have g_of := q_law_of M B d_law_of take
  have g_names := q_law_names M B d_law_names take g_of
  have g_pool := q_law_pool M B d_law_pool take
  have g_say := q_law_say M B d_law_say take g_of
  have g_body := q_law_body M B d_law_body take g_of g_say 4
  have g_kind := q_law_kind M B d_law_kind take g_of g_body
  have g_call := q_law_call M B d_law_call g_of
  have g_calls := q_law_calls M B d_law_calls g_call
  have g_ko := q_law_kind_of (P := l.prog) (base := base) M B d_law_kind_of
  have g_says := q_law_says (P := l.prog) (base := base) M B d_law_says 8
  have g_tells := q_law_tells (P := l.prog) (base := base) M B d_law_tells
  have g_due := q_law_due M B d_law_due g_ko g_says g_tells
  have g_mixed := q_law_mixed M B d_law_mixed take 4
  have same0 := q_law_same0 M B d_law_same l_num
  have same := q_law_same M B d_law_same same0
  have hand := q_law_by_hand_right M B d_law_by_hand_right p_most same book
  have right := q_law_right M B d_law_right p_most same hand g_names take g_kind g_calls g_pool g_of g_due g_mixed book p_mostk
  obtain ⟨fR, fdR, psR, gR, kR, bR, GR⟩ := right.ex
  obtain ⟨fC, gC, fdC, FC⟩ := d_law_cells
  obtain ⟨fB, gB, fdB, FB⟩ := d_law_box
  exact Sg.ok_law FL Z (Sg.ok_cells FC Z) gC FC.kp (FC.binds fun _ _ _ _ _ _ us hl => match us, hl with | [_, _], _ => rfl) (Sg.ok_box FB Z) gB FB.kp (FB.binds fun _ _ _ _ _ _ us hl => match us, hl with | [_, _], _ => rfl) (Sg.right_dn GR) gR kR bR
end
end Dl

set_option Elab.async false
set_option linter.all false
open PySem PySem.W PyProof.Rows in
set_option maxRecDepth 100000 in
set_option maxHeartbeats 0 in
theorem PySem.Challenge.cw_stillgood_k23_how_many_calls_at_most_holds : PySem.Challenge.rw_stillgood_k23_how_many_calls_at_most.Holds := by
  w_on; o_law; k_head; (case hw => w_witness2)
  k_fill
  refine L2.walk_of (l := PySem.Challenge.rw_stillgood_k23_how_many_calls_at_most) (n := 63) (k := 30) (x := "_law_script") (CX := fun _ => L2.CX0) (sp := fun w => Sg.spLaw _) rfl (by decide) rfl ⟨rfl, by decide, by decide⟩ (fun w h Y => PySem.W.kIn_of Y) ?F (fun _ _ a ns hl _ hS => ⟨a, ns, rfl, hS, hl, fun _ => rfl⟩) fun _ _ _ _ _ z => z
  case F =>
    intro w mg fa h KX G hmg
    refine' Dl.all_mk (l := PySem.Challenge.rw_stillgood_k23_how_many_calls_at_most) ?hxM ?hxB ?hxcf ?hxmc ?hxmi ?hxdL ?hxd_tupled ?hxd_is_number ?hxd_is_name ?hxd_are_names ?hxd_is_term ?hxd_is_change ?hxd_is_body ?hxd_is_kind_of ?hxd_terms_of ?hxd_has_read_name ?hxd_hides ?hxd_branches_of ?hxd_hiding ?hxd_is_telling ?hxd_length_of ?hxd_is_call ?hxd_called ?hxd_lined ?hxd_bound_of ?hxd_most_calls ?hxd_law_box ?hxd_law_take ?hxd_law_cells ?hxd_law_of ?hxd_law_mixed ?hxd_law_same ?hxd_law_is_number ?hxd_law_names ?hxd_law_pool ?hxd_law_say ?hxd_law_body ?hxd_law_kind ?hxd_law_call ?hxd_law_calls ?hxd_law_kind_of ?hxd_law_says ?hxd_law_tells ?hxd_law_due ?hxd_law_by_hand_right ?hxd_law_right
    case hxM =>
      refine' Dl.md_mk KX G ?hxmaL ?hxmaN ?hxmaF ?hxmaM ?hxmaS ?hxml ?hxmk1 ?hxmk2 ?hxmk3 ?hxmk4 ?hxmv1 ?hxmv2 ?hxmv3 ?hxmv4 ?hxmkl ?hxmlow ?hxmbl
      (case hxmaL => k_is); (case hxmaN => k_is); (case hxmaF => k_is); (case hxmaM => k_is); (case hxmaS => k_is); (case hxml => k_is)
      (case hxmk1 => exact rfl); (case hxmk2 => exact rfl); (case hxmk3 => exact rfl); (case hxmk4 => exact rfl); (case hxmv1 => exact rfl); (case hxmv2 => exact rfl); (case hxmv3 => exact rfl); (case hxmv4 => exact rfl)
      (case hxmkl => k_keys); (case hxmlow => first | rfl | decide)
      case hxmbl =>
        refine' Dl.blt_mk KX G ?zb0 ?zb1 ?zb2 ?zb3 ?zb4 ?zb5 ?zb6 ?zb7 ?zb8 ?zb9 ?zb10 ?zb11 ?zb12 ?zb13 ?zb14 ?zb15 ?zb16 ?zb17 ?zb18
        (case zb0 => k_is); (case zb1 => k_is); (case zb2 => k_is); (case zb3 => k_is); (case zb4 => k_is); (case zb5 => k_is); (case zb6 => k_is); (case zb7 => k_is); (case zb8 => k_is); (case zb9 => k_is); (case zb10 => k_is); (case zb11 => k_is); (case zb12 => k_is); (case zb13 => k_is); (case zb14 => k_is); (case zb15 => k_is); (case zb16 => k_is); (case zb17 => k_is); (case zb18 => k_is)
    case hxB =>
      refine' Dl.fl_mk  ?hxBaC ?hxBpg ?hxBhd ?hxBpo ?hxBsa ?hxBn1 ?hxBn2
      (case hxBaC => k_is); (case hxBpg => k_is); (case hxBhd => k_is); (case hxBpo => k_is); (case hxBsa => k_is); (case hxBn1 => k_is); (case hxBn2 => k_is)
    case hxcf =>
      refine' Dl.cf_mk KX G ?hxcfaC ?hxcfmk ?hxcffi ?hxcfisf ?hxcfkC ?hxcfl1 ?hxcfc ?hxcfk
      (case hxcfaC => k_is); (case hxcfmk => k_is); (case hxcffi => k_is); (case hxcfisf => k_is); (case hxcfkC => k_is); (case hxcfl1 => k_is); (case hxcfc => k_is); (case hxcfk => k_is)
    case hxmc =>
      refine' Dl.mf_mk  ?hxmcaC ?hxmcfi ?hxmcfn ?hxmcisf ?hxmcl1 ?hxmcc ?hxmck
      (case hxmcaC => k_is); (case hxmcfi => k_is); (case hxmcfn => k_is); (case hxmcisf => k_is); (case hxmcl1 => k_is); (case hxmcc => k_is); (case hxmck => k_is)
    case hxmi =>
      refine' Dl.mf_mk  ?hxmiaC ?hxmifi ?hxmifn ?hxmiisf ?hxmil1 ?hxmic ?hxmik
      (case hxmiaC => k_is); (case hxmifi => k_is); (case hxmifn => k_is); (case hxmiisf => k_is); (case hxmil1 => k_is); (case hxmic => k_is); (case hxmik => k_is)
    case hxdL =>
      refine' Dl.def_mkL KX G hmg ?aL9 ?lL9 ?cL9 ?kL9
      (case aL9 => k_is); (case lL9 => k_is); (case cL9 => k_is); (case kL9 => k_is)
    case hxd_tupled =>
      refine' Dl.def_mk KX G ?a_tupled ?l_tupled ?c_tupled ?k_tupled
      (case a_tupled => k_is); (case l_tupled => k_is); (case c_tupled => k_is); (case k_tupled => k_is)
    case hxd_is_number =>
      refine' Dl.def_mk KX G ?a_is_number ?l_is_number ?c_is_number ?k_is_number
      (case a_is_number => k_is); (case l_is_number => k_is); (case c_is_number => k_is); (case k_is_number => k_is)
    case hxd_is_name =>
      refine' Dl.def_mk KX G ?a_is_name ?l_is_name ?c_is_name ?k_is_name
      (case a_is_name => k_is); (case l_is_name => k_is); (case c_is_name => k_is); (case k_is_name => k_is)
    case hxd_are_names =>
      refine' Dl.def_mk KX G ?a_are_names ?l_are_names ?c_are_names ?k_are_names
      (case a_are_names => k_is); (case l_are_names => k_is); (case c_are_names => k_is); (case k_are_names => k_is)
    case hxd_is_term =>
      refine' Dl.def_mk KX G ?a_is_term ?l_is_term ?c_is_term ?k_is_term
      (case a_is_term => k_is); (case l_is_term => k_is); (case c_is_term => k_is); (case k_is_term => k_is)
    case hxd_is_change =>
      refine' Dl.def_mk KX G ?a_is_change ?l_is_change ?c_is_change ?k_is_change
      (case a_is_change => k_is); (case l_is_change => k_is); (case c_is_change => k_is); (case k_is_change => k_is)
    case hxd_is_body =>
      refine' Dl.def_mk KX G ?a_is_body ?l_is_body ?c_is_body ?k_is_body
      (case a_is_body => k_is); (case l_is_body => k_is); (case c_is_body => k_is); (case k_is_body => k_is)
    case hxd_is_kind_of =>
      refine' Dl.def_mk KX G ?a_is_kind_of ?l_is_kind_of ?c_is_kind_of ?k_is_kind_of
      (case a_is_kind_of => k_is); (case l_is_kind_of => k_is); (case c_is_kind_of => k_is); (case k_is_kind_of => k_is)
    case hxd_terms_of =>
      refine' Dl.def_mk KX G ?a_terms_of ?l_terms_of ?c_terms_of ?k_terms_of
      (case a_terms_of => k_is); (case l_terms_of => k_is); (case c_terms_of => k_is); (case k_terms_of => k_is)
    case hxd_has_read_name =>
      refine' Dl.def_mk KX G ?a_has_read_name ?l_has_read_name ?c_has_read_name ?k_has_read_name
      (case a_has_read_name => k_is); (case l_has_read_name => k_is); (case c_has_read_name => k_is); (case k_has_read_name => k_is)
    case hxd_hides =>
      refine' Dl.def_mk KX G ?a_hides ?l_hides ?c_hides ?k_hides
      (case a_hides => k_is); (case l_hides => k_is); (case c_hides => k_is); (case k_hides => k_is)
    case hxd_branches_of =>
      refine' Dl.def_mk KX G ?a_branches_of ?l_branches_of ?c_branches_of ?k_branches_of
      (case a_branches_of => k_is); (case l_branches_of => k_is); (case c_branches_of => k_is); (case k_branches_of => k_is)
    case hxd_hiding =>
      refine' Dl.def_mk KX G ?a_hiding ?l_hiding ?c_hiding ?k_hiding
      (case a_hiding => k_is); (case l_hiding => k_is); (case c_hiding => k_is); (case k_hiding => k_is)
    case hxd_is_telling =>
      refine' Dl.def_mk KX G ?a_is_telling ?l_is_telling ?c_is_telling ?k_is_telling
      (case a_is_telling => k_is); (case l_is_telling => k_is); (case c_is_telling => k_is); (case k_is_telling => k_is)
    case hxd_length_of =>
      refine' Dl.def_mk KX G ?a_length_of ?l_length_of ?c_length_of ?k_length_of
      (case a_length_of => k_is); (case l_length_of => k_is); (case c_length_of => k_is); (case k_length_of => k_is)
    case hxd_is_call =>
      refine' Dl.def_mk KX G ?a_is_call ?l_is_call ?c_is_call ?k_is_call
      (case a_is_call => k_is); (case l_is_call => k_is); (case c_is_call => k_is); (case k_is_call => k_is)
    case hxd_called =>
      refine' Dl.def_mk KX G ?a_called ?l_called ?c_called ?k_called
      (case a_called => k_is); (case l_called => k_is); (case c_called => k_is); (case k_called => k_is)
    case hxd_lined =>
      refine' Dl.def_mk KX G ?a_lined ?l_lined ?c_lined ?k_lined
      (case a_lined => k_is); (case l_lined => k_is); (case c_lined => k_is); (case k_lined => k_is)
    case hxd_bound_of =>
      refine' Dl.def_mk KX G ?a_bound_of ?l_bound_of ?c_bound_of ?k_bound_of
      (case a_bound_of => k_is); (case l_bound_of => k_is); (case c_bound_of => k_is); (case k_bound_of => k_is)
    case hxd_most_calls =>
      refine' Dl.def_mk KX G ?a_most_calls ?l_most_calls ?c_most_calls ?k_most_calls
      (case a_most_calls => k_is); (case l_most_calls => k_is); (case c_most_calls => k_is); (case k_most_calls => k_is)
    case hxd_law_box =>
      refine' Dl.def_mk KX G ?a_law_box ?l_law_box ?c_law_box ?k_law_box
      (case a_law_box => k_is); (case l_law_box => k_is); (case c_law_box => k_is); (case k_law_box => k_is)
    case hxd_law_take =>
      refine' Dl.def_mk KX G ?a_law_take ?l_law_take ?c_law_take ?k_law_take
      (case a_law_take => k_is); (case l_law_take => k_is); (case c_law_take => k_is); (case k_law_take => k_is)
    case hxd_law_cells =>
      refine' Dl.def_mk KX G ?a_law_cells ?l_law_cells ?c_law_cells ?k_law_cells
      (case a_law_cells => k_is); (case l_law_cells => k_is); (case c_law_cells => k_is); (case k_law_cells => k_is)
    case hxd_law_of =>
      refine' Dl.def_mk KX G ?a_law_of ?l_law_of ?c_law_of ?k_law_of
      (case a_law_of => k_is); (case l_law_of => k_is); (case c_law_of => k_is); (case k_law_of => k_is)
    case hxd_law_mixed =>
      refine' Dl.def_mk KX G ?a_law_mixed ?l_law_mixed ?c_law_mixed ?k_law_mixed
      (case a_law_mixed => k_is); (case l_law_mixed => k_is); (case c_law_mixed => k_is); (case k_law_mixed => k_is)
    case hxd_law_same =>
      refine' Dl.def_mk KX G ?a_law_same ?l_law_same ?c_law_same ?k_law_same
      (case a_law_same => k_is); (case l_law_same => k_is); (case c_law_same => k_is); (case k_law_same => k_is)
    case hxd_law_is_number =>
      refine' Dl.def_mk KX G ?a_law_is_number ?l_law_is_number ?c_law_is_number ?k_law_is_number
      (case a_law_is_number => k_is); (case l_law_is_number => k_is); (case c_law_is_number => k_is); (case k_law_is_number => k_is)
    case hxd_law_names =>
      refine' Dl.def_mk KX G ?a_law_names ?l_law_names ?c_law_names ?k_law_names
      (case a_law_names => k_is); (case l_law_names => k_is); (case c_law_names => k_is); (case k_law_names => k_is)
    case hxd_law_pool =>
      refine' Dl.def_mk KX G ?a_law_pool ?l_law_pool ?c_law_pool ?k_law_pool
      (case a_law_pool => k_is); (case l_law_pool => k_is); (case c_law_pool => k_is); (case k_law_pool => k_is)
    case hxd_law_say =>
      refine' Dl.def_mk KX G ?a_law_say ?l_law_say ?c_law_say ?k_law_say
      (case a_law_say => k_is); (case l_law_say => k_is); (case c_law_say => k_is); (case k_law_say => k_is)
    case hxd_law_body =>
      refine' Dl.def_mk KX G ?a_law_body ?l_law_body ?c_law_body ?k_law_body
      (case a_law_body => k_is); (case l_law_body => k_is); (case c_law_body => k_is); (case k_law_body => k_is)
    case hxd_law_kind =>
      refine' Dl.def_mk KX G ?a_law_kind ?l_law_kind ?c_law_kind ?k_law_kind
      (case a_law_kind => k_is); (case l_law_kind => k_is); (case c_law_kind => k_is); (case k_law_kind => k_is)
    case hxd_law_call =>
      refine' Dl.def_mk KX G ?a_law_call ?l_law_call ?c_law_call ?k_law_call
      (case a_law_call => k_is); (case l_law_call => k_is); (case c_law_call => k_is); (case k_law_call => k_is)
    case hxd_law_calls =>
      refine' Dl.def_mk KX G ?a_law_calls ?l_law_calls ?c_law_calls ?k_law_calls
      (case a_law_calls => k_is); (case l_law_calls => k_is); (case c_law_calls => k_is); (case k_law_calls => k_is)
    case hxd_law_kind_of =>
      refine' Dl.def_mk KX G ?a_law_kind_of ?l_law_kind_of ?c_law_kind_of ?k_law_kind_of
      (case a_law_kind_of => k_is); (case l_law_kind_of => k_is); (case c_law_kind_of => k_is); (case k_law_kind_of => k_is)
    case hxd_law_says =>
      refine' Dl.def_mk KX G ?a_law_says ?l_law_says ?c_law_says ?k_law_says
      (case a_law_says => k_is); (case l_law_says => k_is); (case c_law_says => k_is); (case k_law_says => k_is)
    case hxd_law_tells =>
      refine' Dl.def_mk KX G ?a_law_tells ?l_law_tells ?c_law_tells ?k_law_tells
      (case a_law_tells => k_is); (case l_law_tells => k_is); (case c_law_tells => k_is); (case k_law_tells => k_is)
    case hxd_law_due =>
      refine' Dl.def_mk KX G ?a_law_due ?l_law_due ?c_law_due ?k_law_due
      (case a_law_due => k_is); (case l_law_due => k_is); (case c_law_due => k_is); (case k_law_due => k_is)
    case hxd_law_by_hand_right =>
      refine' Dl.def_mk KX G ?a_law_by_hand_right ?l_law_by_hand_right ?c_law_by_hand_right ?k_law_by_hand_right
      (case a_law_by_hand_right => k_is); (case l_law_by_hand_right => k_is); (case c_law_by_hand_right => k_is); (case k_law_by_hand_right => k_is)
    case hxd_law_right =>
      refine' Dl.def_mk KX G ?a_law_right ?l_law_right ?c_law_right ?k_law_right
      (case a_law_right => k_is); (case l_law_right => k_is); (case c_law_right => k_is); (case k_law_right => k_is)
